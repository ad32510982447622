import PyProof.Rows.All
import Wide.All
import OpenK.AllK
import Wide.FinOn
import HandS.ForMost
import HandS.IsInst
import HandS.TupAny
import HandS.TupMul
import HandS.Style
import HandS.Wide
import HandS.More
import HandS.ExcInit
import HandS.ExcOwn
import HandS.WordsExc
import KE.GoesMore
import HandS.Deep
import HandS.HotCalls
import HandS.ExcIs
import HandS.Zip
import HandS.ExcCtx
import HandS.Lambda
import HandS.CallLocal
import HandS.EndTab
import HandS.ExcValue
import KE.KOpsOwn
import HandS.SlotsOwn
import HandS.Defaults
import HandS.HeadWalk
import PySem.Challenge.RW_boughttwice_k19_names_of_refusals
set_option Elab.async false
set_option linter.all false
set_option maxRecDepth 100000
set_option maxHeartbeats 4000000
namespace DL
open PySem PySem.Spec L2

/-! ### data at a value -/
mutual
inductive At (K : PySem.W.Frag) (H : Hp) : V → PyData → Prop
  | non : At K H .non .none
  | bl (b : Bool) : At K H (.bl b) (.bool b)
  | int (i : Int) : At K H (.int i) (.int i)
  | str (x : Str) : At K H (.str x) (.str x)
  | lst {a : Addr} {xs : List V} {ds : List PyData} : H a = some (.lst xs) → AtAll K H xs ds → At K H (.ref a) (.list ds)
  | tup {a : Addr} {xs : List V} {ds : List PyData} : SqT K H a xs → AtAll K H xs ds → At K H (.ref a) (.tuple ds)
inductive AtAll (K : PySem.W.Frag) (H : Hp) : List V → List PyData → Prop
  | nil : AtAll K H [] []
  | cons {v : V} {vs : List V} {d : PyData} {ds : List PyData} : At K H v d → AtAll K H vs ds → AtAll K H (v :: vs) (d :: ds)
end
theorem SqT.same {K : PySem.W.Frag} {H H' : Hp} {a : Addr} {xs : List V} (e : Same H H') (h : SqT K H a xs) : SqT K H' a xs := by
  rcases h with (h | ⟨o, h⟩) | h
  · exact .inl (.inl (e _ _ h))
  · exact .inl (.inr ⟨o, e _ _ h⟩)
  · exact .inr h
mutual
theorem At.same {K : PySem.W.Frag} {H H' : Hp} (e : Same H H') : ∀ {v : V} {d : PyData}, At K H v d → At K H' v d
  | _, _, .non => .non
  | _, _, .bl b => .bl b
  | _, _, .int b => .int b
  | _, _, .str b => .str b
  | _, _, .lst h t => .lst (e _ _ h) (AtAll.same e t)
  | _, _, .tup h t => .tup (SqT.same e h) (AtAll.same e t)
theorem AtAll.same {K : PySem.W.Frag} {H H' : Hp} (e : Same H H') : ∀ {v : List V} {d : List PyData}, AtAll K H v d → AtAll K H' v d
  | _, _, .nil => .nil
  | _, _, .cons h t => .cons (At.same e h) (AtAll.same e t)
end
mutual
theorem At.dp {K : PySem.W.Frag} {H : Hp} : ∀ {v : V} {d : PyData}, At K H v d → Dp K H v d
  | _, _, .non => .non
  | _, _, .bl b => .bl b
  | _, _, .int b => .int b
  | _, _, .str b => .str b
  | _, _, .lst h t => .lst (SqL.of h) (AtAll.dp t)
  | _, _, .tup h t => .tup h (AtAll.dp t)
theorem AtAll.dp {K : PySem.W.Frag} {H : Hp} : ∀ {v : List V} {d : List PyData}, AtAll K H v d → DpAll K H v d
  | _, _, .nil => .nil
  | _, _, .cons h t => .cons (At.dp h) (AtAll.dp t)
end
section
variable {K : PySem.W.Frag} {H : Hp}
theorem AtAll.length : ∀ {vs : List V} {ds : List PyData}, AtAll K H vs ds → vs.length = ds.length
  | _, _, .nil => rfl
  | _, _, .cons _ t => by rw [List.length_cons, List.length_cons, AtAll.length t]
theorem AtAll.get : ∀ {vs : List V} {ds : List PyData} {i : Nat} {v : V}, AtAll K H vs ds → vs[i]? = some v → ∃ d, ds[i]? = some d ∧ At K H v d
  | _, _, _, _, .nil, e => by simp at e
  | _, _, 0, _, .cons h _, e => by simp at e; subst e; exact ⟨_, rfl, h⟩
  | _, _, i + 1, _, .cons _ t, e => by
    obtain ⟨d, h1, h2⟩ := AtAll.get (i := i) t (by simpa using e)
    exact ⟨d, by simpa using h1, h2⟩
theorem AtAll.get' : ∀ {vs : List V} {ds : List PyData} {i : Nat} {d : PyData}, AtAll K H vs ds → ds[i]? = some d → ∃ v, vs[i]? = some v ∧ At K H v d
  | _, _, _, _, .nil, e => by simp at e
  | _, _, 0, _, .cons h _, e => by simp at e; subst e; exact ⟨_, rfl, h⟩
  | _, _, i + 1, _, .cons _ t, e => by
    obtain ⟨d, h1, h2⟩ := AtAll.get' (i := i) t (by simpa using e)
    exact ⟨d, by simpa using h1, h2⟩
theorem AtAll.append : ∀ {vs us : List V} {ds es : List PyData}, AtAll K H vs ds → AtAll K H us es → AtAll K H (vs ++ us) (ds ++ es)
  | _, _, _, _, .nil, h => h
  | _, _, _, _, .cons h t, q => .cons h (AtAll.append t q)
theorem AtAll.take : ∀ {vs : List V} {ds : List PyData} (n : Nat), AtAll K H vs ds → AtAll K H (vs.take n) (ds.take n)
  | _, _, 0, _ => .nil
  | _, _, _ + 1, .nil => .nil
  | _, _, n + 1, .cons r t => .cons r (AtAll.take n t)
theorem AtAll.drop : ∀ {vs : List V} {ds : List PyData} (n : Nat), AtAll K H vs ds → AtAll K H (vs.drop n) (ds.drop n)
  | _, _, 0, r => r
  | _, _, _ + 1, .nil => .nil
  | _, _, n + 1, .cons _ t => AtAll.drop n t
theorem AtAll.one {v : V} {d : PyData} (h : At K H v d) : AtAll K H [v] [d] := .cons h .nil
theorem AtAll.rev : ∀ {vs : List V} {ds : List PyData}, AtAll K H vs ds → AtAll K H vs.reverse ds.reverse
  | _, _, .nil => .nil
  | _, _, .cons h t => by rw [List.reverse_cons, List.reverse_cons]; exact (AtAll.rev t).append (.one h)
theorem AtAll.set : ∀ {vs : List V} {ds : List PyData} (i : Nat) {v : V} {d : PyData}, At K H v d → AtAll K H vs ds → AtAll K H (vs.set i v) (ds.set i d)
  | _, _, _, _, _, _, .nil => .nil
  | _, _, 0, _, _, h, .cons _ t => .cons h t
  | _, _, i + 1, _, _, h, .cons q t => .cons q (AtAll.set i h t)
theorem AtAll.eraseIdx : ∀ {vs : List V} {ds : List PyData} (i : Nat), AtAll K H vs ds → AtAll K H (vs.eraseIdx i) (ds.eraseIdx i)
  | _, _, _, .nil => .nil
  | _, _, 0, .cons _ t => t
  | _, _, i + 1, .cons q t => .cons q (AtAll.eraseIdx i t)
theorem AtAll.rep {vs : List V} {ds : List PyData} (h : AtAll K H vs ds) : ∀ n : Nat, AtAll K H (List.replicate n vs).flatten (List.replicate n ds).flatten
  | 0 => .nil
  | n + 1 => by rw [List.replicate_succ, List.replicate_succ, List.flatten_cons, List.flatten_cons]; exact h.append (AtAll.rep h n)
theorem AtAll.none_of {vs : List V} {ds : List PyData} {i : Nat} (h : AtAll K H vs ds) (e : vs[i]? = none) : ds[i]? = none := by
  rw [List.getElem?_eq_none_iff] at *
  rw [← h.length]; exact e
end

/-! ### mutable surroundings -/
structure DC where
  M : Addr → Prop
  F : Addr → Prop
  J : Hp → Prop
  mf : ∀ b, M b → F b
  js : ∀ H H' : Hp, (∀ b o, (F b ∨ ∃ φ, o = HO.ext φ) → H b = some o → H' b = some o) → J H → J H'
/-- nothing mutable around -/
def pureC : DC := ⟨fun _ => False, fun _ => False, fun _ => True, fun _ h => h, fun _ _ _ h => h⟩
/-- the law's tape at t: [the list of the ints ns at s, a number, a number] -/
def tapeC (t s : Addr) (ns : List Int) : DC where
  M := fun b => b = t
  F := fun b => b = t ∨ b = s
  J := fun H => ∃ i c : Int, 0 ≤ i ∧ 0 ≤ c ∧ H t = some (.lst [.ref s, .int i, .int c]) ∧ H s = some (.lst (ns.map V.int))
  mf := fun _ h => .inl h
  js := fun H H' k ⟨i, c, h0, h1, h2, h3⟩ => ⟨i, c, h0, h1, k _ _ (.inl (.inl rfl)) h2, k _ _ (.inl (.inr rfl)) h3⟩
/-- C' is a part of C -/
structure DC.Sub (C' C : DC) : Prop where
  m : ∀ b, C'.M b → C.M b
  j : ∀ H, C.J H → C'.J H
  back : ∀ H H' : Hp, (∀ b o, ¬ C'.M b → H b = some o → H' b = some o) → C.J H → C'.J H' → C.J H'
theorem DC.Sub.refl (C : DC) : C.Sub C := ⟨fun _ h => h, fun _ h => h, fun _ _ _ _ h => h⟩
theorem DC.Sub.trans {A B C : DC} (h : A.Sub B) (k : B.Sub C) : A.Sub C := ⟨fun b z => k.m b (h.m b z), fun H z => h.j H (k.j H z), fun H H' e j a => k.back H H' (fun b o n q => e b o (fun z => n (h.m b z)) q) j (h.back H H' e (k.j H j) a)⟩
theorem pure_sub (C : DC) : pureC.Sub C := ⟨fun _ h => h.elim, fun _ _ => trivial, fun H H' e j _ => C.js H H' (fun b o _ q => e b o (fun z => z) q) j⟩

structure Ext (M : Addr → Prop) (G H G' H' : Hp) : Prop where
  same : ∀ b o, ¬ M b → H b = some o → H' b = some o
  there : ∀ b o, H b = some o → ∃ o', H' b = some o'
  sub : Same G' H'
  gs : Same G G'
  sep : ∀ b o, H b = some o → G b = none → G' b = none
theorem Ext.refl {M : Addr → Prop} {G H : Hp} (h : Same G H) : Ext M G H G H := ⟨fun _ _ _ e => e, fun _ _ e => ⟨_, e⟩, h, fun _ _ e => e, fun _ _ _ e => e⟩
theorem Ext.trans {M : Addr → Prop} {G H G1 H1 G2 H2 : Hp} (a : Ext M G H G1 H1) (b : Ext M G1 H1 G2 H2) : Ext M G H G2 H2 where
  same := fun c o n e => b.same c o n (a.same c o n e)
  there := fun c o e => let ⟨o', e'⟩ := a.there c o e; b.there c o' e'
  sub := b.sub
  gs := fun c o e => b.gs c o (a.gs c o e)
  sep := fun c o e n => let ⟨o', e'⟩ := a.there c o e; b.sep c o' e' (a.sep c o e n)
theorem Ext.weak {M M' : Addr → Prop} {G H G' H' : Hp} (a : Ext M G H G' H') (h : ∀ b, M b → M' b) : Ext M' G H G' H' :=
  ⟨fun b o n e => a.same b o (fun z => n (h b z)) e, a.there, a.sub, a.gs, a.sep⟩
/-- a new object, data -/
theorem Ext.new {M : Addr → Prop} {G H : Hp} {p : Addr} {o : HO} (h : Same G H) (hp : H p = none) : Ext M G H (upd G p o) (upd H p o) where
  same := fun b u _ e => by rw [upd_ne (ne_of_none e hp)]; exact e
  there := fun b u e => ⟨u, by rw [upd_ne (ne_of_none e hp)]; exact e⟩
  sub := fun b u e => by
    by_cases hb : b = p
    · subst hb; rw [upd_same] at e ⊢; exact e
    · rw [upd_ne hb] at e ⊢; exact h b u e
  gs := fun b u e => by rw [upd_ne (ne_of_none (h b u e) hp)]; exact e
  sep := fun b u e n => by rw [upd_ne (ne_of_none e hp)]; exact n
/-- a new object, not (yet) data -/
theorem Ext.newM {M : Addr → Prop} {G H : Hp} {p : Addr} {o : HO} (h : Same G H) (hp : H p = none) : Ext M G H G (upd H p o) where
  same := fun b u _ e => by rw [upd_ne (ne_of_none e hp)]; exact e
  there := fun b u e => ⟨u, by rw [upd_ne (ne_of_none e hp)]; exact e⟩
  sub := fun b u e => by rw [upd_ne (ne_of_none (h b u e) hp)]; exact h b u e
  gs := fun b u e => e
  sep := fun b u e n => n
/-- an object that is new since H is changed -/
theorem Ext.chg {M : Addr → Prop} {G H G1 H1 : Hp} {p : Addr} {o : HO} (a : Ext M G H G1 H1) (hp : H p = none) (hg : G1 p = none) : Ext M G H G1 (upd H1 p o) where
  same := fun b u n e => by rw [upd_ne (ne_of_none e hp)]; exact a.same b u n e
  there := fun b u e => by rw [upd_ne (ne_of_none e hp)]; exact a.there b u e
  sub := fun b u e => by rw [upd_ne (ne_of_none e hg)]; exact a.sub b u e
  gs := a.gs
  sep := a.sep
/-- .. or becomes data -/
theorem Ext.frz {M : Addr → Prop} {G H G1 H1 : Hp} {p : Addr} {o : HO} (a : Ext M G H G1 H1) (hp : H p = none) (hg : G1 p = none) (ho : H1 p = some o) : Ext M G H (upd G1 p o) H1 where
  same := a.same
  there := a.there
  sub := fun b u e => by
    by_cases hb : b = p
    · subst hb; rw [upd_same] at e; rw [ho]; exact e
    · rw [upd_ne hb] at e; exact a.sub b u e
  gs := fun b u e => by rw [upd_ne (ne_of_none (a.gs b u e) hg)]; exact a.gs b u e
  sep := fun b u e n => by rw [upd_ne (ne_of_none e hp)]; exact a.sep b u e n

/-! ### slots -/
inductive SV where
  | un
  | d (x : PyData)
  | ml (xs : List PyData)
  | tp
  | fn (a : Addr)
abbrev DE := List SV
def SVAt (C : DC) (K : PySem.W.Frag) (H0 G H : Hp) : SV → Option V → Prop
  | .un, _ => True
  | .d x, o => ∃ v, o = some v ∧ At K G v x
  | .ml xs, o => ∃ a vs, o = some (.ref a) ∧ H a = some (.lst vs) ∧ G a = none ∧ H0 a = none ∧ AtAll K G vs xs
  | .tp, o => ∃ t s ns, (tapeC t s ns).Sub C ∧ o = some (.ref t)
  | .fn a, o => o = some (.ref a)
structure DS (Z : DC → Prop) (C : DC) (K : PySem.W.Frag) (H0 G0 G H : Hp) (σ : St) (ρ : DE) : Prop where
  z : Z C
  ext : Ext C.M G0 H0 G H
  f0 : ∀ b, C.F b → H0 b ≠ none
  m0 : ∀ b, C.M b → G0 b = none
  j : C.J H
  len : ρ.length = σ.length
  sl : ∀ (i : Nat) (s : SV), ρ[i]? = some s → ∃ o, σ[i]? = some o ∧ SVAt C K H0 G H s o
  inj : ∀ (i j : Nat) (xs ys : List PyData) (a : Addr), i ≠ j → ρ[i]? = some (.ml xs) → ρ[j]? = some (.ml ys) → σ[i]? = some (some (V.ref a)) → σ[j]? = some (some (V.ref a)) → False
section
variable {Z : DC → Prop} {C : DC} {K : PySem.W.Frag} {H0 G0 G H G' H' : Hp} {σ : St} {ρ : DE}
theorem DC.nM (C : DC) {H0 : Hp} {b : Addr} (f0 : ∀ b, C.F b → H0 b ≠ none) (h : H0 b = none) : ¬ C.M b := fun z => f0 b (C.mf b z) h
theorem SVAt.step (f0 : ∀ b, C.F b → H0 b ≠ none) (x : Ext C.M G H G' H') : ∀ {s : SV} {o : Option V}, SVAt C K H0 G H s o → SVAt C K H0 G' H' s o
  | .un, _, _ => True.intro
  | .d _, _, ⟨v, e, h⟩ => ⟨v, e, h.same x.gs⟩
  | .ml _, _, ⟨a, vs, e, h, g, h0, t⟩ => ⟨a, vs, e, x.same a _ (C.nM f0 h0) h, x.sep a _ h g, h0, t.same x.gs⟩
  | .tp, _, h => h
  | .fn _, _, h => h
theorem DS.step (S : DS Z C K H0 G0 G H σ ρ) (x : Ext C.M G H G' H') (j : C.J H') : DS Z C K H0 G0 G' H' σ ρ :=
  ⟨S.z, S.ext.trans x, S.f0, S.m0, j, S.len, fun i s e => let ⟨o, h1, h2⟩ := S.sl i s e; ⟨o, h1, h2.step S.f0 x⟩, S.inj⟩
theorem DS.sub (S : DS Z C K H0 G0 G H σ ρ) : Same G H := S.ext.sub
theorem DS.fH (S : DS Z C K H0 G0 G H σ ρ) : ∀ b, C.F b → H b ≠ none := fun b f n => by
  cases q : H0 b with
  | none => exact S.f0 b f q
  | some o =>
    obtain ⟨o', e⟩ := S.ext.there b o q
    rw [n] at e; cases e
theorem DS.mG (S : DS Z C K H0 G0 G H σ ρ) : ∀ b, C.M b → G b = none := fun b m => by
  cases q : H0 b with
  | none => exact absurd q (S.f0 b (C.mf b m))
  | some o => exact S.ext.sep b o q (S.m0 b m)
theorem SVAt.any (C : DC) (K : PySem.W.Frag) (H0 G H : Hp) (o : Option V) : SVAt C K H0 G H .un o := True.intro
/-- a slot is set to a datum -/
theorem DS.set (S : DS Z C K H0 G0 G H σ ρ) {i : Nat} {v : V} {d : PyData} (h : At K G v d) : DS Z C K H0 G0 G H (σ.set i (some v)) (ρ.set i (.d d)) := by
  refine ⟨S.z, S.ext, S.f0, S.m0, S.j, by simp [S.len], fun j s e => ?_, fun j k xs ys a n e1 e2 e3 e4 => ?_⟩
  · by_cases hj : i = j
    · subst hj
      have hlt : i < ρ.length := by
        have := (List.getElem?_eq_some_iff.mp e).1
        simpa using this
      rw [List.getElem?_set_self hlt] at e
      cases e
      exact ⟨some v, by rw [List.getElem?_set_self (by rw [← S.len]; exact hlt)], v, rfl, h⟩
    · rw [List.getElem?_set_ne hj] at e ⊢
      exact S.sl j s e
  · have g : ∀ {m : Nat} {zs : List PyData}, (ρ.set i (.d d))[m]? = some (.ml zs) → i ≠ m ∧ ρ[m]? = some (.ml zs) := fun {m zs} e => by
      by_cases hm : i = m
      · subst hm
        have hlt : i < ρ.length := by
          have := (List.getElem?_eq_some_iff.mp e).1
          simpa using this
        rw [List.getElem?_set_self hlt] at e
        cases e
      · rw [List.getElem?_set_ne hm] at e
        exact ⟨hm, e⟩
    obtain ⟨n1, q1⟩ := g e1
    obtain ⟨n2, q2⟩ := g e2
    rw [List.getElem?_set_ne n1] at e3
    rw [List.getElem?_set_ne n2] at e4
    exact S.inj j k xs ys a n q1 q2 e3 e4
@[simp] def wipeD (ρ : DE) : List Nat → DE
  | [] => ρ
  | v :: vs => (wipeD ρ vs).set v .un
theorem DS.un (S : DS Z C K H0 G0 G H σ ρ) (i : Nat) (o : Option V) : DS Z C K H0 G0 G H (σ.set i o) (ρ.set i .un) := by
  refine ⟨S.z, S.ext, S.f0, S.m0, S.j, by simp [S.len], fun j s e => ?_, fun j k xs ys a n e1 e2 e3 e4 => ?_⟩
  · by_cases hj : i = j
    · subst hj
      have hlt : i < ρ.length := by
        have := (List.getElem?_eq_some_iff.mp e).1
        simpa using this
      rw [List.getElem?_set_self hlt] at e
      cases e
      exact ⟨o, by rw [List.getElem?_set_self (by rw [← S.len]; exact hlt)], True.intro⟩
    · rw [List.getElem?_set_ne hj] at e ⊢
      exact S.sl j s e
  · have g : ∀ {m : Nat} {zs : List PyData}, (ρ.set i .un)[m]? = some (.ml zs) → i ≠ m ∧ ρ[m]? = some (.ml zs) := fun {m zs} e => by
      by_cases hm : i = m
      · subst hm
        have hlt : i < ρ.length := by
          have := (List.getElem?_eq_some_iff.mp e).1
          simpa using this
        rw [List.getElem?_set_self hlt] at e
        cases e
      · rw [List.getElem?_set_ne hm] at e
        exact ⟨hm, e⟩
    obtain ⟨n1, q1⟩ := g e1
    obtain ⟨n2, q2⟩ := g e2
    rw [List.getElem?_set_ne n1] at e3
    rw [List.getElem?_set_ne n2] at e4
    exact S.inj j k xs ys a n q1 q2 e3 e4
theorem DS.wipe (S : DS Z C K H0 G0 G H σ ρ) : ∀ vs : List Nat, DS Z C K H0 G0 G H (wipe σ vs) (wipeD ρ vs)
  | [] => S
  | v :: vs => (DS.wipe S vs).un v none
end

/-! ### readings over data -/
/-- an own error: its class by name; with one field -/
inductive ExD where
  | plain (nm : Str)
  | field (nm f : Str) (d : PyData)
abbrev EC := ExD → Prop
abbrev DW := DE → (PyData → Prop) → EC → Prop
abbrev DT := DE → (Bool → Prop) → EC → Prop
def RQ (C : DC) (K : PySem.W.Frag) (G H : Hp) (Q : VK) : PyData → Prop := fun d => ∀ v H' G', Ext C.M G H G' H' → C.J H' → At K G' v d → Q v H'
def RB (C : DC) (G H : Hp) (Q : Bool → Hp → Prop) : Bool → Prop := fun b => ∀ H' G', Ext C.M G H G' H' → C.J H' → Q b H'
/-- what an error brings to its taker -/
def RX (K : PySem.W.Frag) (mg : Str → Option Value) (C : DC) (G H : Hp) (E : XK) : EC
  | .plain nm => ∀ c H' G', mg nm = some (.ref c) → Ext C.M G H G' H' → C.J H' → E (.ref c) none H'
  | .field nm f d => ∀ c dx v H' G', mg nm = some (.ref c) → Ext C.M G H G' H' → C.J H' → H' dx = some (.xd [(f, v)]) → H dx = none → G' dx = none → At K G' v d → E (.ref c) (some dx) H'
def tW (Z : DC → Prop) (X : Cx) (E : XK) (w : DW) : TE := fun σ H Q => ∃ C H0 G0 G ρ, DS Z C X.K H0 G0 G H σ ρ ∧ w ρ (RQ C X.K G H Q) (RX X.K X.mg C G H E)
def tWT (Z : DC → Prop) (X : Cx) (E : XK) (w : DT) : TT := fun σ H Q => ∃ C H0 G0 G ρ, DS Z C X.K H0 G0 G H σ ρ ∧ w ρ (RB C G H Q) (RX X.K X.mg C G H E)
abbrev Mo (w : DW) : Prop := ∀ ρ Q Q' Y Y', (∀ d, Q d → Q' d) → (∀ x, Y x → Y' x) → w ρ Q Y → w ρ Q' Y'
abbrev MoT (w : DT) : Prop := ∀ ρ Q Q' Y Y', (∀ d, Q d → Q' d) → (∀ x, Y x → Y' x) → w ρ Q Y → w ρ Q' Y'
structure PD (Z : DC → Prop) (X : Cx) (E : XK) (e : Expr) (w : DW) : Prop where
  pe : PE X e (tW Z X E w)
  mono : Mo w
structure PDT (Z : DC → Prop) (X : Cx) (E : XK) (e : Expr) (w : DT) : Prop where
  pt : PT X e (tWT Z X E w)
  mono : MoT w
theorem PEimp {X : Cx} {e : Expr} {t t' : TE} (h : PE X e t) (i : ∀ σ H Q, t' σ H Q → t σ H Q) : PE X e t' := ⟨fun pins s σ H Q I hw => h.run pins s σ H Q I (i σ H Q hw)⟩
theorem PTimp {X : Cx} {e : Expr} {t t' : TT} (h : PT X e t) (i : ∀ σ H Q, t' σ H Q → t σ H Q) : PT X e t' := ⟨fun pins s σ H Q I hw => h.run pins s σ H Q I (i σ H Q hw)⟩
theorem PSimp {X : Cx} {e : Stmt} {t t' : TS} (h : PS X e t) (i : ∀ D σ H, t' D σ H → t D σ H) : PS X e t' := ⟨fun pins s σ H D I hw => h.run pins s σ H D I (i D σ H hw)⟩
theorem PSsimp {X : Cx} {e : List Stmt} {t t' : TS} (h : PSs X e t) (i : ∀ D σ H, t' D σ H → t D σ H) : PSs X e t' := ⟨fun pins s σ H D I hw => h.run pins s σ H D I (i D σ H hw)⟩
section
variable {Z : DC → Prop} {C : DC} {K : PySem.W.Frag} {H0 G0 G H G' H' : Hp} {σ : St} {ρ : DE} {Q : VK}
theorem RQ.step {d : PyData} (q : RQ C K G H Q d) (x : Ext C.M G H G' H') : RQ C K G' H' Q d := fun v H2 G2 x2 j2 a => q v H2 G2 (x.trans x2) j2 a
theorem RQ.now {d : PyData} {v : V} (q : RQ C K G H Q d) (s : Same G H) (j : C.J H) (a : At K G v d) : Q v H := q v H G (Ext.refl s) j a
theorem DC.jnew (C : DC) {H : Hp} {p : Addr} {o : HO} (hp : H p = none) (j : C.J H) : C.J (upd H p o) := C.js H _ (fun b u _ e => by rw [upd_ne (ne_of_none e hp)]; exact e) j
theorem RQ.tup {ds : List PyData} {vs : List V} (q : RQ C K G H Q (.tuple ds)) (s : Same G H) (j : C.J H) (a : AtAll K G vs ds) (p : Addr) (hp : H p = none) : Q (.ref p) (upd H p (.tup vs)) :=
  q _ _ (upd G p (.tup vs)) (Ext.new s hp) (C.jnew hp j) (.tup (SqT.of upd_same) (a.same (Ext.new (M := C.M) s hp).gs))
theorem RQ.lst {ds : List PyData} {vs : List V} (q : RQ C K G H Q (.list ds)) (s : Same G H) (j : C.J H) (a : AtAll K G vs ds) (p : Addr) (hp : H p = none) : Q (.ref p) (upd H p (.lst vs)) :=
  q _ _ (upd G p (.lst vs)) (Ext.new s hp) (C.jnew hp j) (.lst upd_same (a.same (Ext.new (M := C.M) s hp).gs))
theorem RB.now {b : Bool} {Q : Bool → Hp → Prop} (q : RB C G H Q b) (s : Same G H) (j : C.J H) : Q b H := q H G (Ext.refl s) j
theorem RB.step {b : Bool} {Q : Bool → Hp → Prop} (q : RB C G H Q b) (x : Ext C.M G H G' H') : RB C G' H' Q b := fun H2 G2 x2 j2 => q H2 G2 (x.trans x2) j2
theorem RX.step {mg : Str → Option Value} {E : XK} (x : Ext C.M G H G' H') : ∀ y : ExD, RX K mg C G H E y → RX K mg C G' H' E y
  | .plain nm, q => fun c H2 G2 hm x2 j2 => q c H2 G2 hm (x.trans x2) j2
  | .field nm f d, q => fun c dx v H2 G2 hm x2 j2 e n g a => q c dx v H2 G2 hm (x.trans x2) j2 e (by
      cases z : H dx with
      | none => rfl
      | some o =>
        obtain ⟨o', e'⟩ := x.there dx o z
        rw [n] at e'; cases e') g a
end
theorem idY {Y : EC} : ∀ x, Y x → Y x := fun _ h => h
/-- where a reading stands: for rules over values -/
structure Here (C : DC) (G H : Hp) : Prop where
  sub : Same G H
  j : C.J H
theorem DS.here {C : DC} {K : PySem.W.Frag} {H0 G0 G H : Hp} {σ : St} {ρ : DE} (S : DS Z C K H0 G0 G H σ ρ) : Here C G H := ⟨S.sub, S.j⟩

/-! ### names, constants -/
section
variable {Z : DC → Prop} {X : Cx} {E : XK}
@[simp] def wVar (i : Nat) : DW := fun ρ Q _ => match ρ[i]? with | some (.d x) => Q x | _ => False
theorem pd_var (i : Nat) {x : Str} {pos : Pos} (hN : X.N[i]? = some x := by rfl) (hv : Vis X.env.scope x := by first | exact Or.inl rfl | exact Or.inr (Or.inl rfl) | exact Or.inr (Or.inr rfl)) (hd : (x == ("__debug__" : Str)) = false := by decide)
    (hcd : (x == ("__classdict__" : Str)) = false := by decide) : PD Z X E (.Name x pos) (wVar i) := by
  refine ⟨PEimp (pe_var hN hv hd hcd) fun σ H Q ⟨C, H0, G0, G, ρ, S, h⟩ => ?_, fun ρ Q Q' Y Y' k ky h => ?_⟩
  · unfold wVar at h
    split at h
    · rename_i y e
      obtain ⟨o, h1, v, rfl, h2⟩ := S.sl i _ e
      exact ⟨v, h1, h.now S.sub S.j h2⟩
    · exact h.elim
  · unfold wVar at h ⊢
    split at h
    · exact k _ h
    · exact h.elim
@[simp] def wC (d : PyData) : DW := fun _ Q _ => Q d
theorem wC_mono (d : PyData) : Mo (wC d) := fun _ _ _ _ _ k _ h => k _ h
theorem pd_int {i j pos} : PD Z X E (.Constant (.int i) j pos) (wC (.int i)) := ⟨PEimp pe_int fun σ H Q ⟨C, H0, G0, G, ρ, S, h⟩ => h.now S.sub S.j (.int i), wC_mono _⟩
theorem pd_bl {b j pos} : PD Z X E (.Constant (.bool b) j pos) (wC (.bool b)) := ⟨PEimp pe_bl fun σ H Q ⟨C, H0, G0, G, ρ, S, h⟩ => h.now S.sub S.j (.bl b), wC_mono _⟩
theorem pd_non {j pos} : PD Z X E (.Constant .none j pos) (wC .none) := ⟨PEimp pe_non fun σ H Q ⟨C, H0, G0, G, ρ, S, h⟩ => h.now S.sub S.j .non, wC_mono _⟩
theorem pd_str {x j pos} : PD Z X E (.Constant (.str x) j pos) (wC (.str x)) := ⟨PEimp pe_str fun σ H Q ⟨C, H0, G0, G, ρ, S, h⟩ => h.now S.sub S.j (.str x), wC_mono _⟩
/-- a module's constant: data of the written part -/
theorem pd_glob {x : Str} {v : V} {u : Value} {pos : Pos} {d : PyData} (hm : X.mg x = some u) (r : RelV v u) (a : ∀ H, At X.K H v d) (hg : Gl X x := by rfl) (hd : (x == ("__debug__" : Str)) = false := by decide) : PD Z X E (.Name x pos) (wC d) :=
  ⟨PEimp (pe_glob hg hm r hd) fun σ H Q ⟨C, H0, G0, G, ρ, S, h⟩ => h.now S.sub S.j (a _), wC_mono _⟩

/-! ### operators over two data -/
abbrev F2 := PyData → PyData → (PyData → Prop) → Prop
structure OpD (X : Cx) (r : R2) (f : F2) : Prop where
  go : ∀ C G H x y dx dy Q, Here C G H → At X.K G x dx → At X.K G y dy → f dx dy (RQ C X.K G H Q) → r x y H Q
  mono : ∀ a b Q Q', (∀ d, Q d → Q' d) → f a b Q → f a b Q'
@[simp] def w2 (f : F2) (wa wb : DW) : DW := fun ρ Q Y => wa ρ (fun x => wb ρ (fun y => f x y Q) Y) Y
variable {a b : Expr} {wa wb : DW} {r : R2} {f : F2}
theorem two (o : OpD X r f) (ha : PD Z X E a wa) (hb : PD Z X E b wb) : ∀ σ H Q, tW Z X E (w2 f wa wb) σ H Q → tOp r (tW Z X E wa) (tW Z X E wb) σ H Q := by
  rintro σ H Q ⟨C, H0, G0, G, ρ, S, h⟩
  refine ⟨C, H0, G0, G, ρ, S, ha.mono _ _ _ _ _ (fun dx h => ?_) idY h⟩
  intro v H1 G1 x1 j1 a1
  have S1 := S.step x1 j1
  refine ⟨C, H0, G0, G1, ρ, S1, hb.mono _ _ _ _ _ (fun dy h => ?_) (RX.step x1) h⟩
  intro u H2 G2 x2 j2 a2
  have S2 := S1.step x2 j2
  exact o.go C G2 H2 v u dx dy Q S2.here (a1.same x2.gs) a2 (o.mono _ _ _ _ (fun d q => (q.step x1).step x2) h)
theorem w2_mono (o : OpD X r f) (ha : PD Z X E a wa) (hb : PD Z X E b wb) : Mo (w2 f wa wb) :=
  fun ρ Q Q' Y Y' k ky h => ha.mono _ _ _ _ _ (fun x h => hb.mono _ _ _ _ _ (fun y h => o.mono _ _ _ _ k h) ky h) ky h
theorem pd_op {op : Operator} {pos : Pos} (ho : OpR X (binaryOp op) r) (o : OpD X r f) (ha : PD Z X E a wa) (hb : PD Z X E b wb) : PD Z X E (.BinOp a op b pos) (w2 f wa wb) :=
  ⟨PEimp (pe_op ho ha.pe hb.pe) (two o ha hb), w2_mono o ha hb⟩
theorem pd_cmp {op : CmpOp} {pos : Pos} (ho : OpR X (compareOp op) r) (o : OpD X r f) (ha : PD Z X E a wa) (hb : PD Z X E b wb) (hm : behindInMarks op b = false := by first | exact nobehind _ (by decide) (by decide) | rfl) : PD Z X E (.Compare a [op] [b] pos) (w2 f wa wb) :=
  ⟨PEimp (pe_cmpR ho ha.pe hb.pe hm) (two o ha hb), w2_mono o ha hb⟩
/-- a value that is a bool, as a test -/
@[simp] def wT (w : DW) : DT := fun ρ Q Y => w ρ (fun d => ∃ b, d = .bool b ∧ Q b) Y
theorem bool_of {K : PySem.W.Frag} {G : Hp} {v : V} {b : Bool} (a : At K G v (.bool b)) : v = .bl b := by cases a; rfl
theorem tT_of {w : DW} (mono : Mo w) : ∀ σ H Q, tWT Z X E (wT w) σ H Q → tB (tW Z X E w) σ H Q := by
  rintro σ H Q ⟨C, H0, G0, G, ρ, S, h⟩
  refine ⟨C, H0, G0, G, ρ, S, mono _ _ _ _ _ (fun d h => ?_) idY h⟩
  obtain ⟨b, rfl, q⟩ := h
  intro v H1 G1 x1 j1 a1
  exact ⟨b, bool_of a1, q H1 G1 x1 j1⟩
theorem wT_mono {w : DW} (mono : Mo w) : MoT (wT w) :=
  fun ρ Q Q' Y Y' k ky h => mono _ _ _ _ _ (fun d ⟨b, e, q⟩ => ⟨b, e, k _ q⟩) ky h
theorem pdt_val {e : Expr} {w : DW} (h : PD Z X E e w) (he : ∀ whole, isTrue e X.env whole = (do let v ← whole; standAt e.pos; holding [v] (truthy v)) := by intro _; rfl) : PDT Z X E e (wT w) :=
  ⟨PTimp (pt_val h.pe he) (tT_of h.mono), wT_mono h.mono⟩
theorem pdt_cmp {op : CmpOp} {pos : Pos} (ho : OpR X (compareOp op) r) (o : OpD X r f) (ha : PD Z X E a wa) (hb : PD Z X E b wb) (hm : behindInMarks op b = false := by first | exact nobehind _ (by decide) (by decide) | rfl) : PDT Z X E (.Compare a [op] [b] pos) (wT (w2 f wa wb)) := by
  refine ⟨PTimp (pt_cmpR ho ha.pe hb.pe hm) fun σ H Q h => ?_, wT_mono (w2_mono o ha hb)⟩
  have q := tT_of (w2_mono o ha hb) σ H Q h
  exact two o ha hb σ H _ q
end

/-! ### and, or, not, if-else -/
section
variable {Z : DC → Prop} {X : Cx} {E : XK} {a b c : Expr} {rest : List Expr} {pos : Pos}
@[simp] def wAnd (t u : DT) : DT := fun ρ Q Y => t ρ (fun c => if c = true then u ρ Q Y else Q false) Y
@[simp] def wOr (t u : DT) : DT := fun ρ Q Y => t ρ (fun c => if c = true then Q true else u ρ Q Y) Y
@[simp] def wNot (t : DT) : DT := fun ρ Q Y => t ρ (fun c => Q (!c)) Y
/-- a chain of and, or -/
structure PDW (Z : DC → Prop) (X : Cx) (E : XK) (e : Expr) (w : DT) : Prop where
  pw : PW X e (tWT Z X E w)
  mono : MoT w
theorem PDW.pt {e : Expr} {w : DT} (h : PDW Z X E e w) : PDT Z X E e w := ⟨h.pw.pt, h.mono⟩
theorem PWimp {X : Cx} {e : Expr} {t t' : TT} (h : PW X e t) (i : ∀ σ H Q, t' σ H Q → t σ H Q) : PW X e t' := ⟨fun wh pins s σ H Q I hw => h.run wh pins s σ H Q I (i σ H Q hw)⟩
theorem if_mono {c : Bool} {A A' B B' : Prop} (h1 : A → A') (h2 : B → B') : (if c = true then A else B) → (if c = true then A' else B') := by cases c <;> simpa using by first | exact h1 | exact h2
theorem pdw_and1 {t : DT} (ha : PDT Z X E a t) : PDW Z X E (.BoolOp .And [a] pos) t := ⟨pw_and1 ha.pt, ha.mono⟩
theorem pdw_or1 {t : DT} (ha : PDT Z X E a t) : PDW Z X E (.BoolOp .Or [a] pos) t := ⟨pw_or1 ha.pt, ha.mono⟩
theorem pdw_and {t u : DT} (ha : PDT Z X E a t) (hb : PDW Z X E (.BoolOp .And (b :: rest) pos) u) : PDW Z X E (.BoolOp .And (a :: b :: rest) pos) (wAnd t u) := by
  refine ⟨PWimp (pw_and ha.pt hb.pw) fun σ H Q ⟨C, H0, G0, G, ρ, S, h⟩ => ?_, fun ρ Q Q' Y Y' k ky h => ?_⟩
  · refine ⟨C, H0, G0, G, ρ, S, ha.mono _ _ _ _ _ (fun c h => ?_) idY h⟩
    intro H1 G1 x1 j1
    cases c with
    | true => exact ⟨C, H0, G0, G1, ρ, S.step x1 j1, hb.mono _ _ _ _ _ (fun d q => q.step x1) (RX.step x1) h⟩
    | false => exact h H1 G1 x1 j1
  · exact ha.mono _ _ _ _ _ (fun c => if_mono (hb.mono _ _ _ _ _ k ky) (k _)) ky h
theorem pdw_or {t u : DT} (ha : PDT Z X E a t) (hb : PDW Z X E (.BoolOp .Or (b :: rest) pos) u) : PDW Z X E (.BoolOp .Or (a :: b :: rest) pos) (wOr t u) := by
  refine ⟨PWimp (pw_or ha.pt hb.pw) fun σ H Q ⟨C, H0, G0, G, ρ, S, h⟩ => ?_, fun ρ Q Q' Y Y' k ky h => ?_⟩
  · refine ⟨C, H0, G0, G, ρ, S, ha.mono _ _ _ _ _ (fun c h => ?_) idY h⟩
    intro H1 G1 x1 j1
    cases c with
    | false => exact ⟨C, H0, G0, G1, ρ, S.step x1 j1, hb.mono _ _ _ _ _ (fun d q => q.step x1) (RX.step x1) h⟩
    | true => exact h H1 G1 x1 j1
  · exact ha.mono _ _ _ _ _ (fun c => if_mono (k _) (hb.mono _ _ _ _ _ k ky)) ky h
theorem pdt_not {t : DT} (ha : PDT Z X E a t) : PDT Z X E (.UnaryOp .Not a pos) (wNot t) :=
  ⟨PTimp (pt_not ha.pt) fun σ H Q ⟨C, H0, G0, G, ρ, S, h⟩ => ⟨C, H0, G0, G, ρ, S, ha.mono _ _ _ _ _ (fun c h H1 G1 x1 j1 => h H1 G1 x1 j1) idY h⟩, fun ρ Q Q' Y Y' k ky h => ha.mono _ _ _ _ _ (fun c h => k _ h) ky h⟩
/-- .. as values: bools -/
@[simp] def wAndV (wa wb : DW) : DW := fun ρ Q Y => wa ρ (fun d => ∃ c, d = .bool c ∧ if c = true then wb ρ Q Y else Q (.bool false)) Y
@[simp] def wOrV (wa wb : DW) : DW := fun ρ Q Y => wa ρ (fun d => ∃ c, d = .bool c ∧ if c = true then Q (.bool true) else wb ρ Q Y) Y
@[simp] def wNotV (wa : DW) : DW := fun ρ Q Y => wa ρ (fun d => ∃ c, d = .bool c ∧ Q (.bool (!c))) Y
theorem pd_one {op} {w : DW} (h : PD Z X E a w) : PD Z X E (.BoolOp op [a] pos) w := ⟨pe_one h.pe, h.mono⟩
theorem pd_and {wa wb : DW} (ha : PD Z X E a wa) (hb : PD Z X E (.BoolOp .And (b :: rest) pos) wb) : PD Z X E (.BoolOp .And (a :: b :: rest) pos) (wAndV wa wb) := by
  refine ⟨PEimp (pe_and ha.pe hb.pe) fun σ H Q ⟨C, H0, G0, G, ρ, S, h⟩ => ?_, fun ρ Q Q' Y Y' k ky h => ?_⟩
  · refine ⟨C, H0, G0, G, ρ, S, ha.mono _ _ _ _ _ (fun d h => ?_) idY h⟩
    obtain ⟨c, rfl, h⟩ := h
    intro v H1 G1 x1 j1 a1
    refine ⟨c, bool_of a1, ?_⟩
    cases c with
    | true => exact ⟨C, H0, G0, G1, ρ, S.step x1 j1, hb.mono _ _ _ _ _ (fun d q => q.step x1) (RX.step x1) h⟩
    | false => exact (RQ.step h x1).now x1.sub j1 (.bl false)
  · exact ha.mono _ _ _ _ _ (fun d ⟨c, e, h⟩ => ⟨c, e, if_mono (hb.mono _ _ _ _ _ k ky) (k _) h⟩) ky h
theorem pd_or {wa wb : DW} (ha : PD Z X E a wa) (hb : PD Z X E (.BoolOp .Or (b :: rest) pos) wb) : PD Z X E (.BoolOp .Or (a :: b :: rest) pos) (wOrV wa wb) := by
  refine ⟨PEimp (pe_or ha.pe hb.pe) fun σ H Q ⟨C, H0, G0, G, ρ, S, h⟩ => ?_, fun ρ Q Q' Y Y' k ky h => ?_⟩
  · refine ⟨C, H0, G0, G, ρ, S, ha.mono _ _ _ _ _ (fun d h => ?_) idY h⟩
    obtain ⟨c, rfl, h⟩ := h
    intro v H1 G1 x1 j1 a1
    refine ⟨c, bool_of a1, ?_⟩
    cases c with
    | false => exact ⟨C, H0, G0, G1, ρ, S.step x1 j1, hb.mono _ _ _ _ _ (fun d q => q.step x1) (RX.step x1) h⟩
    | true => exact (RQ.step h x1).now x1.sub j1 (.bl true)
  · exact ha.mono _ _ _ _ _ (fun d ⟨c, e, h⟩ => ⟨c, e, if_mono (k _) (hb.mono _ _ _ _ _ k ky) h⟩) ky h
theorem pd_not {wa : DW} (ha : PD Z X E a wa) : PD Z X E (.UnaryOp .Not a pos) (wNotV wa) := by
  refine ⟨PEimp (pe_not ha.pe) fun σ H Q ⟨C, H0, G0, G, ρ, S, h⟩ => ?_, fun ρ Q Q' Y Y' k ky h => ?_⟩
  · refine ⟨C, H0, G0, G, ρ, S, ha.mono _ _ _ _ _ (fun d h => ?_) idY h⟩
    obtain ⟨c, rfl, h⟩ := h
    intro v H1 G1 x1 j1 a1
    exact ⟨c, bool_of a1, (RQ.step h x1).now x1.sub j1 (.bl _)⟩
  · exact ha.mono _ _ _ _ _ (fun d ⟨c, e, h⟩ => ⟨c, e, k _ h⟩) ky h
@[simp] def wIf (t : DT) (wa wb : DW) : DW := fun ρ Q Y => t ρ (fun c => if c = true then wa ρ Q Y else wb ρ Q Y) Y
theorem pd_if {t : DT} {wa wb : DW} (hc : PDT Z X E c t) (ha : PD Z X E a wa) (hb : PD Z X E b wb) : PD Z X E (.IfExp c a b pos) (wIf t wa wb) := by
  refine ⟨PEimp (pe_ifExp hc.pt ha.pe hb.pe) fun σ H Q ⟨C, H0, G0, G, ρ, S, h⟩ => ?_, fun ρ Q Q' Y Y' k ky h => ?_⟩
  · refine ⟨C, H0, G0, G, ρ, S, hc.mono _ _ _ _ _ (fun c h => ?_) idY h⟩
    intro H1 G1 x1 j1
    cases c with
    | true => exact ⟨C, H0, G0, G1, ρ, S.step x1 j1, ha.mono _ _ _ _ _ (fun d q => q.step x1) (RX.step x1) h⟩
    | false => exact ⟨C, H0, G0, G1, ρ, S.step x1 j1, hb.mono _ _ _ _ _ (fun d q => q.step x1) (RX.step x1) h⟩
  · exact hc.mono _ _ _ _ _ (fun c => if_mono (ha.mono _ _ _ _ _ k ky) (hb.mono _ _ _ _ _ k ky)) ky h
end
end DL

namespace DL
open PySem PySem.Spec L2

/-! ### arithmetic -/
def fAdd : F2
  | .int i, .int j, Q => Q (.int (i + j))
  | .str x, .str y, Q => x.length + y.length ≤ sizeLine ∧ Q (.str (x ++ y))
  | .tuple xs, .tuple ys, Q => xs.length + ys.length ≤ sizeLine ∧ Q (.tuple (xs ++ ys))
  | .list xs, .list ys, Q => xs.length + ys.length ≤ sizeLine ∧ Q (.list (xs ++ ys))
  | _, _, _ => False
def rAdd4 (K : PySem.W.Frag) : R2 := fun x y H Q => (rI0 fun i j => .int (i + j)) x y H Q ∨ (∃ i j, x = .str i ∧ y = .str j ∧ i.length + j.length ≤ sizeLine ∧ Q (.str (i ++ j)) H) ∨ rCatA K x y H Q ∨ rCat x y H Q
section
variable {Z : DC → Prop} {X : Cx} {E : XK}
theorem op_add4 : OpR X (binaryOp .Add) (rAdd4 X.K) := op_add.or (op_add_str.or (op_catA.or op_cat))
theorem tup_nil {K : PySem.W.Frag} {G : Hp} {vs : List V} {ds : List PyData} (h : AtAll K G vs ds) : vs = [] ↔ ds = [] := by
  have e := h.length
  constructor
  · intro q; subst q; exact List.eq_nil_of_length_eq_zero e.symm
  · intro q; subst q; exact List.eq_nil_of_length_eq_zero e
theorem opd_add : OpD X (rAdd4 X.K) fAdd where
  go := fun C G H x y dx dy Q h ax ay q => by
    cases ax with
    | int i => cases ay with
      | int j => exact .inl ⟨i, j, rfl, rfl, RQ.now q h.sub h.j (.int _)⟩
      | _ => exact q.elim
    | str i => cases ay with
      | str j => exact .inr (.inl ⟨i, j, rfl, rfl, q.1, RQ.now q.2 h.sub h.j (.str _)⟩)
      | _ => exact q.elim
    | tup a1 t1 => cases ay with
      | tup a2 t2 =>
        rename_i a xs ds b ys es
        refine .inr (.inr (.inl ⟨a, b, xs, ys, rfl, rfl, SqT.same h.sub a1, SqT.same h.sub a2, by rw [t1.length, t2.length]; exact q.1, fun e => ?_, fun _ e => ?_, fun _ _ p hp => ?_⟩))
        · have e2 := (tup_nil t1).mp e
          subst e2
          exact RQ.now (d := .tuple es) (by simpa using q.2) h.sub h.j (.tup a2 t2)
        · have e2 := (tup_nil t2).mp e
          subst e2
          exact RQ.now (d := .tuple ds) (by simpa using q.2) h.sub h.j (.tup a1 t1)
        · exact RQ.tup q.2 h.sub h.j (t1.append t2) p hp
      | _ => exact q.elim
    | lst a1 t1 => cases ay with
      | lst a2 t2 =>
        rename_i a xs ds b ys es
        exact .inr (.inr (.inr ⟨a, b, xs, ys, rfl, rfl, h.sub _ _ a1, h.sub _ _ a2, by rw [t1.length, t2.length]; exact q.1, fun p hp => RQ.lst q.2 h.sub h.j (t1.append t2) p hp⟩))
      | _ => exact q.elim
    | _ => exact q.elim
  mono := fun a b Q Q' k h => by
    unfold fAdd at h ⊢
    split at h
    · exact k _ h
    · exact ⟨h.1, k _ h.2⟩
    · exact ⟨h.1, k _ h.2⟩
    · exact ⟨h.1, k _ h.2⟩
    · exact h.elim
/-- two ints -/
def fI (C : Int → Int → Prop) (g : Int → Int → PyData) : F2
  | .int i, .int j, Q => C i j ∧ Q (g i j)
  | _, _, _ => False
theorem fI_mono (C : Int → Int → Prop) (g : Int → Int → PyData) : ∀ (a b : PyData) (Q Q' : PyData → Prop), (∀ d, Q d → Q' d) → fI C g a b Q → fI C g a b Q' := fun a b Q Q' k h => by
  unfold fI at h ⊢
  split at h
  · exact ⟨h.1, k _ h.2⟩
  · exact h.elim
theorem opd_rI {C : Int → Int → Prop} {g : Int → Int → Int} : OpD X (rI C fun i j => .int (g i j)) (fI C fun i j => .int (g i j)) where
  go := fun C' G H x y dx dy Q h ax ay q => by
    cases ax with
    | int i => cases ay with
      | int j => exact ⟨i, j, rfl, rfl, q.1, RQ.now q.2 h.sub h.j (.int _)⟩
      | _ => exact q.elim
    | _ => exact q.elim
  mono := fI_mono _ _
theorem opd_rI0 {g : Int → Int → Int} : OpD X (rI0 fun i j => .int (g i j)) (fI (fun _ _ => True) fun i j => .int (g i j)) where
  go := fun C' G H x y dx dy Q h ax ay q => by
    cases ax with
    | int i => cases ay with
      | int j => exact ⟨i, j, rfl, rfl, RQ.now q.2 h.sub h.j (.int _)⟩
      | _ => exact q.elim
    | _ => exact q.elim
  mono := fI_mono _ _
theorem opd_rB0 {g : Int → Int → Bool} : OpD X (rI0 fun i j => .bl (g i j)) (fI (fun _ _ => True) fun i j => .bool (g i j)) where
  go := fun C' G H x y dx dy Q h ax ay q => by
    cases ax with
    | int i => cases ay with
      | int j => exact ⟨i, j, rfl, rfl, RQ.now q.2 h.sub h.j (.bl _)⟩
      | _ => exact q.elim
    | _ => exact q.elim
  mono := fI_mono _ _
variable {a b e : Expr} {wa wb : DW} {pos : Pos}
theorem pd_add (ha : PD Z X E a wa) (hb : PD Z X E b wb) : PD Z X E (.BinOp a .Add b pos) (w2 fAdd wa wb) := pd_op op_add4 opd_add ha hb
theorem pd_sub (ha : PD Z X E a wa) (hb : PD Z X E b wb) : PD Z X E (.BinOp a .Sub b pos) (w2 (fI (fun _ _ => True) fun i j => .int (i - j)) wa wb) := pd_op op_sub opd_rI0 ha hb
theorem pd_mul (ha : PD Z X E a wa) (hb : PD Z X E b wb) : PD Z X E (.BinOp a .Mult b pos) (w2 (fI CMul fun i j => .int (i * j)) wa wb) := pd_op op_mul opd_rI ha hb
theorem pd_mod (ha : PD Z X E a wa) (hb : PD Z X E b wb) : PD Z X E (.BinOp a .Mod b pos) (w2 (fI (fun _ j => 0 < j) fun i j => .int (i % j)) wa wb) := pd_op op_mod opd_rI ha hb
theorem pd_fdiv (ha : PD Z X E a wa) (hb : PD Z X E b wb) : PD Z X E (.BinOp a .FloorDiv b pos) (w2 (fI CDiv fun i j => .int (i / j)) wa wb) := pd_op op_fdiv opd_rI ha hb
theorem pd_pow (ha : PD Z X E a wa) (hb : PD Z X E b wb) : PD Z X E (.BinOp a .Pow b pos) (w2 (fI CPow fun i j => .int (i ^ j.toNat)) wa wb) := pd_op op_pow opd_rI ha hb
theorem pd_neg (ha : PD Z X E a wa) : PD Z X E (.UnaryOp .USub a pos) (fun ρ Q Y => wa ρ (fun d => ∃ i, d = .int i ∧ Q (.int (-i))) Y) := by
  refine ⟨PEimp (pe_un un_neg ha.pe) fun σ H Q ⟨C, H0, G0, G, ρ, S, h⟩ => ?_, fun ρ Q Q' Y Y' k ky h => ha.mono _ _ _ _ _ (fun d ⟨i, e, h⟩ => ⟨i, e, k _ h⟩) ky h⟩
  refine ⟨C, H0, G0, G, ρ, S, ha.mono _ _ _ _ _ (fun d h => ?_) idY h⟩
  obtain ⟨i, rfl, h⟩ := h
  intro v H1 G1 x1 j1 a1
  cases a1
  exact ⟨i, rfl, (RQ.step h x1).now x1.sub j1 (.int _)⟩
/-- t * n -/
def fRep : F2
  | .tuple xs, .int k, Q => xs ≠ [] ∧ 2 ≤ k ∧ k ≤ 1000 ∧ xs.length ≤ 1000 ∧ Q (.tuple (List.replicate k.toNat xs).flatten)
  | .list xs, .int k, Q => -(2 ^ 63) ≤ k ∧ k < 2 ^ 63 ∧ xs.length * k.toNat ≤ sizeLine ∧ Q (.list (List.replicate k.toNat xs).flatten)
  | _, _, _ => False
theorem op_rep2 : OpR X (binaryOp .Mult) (fun x y H Q => rRepT X.K x y H Q ∨ rRep x y H Q) := op_repT.or op_rep
theorem opd_rep : OpD X (fun x y H Q => rRepT X.K x y H Q ∨ rRep x y H Q) fRep where
  go := fun C G H x y dx dy Q h ax ay q => by
    cases ax with
    | tup a1 t1 => cases ay with
      | int k =>
        obtain ⟨n, h1, h2, h3, q⟩ := q
        exact .inl ⟨_, k, _, rfl, rfl, SqT.same h.sub a1, fun e => n ((tup_nil t1).mp e), h1, h2, by rw [t1.length]; exact h3, fun p hp => RQ.tup q h.sub h.j (t1.rep _) p hp⟩
      | _ => exact q.elim
    | lst a1 t1 => cases ay with
      | int k =>
        obtain ⟨h1, h2, h3, q⟩ := q
        exact .inr ⟨_, k, _, rfl, rfl, h.sub _ _ a1, h1, h2, by rw [t1.length]; exact h3, fun p hp => RQ.lst q h.sub h.j (t1.rep _) p hp⟩
      | _ => exact q.elim
    | _ => exact q.elim
  mono := fun a b Q Q' k h => by
    unfold fRep at h ⊢
    split at h
    · exact ⟨h.1, h.2.1, h.2.2.1, h.2.2.2.1, k _ h.2.2.2.2⟩
    · exact ⟨h.1, h.2.1, h.2.2.1, k _ h.2.2.2⟩
    · exact h.elim
theorem pd_rep (ha : PD Z X E a wa) (hb : PD Z X E b wb) : PD Z X E (.BinOp a .Mult b pos) (w2 fRep wa wb) := pd_op op_rep2 opd_rep ha hb

/-! ### comparisons -/
@[simp] def fEq : F2 := fun x y Q => SeqAt.shaped x = true ∧ SeqAt.shaped y = true ∧ Q (.bool (PyData.eqv x y))
@[simp] def fNe : F2 := fun x y Q => SeqAt.shaped x = true ∧ SeqAt.shaped y = true ∧ Q (.bool (!PyData.eqv x y))
theorem DpS {K : PySem.W.Frag} {G H : Hp} (s : Same G H) {v : V} {d : PyData} (a : At K G v d) : Dp K H v d := (a.same s).dp
theorem opd_eq : OpD X (rEqD X.K) fEq where
  go := fun C G H x y dx dy Q h ax ay q => ⟨dx, dy, DpS h.sub ax, DpS h.sub ay, q.1, q.2.1, RQ.now q.2.2 h.sub h.j (.bl _)⟩
  mono := fun a b Q Q' k h => ⟨h.1, h.2.1, k _ h.2.2⟩
theorem opd_ne : OpD X (rNeD X.K) fNe where
  go := fun C G H x y dx dy Q h ax ay q => ⟨dx, dy, DpS h.sub ax, DpS h.sub ay, q.1, q.2.1, RQ.now q.2.2 h.sub h.j (.bl _)⟩
  mono := fun a b Q Q' k h => ⟨h.1, h.2.1, k _ h.2.2⟩
theorem pd_eq (hu : X.A.units + 64 < cLine) (ha : PD Z X E a wa) (hb : PD Z X E b wb) : PD Z X E (.Compare a [.Eq] [b] pos) (w2 fEq wa wb) := pd_cmp (op_eqD hu) opd_eq ha hb
theorem pd_ne (hu : X.A.units + 64 < cLine) (ha : PD Z X E a wa) (hb : PD Z X E b wb) : PD Z X E (.Compare a [.NotEq] [b] pos) (w2 fNe wa wb) := pd_cmp (op_neD hu) opd_ne ha hb
theorem pdt_eq (hu : X.A.units + 64 < cLine) (ha : PD Z X E a wa) (hb : PD Z X E b wb) : PDT Z X E (.Compare a [.Eq] [b] pos) (wT (w2 fEq wa wb)) := pdt_cmp (op_eqD hu) opd_eq ha hb
theorem pdt_ne (hu : X.A.units + 64 < cLine) (ha : PD Z X E a wa) (hb : PD Z X E b wb) : PDT Z X E (.Compare a [.NotEq] [b] pos) (wT (w2 fNe wa wb)) := pdt_cmp (op_neD hu) opd_ne ha hb
abbrev fCmp (p : Int → Int → Bool) : F2 := fI (fun _ _ => True) fun i j => .bool (p i j)
theorem pd_lt (ha : PD Z X E a wa) (hb : PD Z X E b wb) : PD Z X E (.Compare a [.Lt] [b] pos) (w2 (fCmp fun i j => decide (i < j)) wa wb) := pd_cmp op_lt opd_rB0 ha hb
theorem pd_le (ha : PD Z X E a wa) (hb : PD Z X E b wb) : PD Z X E (.Compare a [.LtE] [b] pos) (w2 (fCmp fun i j => decide (i ≤ j)) wa wb) := pd_cmp op_le opd_rB0 ha hb
theorem pd_gt (ha : PD Z X E a wa) (hb : PD Z X E b wb) : PD Z X E (.Compare a [.Gt] [b] pos) (w2 (fCmp fun i j => decide (j < i)) wa wb) := pd_cmp op_gt opd_rB0 ha hb
theorem pd_ge (ha : PD Z X E a wa) (hb : PD Z X E b wb) : PD Z X E (.Compare a [.GtE] [b] pos) (w2 (fCmp fun i j => decide (j ≤ i)) wa wb) := pd_cmp op_ge opd_rB0 ha hb
theorem pdt_lt (ha : PD Z X E a wa) (hb : PD Z X E b wb) : PDT Z X E (.Compare a [.Lt] [b] pos) (wT (w2 (fCmp fun i j => decide (i < j)) wa wb)) := pdt_cmp op_lt opd_rB0 ha hb
theorem pdt_le (ha : PD Z X E a wa) (hb : PD Z X E b wb) : PDT Z X E (.Compare a [.LtE] [b] pos) (wT (w2 (fCmp fun i j => decide (i ≤ j)) wa wb)) := pdt_cmp op_le opd_rB0 ha hb
theorem pdt_gt (ha : PD Z X E a wa) (hb : PD Z X E b wb) : PDT Z X E (.Compare a [.Gt] [b] pos) (wT (w2 (fCmp fun i j => decide (j < i)) wa wb)) := pdt_cmp op_gt opd_rB0 ha hb
theorem pdt_ge (ha : PD Z X E a wa) (hb : PD Z X E b wb) : PDT Z X E (.Compare a [.GtE] [b] pos) (wT (w2 (fCmp fun i j => decide (j ≤ i)) wa wb)) := pdt_cmp op_ge opd_rB0 ha hb
/-- flat data; in, not in -/
def flatD : PyData → Bool
  | .none => true
  | .bool _ => true
  | .int _ => true
  | .str _ => true
  | _ => false
theorem flat_at {K : PySem.W.Frag} {G : Hp} {v : V} {d : PyData} (a : At K G v d) (f : flatD d = true) : flatV v = true := by
  cases a <;> first | rfl | exact absurd f Bool.false_ne_true
theorem eqV_at {K : PySem.W.Frag} {G : Hp} {v u : V} {d e : PyData} (a : At K G v d) (b : At K G u e) (f : flatD d = true) (g : flatD e = true) : eqV v u = PyData.eqv d e := by
  cases a <;> first | exact absurd f Bool.false_ne_true | skip
  all_goals (cases b <;> first | exact absurd g Bool.false_ne_true | simp [eqV, PyData.eqv])
theorem flat_all {K : PySem.W.Frag} {G : Hp} : ∀ {vs : List V} {ds : List PyData}, AtAll K G vs ds → ds.all flatD = true → vs.all flatV = true
  | _, _, .nil, _ => rfl
  | _, _, .cons h t, f => by
    rw [List.all_cons, Bool.and_eq_true] at f ⊢
    exact ⟨flat_at h f.1, flat_all t f.2⟩
theorem inV_at {K : PySem.W.Frag} {G : Hp} {v : V} {d : PyData} (a : At K G v d) (f : flatD d = true) : ∀ {vs : List V} {ds : List PyData}, AtAll K G vs ds → ds.all flatD = true → inV v vs = ds.any fun e => PyData.eqv e d
  | _, _, .nil, _ => rfl
  | _, _, .cons h t, g => by
    rw [List.all_cons, Bool.and_eq_true] at g
    have ih := inV_at a f t g.2
    unfold inV at ih ⊢
    rw [List.any_cons, List.any_cons, ih, eqV_at h a g.1 f]
def fIn (neg : Bool) : F2
  | d, .list es, Q => flatD d = true ∧ es.all flatD = true ∧ Q (.bool (if neg then !(es.any fun e => PyData.eqv e d) else es.any fun e => PyData.eqv e d))
  | d, .tuple es, Q => flatD d = true ∧ es.all flatD = true ∧ Q (.bool (if neg then !(es.any fun e => PyData.eqv e d) else es.any fun e => PyData.eqv e d))
  | _, _, _ => False
theorem opd_in (neg : Bool) : OpD X (rIn X.K neg) (fIn neg) where
  go := fun C G H x y dx dy Q h ax ay q => by
    cases ay with
    | lst a1 t1 =>
      obtain ⟨f, g, q⟩ := q
      refine ⟨_, _, rfl, .inl (SqL.of (h.sub _ _ a1)), flat_at ax f, flat_all t1 g, ?_⟩
      rw [inV_at ax f t1 g]
      exact RQ.now q h.sub h.j (.bl _)
    | tup a1 t1 =>
      obtain ⟨f, g, q⟩ := q
      refine ⟨_, _, rfl, .inr (SqT.same h.sub a1), flat_at ax f, flat_all t1 g, ?_⟩
      rw [inV_at ax f t1 g]
      exact RQ.now q h.sub h.j (.bl _)
    | _ => exact q.elim
  mono := fun a b Q Q' k h => by
    unfold fIn at h ⊢
    split at h
    · exact ⟨h.1, h.2.1, k _ h.2.2⟩
    · exact ⟨h.1, h.2.1, k _ h.2.2⟩
    · exact h.elim
theorem pd_in (ha : PD Z X E a wa) (hb : PD Z X E b wb) (hm : behindInMarks .In b = false := by rfl) : PD Z X E (.Compare a [.In] [b] pos) (w2 (fIn false) wa wb) := pd_cmp op_in_seq (opd_in false) ha hb hm
theorem pd_notin (ha : PD Z X E a wa) (hb : PD Z X E b wb) (hm : behindInMarks .NotIn b = false := by rfl) : PD Z X E (.Compare a [.NotIn] [b] pos) (w2 (fIn true) wa wb) := pd_cmp op_notIn_seq (opd_in true) ha hb hm
theorem pdt_in (ha : PD Z X E a wa) (hb : PD Z X E b wb) (hm : behindInMarks .In b = false := by rfl) : PDT Z X E (.Compare a [.In] [b] pos) (wT (w2 (fIn false) wa wb)) := pdt_cmp op_in_seq (opd_in false) ha hb hm
theorem pdt_notin (ha : PD Z X E a wa) (hb : PD Z X E b wb) (hm : behindInMarks .NotIn b = false := by rfl) : PDT Z X E (.Compare a [.NotIn] [b] pos) (wT (w2 (fIn true) wa wb)) := pdt_cmp op_notIn_seq (opd_in true) ha hb hm
/-- is None, is not None -/
def noneD : PyData → Bool
  | .none => true
  | _ => false
theorem none_at {K : PySem.W.Frag} {G : Hp} {v : V} {d : PyData} (a : At K G v d) : decide (v = .non) = noneD d := by cases a <;> simp [noneD]
@[simp] def wIsN (neg : Bool) (wa : DW) : DW := fun ρ Q Y => wa ρ (fun d => Q (.bool (if neg then !noneD d else noneD d))) Y
theorem wIsN_mono {neg : Bool} {wa : DW} (m : Mo wa) : Mo (wIsN neg wa) := fun ρ Q Q' Y Y' k ky h => m _ _ _ _ _ (fun d h => k _ h) ky h
theorem tIsN_of (neg : Bool) (ha : PD Z X E a wa) : ∀ σ H Q, tW Z X E (wIsN neg wa) σ H Q → (if neg then tNotN (tW Z X E wa) else tIsN (tW Z X E wa)) σ H Q := by
  rintro σ H Q ⟨C, H0, G0, G, ρ, S, h⟩
  cases neg with
  | false =>
    refine ⟨C, H0, G0, G, ρ, S, ha.mono _ _ _ _ _ (fun d h => ?_) idY h⟩
    intro v H1 G1 x1 j1 a1
    show Q (.bl (decide (v = .non))) H1
    rw [none_at a1]
    exact (RQ.step h x1).now x1.sub j1 (.bl _)
  | true =>
    refine ⟨C, H0, G0, G, ρ, S, ha.mono _ _ _ _ _ (fun d h => ?_) idY h⟩
    intro v H1 G1 x1 j1 a1
    show Q (.bl (!decide (v = .non))) H1
    rw [none_at a1]
    exact (RQ.step h x1).now x1.sub j1 (.bl _)
variable {j : Nat} {pos' : Pos}
theorem pd_isN {j} {pos'} (ha : PD Z X E a wa) : PD Z X E (.Compare a [.Is] [.Constant .none j pos'] pos) (wIsN false wa) := ⟨PEimp (pe_cmp (pc_isN ha.pe) rfl) (tIsN_of false ha), wIsN_mono ha.mono⟩
theorem pd_notN {j} {pos'} (ha : PD Z X E a wa) : PD Z X E (.Compare a [.IsNot] [.Constant .none j pos'] pos) (wIsN true wa) := ⟨PEimp (pe_cmp (pc_notN ha.pe) rfl) (tIsN_of true ha), wIsN_mono ha.mono⟩
theorem pdt_isN {j} {pos'} (ha : PD Z X E a wa) : PDT Z X E (.Compare a [.Is] [.Constant .none j pos'] pos) (wT (wIsN false wa)) :=
  ⟨PTimp (pt_cmp (pc_isN ha.pe) rfl) fun σ H Q h => tIsN_of false ha σ H _ (tT_of (wIsN_mono ha.mono) σ H Q h), wT_mono (wIsN_mono ha.mono)⟩
theorem pdt_notN {j} {pos'} (ha : PD Z X E a wa) : PDT Z X E (.Compare a [.IsNot] [.Constant .none j pos'] pos) (wT (wIsN true wa)) :=
  ⟨PTimp (pt_cmp (pc_notN ha.pe) rfl) fun σ H Q h => tIsN_of true ha σ H _ (tT_of (wIsN_mono ha.mono) σ H Q h), wT_mono (wIsN_mono ha.mono)⟩

/-! ### items, slices -/
theorem atI_at {K : PySem.W.Frag} {G : Hp} {vs : List V} {ds : List PyData} {i : Int} {d : PyData} (h : AtAll K G vs ds) (e : atI ds i = some d) : ∃ v, atI vs i = some v ∧ At K G v d := by
  unfold atI at e ⊢
  rw [h.length]
  cases q : ixN ds.length i with
  | none => rw [q] at e; cases e
  | some k =>
    rw [q] at e
    exact h.get' e
def fIx : F2
  | .list ds, .int i, Q => ∃ d, atI ds i = some d ∧ Q d
  | .tuple ds, .int i, Q => ∃ d, atI ds i = some d ∧ Q d
  | .str z, .int i, Q => z.length ≤ sizeLine ∧ ∃ c, atI z.cps.toList i = some c ∧ Q (.str ⟨#[c]⟩)
  | _, _, _ => False
theorem opd_ix : OpD X (rIx X.K) fIx where
  go := fun C G H x y dx dy Q h ax ay q => by
    cases ax with
    | lst a1 t1 => cases ay with
      | int i =>
        obtain ⟨d, e, q⟩ := q
        obtain ⟨v, e1, av⟩ := atI_at t1 e
        exact .inl ⟨_, _, i, v, rfl, rfl, SqL.of (h.sub _ _ a1), e1, RQ.now q h.sub h.j av⟩
      | _ => exact q.elim
    | tup a1 t1 => cases ay with
      | int i =>
        obtain ⟨d, e, q⟩ := q
        obtain ⟨v, e1, av⟩ := atI_at t1 e
        exact .inr (.inl ⟨_, _, i, v, rfl, rfl, SqT.same h.sub a1, e1, RQ.now q h.sub h.j av⟩)
      | _ => exact q.elim
    | str z => cases ay with
      | int i =>
        obtain ⟨hz, c, e, q⟩ := q
        exact .inr (.inr ⟨z, i, c, rfl, rfl, hz, e, RQ.now q h.sub h.j (.str _)⟩)
      | _ => exact q.elim
    | _ => exact q.elim
  mono := fun a b Q Q' k h => by
    unfold fIx at h ⊢
    split at h
    · exact ⟨h.choose, h.choose_spec.1, k _ h.choose_spec.2⟩
    · exact ⟨h.choose, h.choose_spec.1, k _ h.choose_spec.2⟩
    · exact ⟨h.1, h.2.choose, h.2.choose_spec.1, k _ h.2.choose_spec.2⟩
    · exact h.elim
theorem pd_ix (ha : PD Z X E a wa) (hb : PD Z X E b wb) (hs : PlainIx b := by exact fun _ _ => rfl) : PD Z X E (.Subscript a b pos) (w2 fIx wa wb) := ⟨PEimp (pe_ix ix_seq ha.pe hb.pe hs) (two opd_ix ha hb), w2_mono opd_ix ha hb⟩
abbrev DO := DE → (Option Int → Prop) → EC → Prop
def RO (C : DC) (G H : Hp) (Q : Option Int → Hp → Prop) : Option Int → Prop := fun o => ∀ H' G', Ext C.M G H G' H' → C.J H' → Q o H'
def tWO (Z : DC → Prop) (X : Cx) (E : XK) (w : DO) : TO := fun σ H Q => ∃ C H0 G0 G ρ, DS Z C X.K H0 G0 G H σ ρ ∧ w ρ (RO C G H Q) (RX X.K X.mg C G H E)
structure PDO (Z : DC → Prop) (X : Cx) (E : XK) (e : Option Expr) (w : DO) : Prop where
  po : PO X e (tWO Z X E w)
  mono : ∀ ρ Q Q' Y Y', (∀ d, Q d → Q' d) → (∀ x, Y x → Y' x) → w ρ Q Y → w ρ Q' Y'
theorem POimp {e : Option Expr} {t t' : TO} (h : PO X e t) (i : ∀ σ H Q, t' σ H Q → t σ H Q) : PO X e t' := ⟨fun pins s σ H Q I hw => h.run pins s σ H Q I (i σ H Q hw)⟩
@[simp] def wNo : DO := fun _ Q _ => Q none
@[simp] def wPart (w : DW) : DO := fun ρ Q Y => w ρ (fun d => ∃ i, d = .int i ∧ Q (some i)) Y
theorem pdo_none : PDO Z X E none wNo := ⟨POimp po_none fun σ H Q ⟨C, H0, G0, G, ρ, S, h⟩ => h H G (Ext.refl S.sub) S.j, fun _ _ _ _ _ k _ h => k _ h⟩
theorem pdo_some {w : DW} (h : PD Z X E e w) : PDO Z X E (some e) (wPart w) := by
  refine ⟨POimp (po_some h.pe) fun σ H Q ⟨C, H0, G0, G, ρ, S, q⟩ => ?_, fun ρ Q Q' Y Y' k ky q => h.mono _ _ _ _ _ (fun d ⟨i, e, q⟩ => ⟨i, e, k _ q⟩) ky q⟩
  refine ⟨C, H0, G0, G, ρ, S, h.mono _ _ _ _ _ (fun d q => ?_) idY q⟩
  obtain ⟨i, rfl, q⟩ := q
  intro v H1 G1 x1 j1 a1
  cases a1
  exact ⟨i, rfl, q H1 G1 x1 j1⟩
def cutD (xs : List PyData) (lo hi : Option Int) : List PyData := (xs.drop (HT.sIx xs.length 0 lo)).take (HT.sIx xs.length xs.length hi - HT.sIx xs.length 0 lo)
theorem cut_at {K : PySem.W.Frag} {G : Hp} {vs : List V} {ds : List PyData} (h : AtAll K G vs ds) (lo hi : Option Int) : AtAll K G (cutV vs lo hi) (cutD ds lo hi) := by
  unfold cutV cutD
  rw [h.length]
  exact (h.drop _).take _
theorem cutD_whole {ds : List PyData} {lo hi : Option Int} (h1 : HT.sIx ds.length 0 lo = 0) (h2 : HT.sIx ds.length ds.length hi = ds.length) : cutD ds lo hi = ds := by
  unfold cutD
  rw [h1, h2]
  simp
def fSl (d : PyData) (lo hi : Option Int) (Q : PyData → Prop) : Prop := match d with
  | .list ds => Q (.list (cutD ds lo hi))
  | .tuple ds => Q (.tuple (cutD ds lo hi))
  | .str z => z.length ≤ sizeLine ∧ Q (.str (cutS z lo hi))
  | _ => False
def rSl3 (K : PySem.W.Frag) : V → Option Int → Option Int → Hp → VK → Prop := fun x lo hi H Q => rSlL K x lo hi H Q ∨ rSlA K x lo hi H Q ∨ rSlS x lo hi H Q
theorem sl_3 : SlR X (rSl3 X.K) := sl_list.or (sl_tupA.or sl_str)
theorem fSl_go {C : DC} {G H : Hp} {x : V} {d : PyData} {lo hi : Option Int} {Q : VK} (h : Here C G H) (ax : At X.K G x d) (q : fSl d lo hi (RQ C X.K G H Q)) : rSl3 X.K x lo hi H Q := by
  cases ax with
  | lst a1 t1 => exact .inl ⟨_, _, rfl, SqL.of (h.sub _ _ a1), fun p hp => RQ.lst q h.sub h.j (cut_at t1 lo hi) p hp⟩
  | tup a1 t1 =>
    rename_i a xs ds
    refine .inr (.inl ⟨_, _, rfl, SqT.same h.sub a1, fun ⟨e1, e2⟩ => ?_, fun _ p hp => RQ.tup q h.sub h.j (cut_at t1 lo hi) p hp⟩)
    rw [t1.length] at e1 e2
    have q : RQ C X.K G H Q (.tuple (cutD ds lo hi)) := q
    rw [cutD_whole e1 e2] at q
    exact q.now h.sub h.j (.tup a1 t1)
  | str z => exact .inr (.inr ⟨z, rfl, q.1, RQ.now q.2 h.sub h.j (.str _)⟩)
  | _ => exact q.elim
theorem fSl_mono : ∀ (d : PyData) (lo hi : Option Int) (Q Q' : PyData → Prop), (∀ d, Q d → Q' d) → fSl d lo hi Q → fSl d lo hi Q' := fun d lo hi Q Q' k h => by
  unfold fSl at h ⊢
  split at h
  · exact k _ h
  · exact k _ h
  · exact ⟨h.1, k _ h.2⟩
  · exact h.elim
@[simp] def wSl (wa : DW) (wl wh : DO) : DW := fun ρ Q Y => wa ρ (fun d => wl ρ (fun lo => wh ρ (fun hi => fSl d lo hi Q) Y) Y) Y
theorem pd_slice {lo hi : Option Expr} {wl wh : DO} {p2 : Pos} (ha : PD Z X E a wa) (hl : PDO Z X E lo wl) (hh : PDO Z X E hi wh) : PD Z X E (.Subscript a (.Slice lo hi none p2) pos) (wSl wa wl wh) := by
  refine ⟨PEimp (pe_slice sl_3 ha.pe hl.po hh.po) fun σ H Q ⟨C, H0, G0, G, ρ, S, q⟩ => ?_, fun ρ Q Q' Y Y' k ky q => ha.mono _ _ _ _ _ (fun d q => hl.mono _ _ _ _ _ (fun lo q => hh.mono _ _ _ _ _ (fun hi q => fSl_mono _ _ _ _ _ k q) ky q) ky q) ky q⟩
  refine ⟨C, H0, G0, G, ρ, S, ha.mono _ _ _ _ _ (fun d q => ?_) idY q⟩
  intro v H1 G1 x1 j1 a1
  have S1 := S.step x1 j1
  refine ⟨C, H0, G0, G1, ρ, S1, hl.mono _ _ _ _ _ (fun lo q => ?_) (RX.step x1) q⟩
  intro H2 G2 x2 j2
  have S2 := S1.step x2 j2
  refine ⟨C, H0, G0, G2, ρ, S2, hh.mono _ _ _ _ _ (fun hi q => ?_) (RX.step (x1.trans x2)) q⟩
  intro H3 G3 x3 j3
  have S3 := S2.step x3 j3
  exact fSl_go S3.here (a1.same ((x2.trans x3).gs)) (fSl_mono _ _ _ _ _ (fun d q => ((q.step x1).step x2).step x3) q)
/-- e[::-1] of a list -/
@[simp] def wRev (wa : DW) : DW := fun ρ Q Y => wa ρ (fun d => ∃ ds, d = .list ds ∧ Q (.list ds.reverse)) Y
theorem pd_revL {k : Nat} {p1 p2 p3 : Pos} (ha : PD Z X E a wa) : PD Z X E (.Subscript a (.Slice none none (some (.UnaryOp .USub (.Constant (.int 1) k p1) p2)) p3) pos) (wRev wa) := by
  refine ⟨PEimp (pe_revL ha.pe) fun σ H Q ⟨C, H0, G0, G, ρ, S, q⟩ => ?_, fun ρ Q Q' Y Y' k ky q => ha.mono _ _ _ _ _ (fun d ⟨ds, e, q⟩ => ⟨ds, e, k _ q⟩) ky q⟩
  refine ⟨C, H0, G0, G, ρ, S, ha.mono _ _ _ _ _ (fun d q => ?_) idY q⟩
  obtain ⟨ds, rfl, q⟩ := q
  intro v H1 G1 x1 j1 a1
  cases a1 with
  | lst h t => exact ⟨_, _, rfl, SqL.of (x1.sub _ _ h), fun p hp => RQ.lst (RQ.step q x1) x1.sub j1 t.rev p hp⟩

/-! ### arguments, displays, built-ins -/
abbrev DAW := DE → (List PyData → Prop) → EC → Prop
def RA (C : DC) (K : PySem.W.Frag) (G H : Hp) (Q : List V → Hp → Prop) : List PyData → Prop := fun ds => ∀ vs H' G', Ext C.M G H G' H' → C.J H' → AtAll K G' vs ds → Q vs H'
def tWA (Z : DC → Prop) (X : Cx) (E : XK) (w : DAW) : TA := fun σ H Q => ∃ C H0 G0 G ρ, DS Z C X.K H0 G0 G H σ ρ ∧ w ρ (RA C X.K G H Q) (RX X.K X.mg C G H E)
structure PDA (Z : DC → Prop) (X : Cx) (E : XK) (es : List Expr) (w : DAW) : Prop where
  pa : PA X es (tWA Z X E w)
  mono : ∀ ρ Q Q' Y Y', (∀ d, Q d → Q' d) → (∀ x, Y x → Y' x) → w ρ Q Y → w ρ Q' Y'
theorem PAimp {es : List Expr} {t t' : TA} (h : PA X es t) (i : ∀ σ H Q, t' σ H Q → t σ H Q) : PA X es t' := ⟨fun pos pins s σ H Q I hw => h.run pos pins s σ H Q I (i σ H Q hw)⟩
@[simp] def wNil : DAW := fun _ Q _ => Q []
@[simp] def wCons (w : DW) (ws : DAW) : DAW := fun ρ Q Y => w ρ (fun d => ws ρ (fun ds => Q (d :: ds)) Y) Y
theorem pda_nil : PDA Z X E [] wNil := ⟨PAimp pa_nil fun σ H Q ⟨C, H0, G0, G, ρ, S, q⟩ => q [] H G (Ext.refl S.sub) S.j .nil, fun _ _ _ _ _ k _ h => k _ h⟩
theorem pda_cons {es : List Expr} {w : DW} {ws : DAW} (h : PD Z X E e w) (hs : PDA Z X E es ws) (he : starEach (e :: es) X.env = (false, eval e X.env) :: starEach es X.env := by rfl) : PDA Z X E (e :: es) (wCons w ws) := by
  refine ⟨PAimp (pa_cons h.pe hs.pa he) fun σ H Q ⟨C, H0, G0, G, ρ, S, q⟩ => ?_, fun ρ Q Q' Y Y' k ky q => h.mono _ _ _ _ _ (fun d q => hs.mono _ _ _ _ _ (fun ds q => k _ q) ky q) ky q⟩
  refine ⟨C, H0, G0, G, ρ, S, h.mono _ _ _ _ _ (fun d q => ?_) idY q⟩
  intro v H1 G1 x1 j1 a1
  have S1 := S.step x1 j1
  refine ⟨C, H0, G0, G1, ρ, S1, hs.mono _ _ _ _ _ (fun ds q => ?_) (RX.step x1) q⟩
  intro vs H2 G2 x2 j2 a2
  exact q (v :: vs) H2 G2 (x1.trans x2) j2 (.cons (a1.same x2.gs) a2)
variable {es : List Expr} {wA : DAW}
@[simp] def wTup (wA : DAW) : DW := fun ρ Q Y => wA ρ (fun ds => ds.length ≤ sizeLine ∧ Q (.tuple ds)) Y
@[simp] def wLst (wA : DAW) : DW := fun ρ Q Y => wA ρ (fun ds => ds.length ≤ sizeLine ∧ Q (.list ds)) Y
theorem pd_tup {k : Nat} (h : PDA Z X E es wA) : PD Z X E (.Tuple es k pos) (wTup wA) := by
  refine ⟨PEimp (pe_tup h.pa) fun σ H Q ⟨C, H0, G0, G, ρ, S, q⟩ => ?_, fun ρ Q Q' Y Y' k ky q => h.mono _ _ _ _ _ (fun ds q => ⟨q.1, k _ q.2⟩) ky q⟩
  refine ⟨C, H0, G0, G, ρ, S, h.mono _ _ _ _ _ (fun ds q => ?_) idY q⟩
  intro vs H1 G1 x1 j1 a1
  exact ⟨by rw [a1.length]; exact q.1, fun p hp => RQ.tup (RQ.step q.2 x1) x1.sub j1 a1 p hp⟩
theorem pd_lst (h : PDA Z X E es wA) : PD Z X E (.List es pos) (wLst wA) := by
  refine ⟨PEimp (pe_lst h.pa) fun σ H Q ⟨C, H0, G0, G, ρ, S, q⟩ => ?_, fun ρ Q Q' Y Y' k ky q => h.mono _ _ _ _ _ (fun ds q => ⟨q.1, k _ q.2⟩) ky q⟩
  refine ⟨C, H0, G0, G, ρ, S, h.mono _ _ _ _ _ (fun ds q => ?_) idY q⟩
  intro vs H1 G1 x1 j1 a1
  exact ⟨by rw [a1.length]; exact q.1, fun p hp => RQ.lst (RQ.step q.2 x1) x1.sub j1 a1 p hp⟩
abbrev FN := List PyData → (PyData → Prop) → Prop
structure CallD (X : Cx) (r : List V → Hp → VK → Prop) (f : FN) : Prop where
  go : ∀ C G H vs ds Q, Here C G H → AtAll X.K G vs ds → f ds (RQ C X.K G H Q) → r vs H Q
  mono : ∀ ds Q Q', (∀ d, Q d → Q' d) → f ds Q → f ds Q'
@[simp] def wCall (f : FN) (wA : DAW) : DW := fun ρ Q Y => wA ρ (fun ds => f ds Q) Y
variable {r : List V → Hp → VK → Prop} {f : FN} {x : Str} {id : String} {p : Pos}
theorem call_of (o : CallD X r f) (h : PDA Z X E es wA) : ∀ σ H Q, tW Z X E (wCall f wA) σ H Q → tCB r (tWA Z X E wA) σ H Q := by
  rintro σ H Q ⟨C, H0, G0, G, ρ, S, q⟩
  refine ⟨C, H0, G0, G, ρ, S, h.mono _ _ _ _ _ (fun ds q => ?_) idY q⟩
  intro vs H1 G1 x1 j1 a1
  exact o.go C G1 H1 vs ds Q ⟨x1.sub, j1⟩ a1 (o.mono _ _ _ (fun d q => q.step x1) q)
theorem wCall_mono (o : CallD X r f) (h : PDA Z X E es wA) : Mo (wCall f wA) := fun ρ Q Q' Y Y' k ky q => h.mono _ _ _ _ _ (fun ds q => o.mono _ _ _ k q) ky q
theorem pd_callB (hc : CallR X (.builtin id) r) (o : CallD X r f) (hm : X.mg x = none) (h : PDA Z X E (e :: es) wA) (hv : bootBuiltins x = some (.builtin id) := by decide +kernel) (hg : Gl X x := by rfl) (hn : x ≠ "__name__" := by decide) (hdb : (x == ("__debug__" : Str)) = false := by decide)
    (he : starEach (e :: es) X.env = (false, eval e X.env) :: starEach es X.env := by rfl) (hpl : (backTo pos (starEach es X.env)).any (·.1) = false := by rfl) : PD Z X E (.Call (.Name x p) (e :: es) [] pos) (wCall f wA) :=
  ⟨PEimp (pe_callB hc hg hm hv h.pa hn hdb he hpl) (call_of o h), wCall_mono o h⟩
theorem pd_callTy {T : String} (hc : CallR X (.type T) r) (o : CallD X r f) (hm : X.mg x = none) (h : PDA Z X E (e :: es) wA) (hv : bootBuiltins x = some (.type T) := by decide +kernel) (hg : Gl X x := by rfl) (hn : x ≠ "__name__" := by decide) (hdb : (x == ("__debug__" : Str)) = false := by decide)
    (he : starEach (e :: es) X.env = (false, eval e X.env) :: starEach es X.env := by rfl) (hpl : (backTo pos (starEach es X.env)).any (·.1) = false := by rfl) : PD Z X E (.Call (.Name x p) (e :: es) [] pos) (wCall f wA) :=
  ⟨PEimp (pe_callTy hc hg hm hv h.pa hn hdb he hpl) (call_of o h), wCall_mono o h⟩
theorem one_at {K : PySem.W.Frag} {G : Hp} {vs : List V} {d : PyData} (h : AtAll K G vs [d]) : ∃ v, vs = [v] ∧ At K G v d := by
  cases h with
  | cons a t => cases t; exact ⟨_, rfl, a⟩
theorem two_at {K : PySem.W.Frag} {G : Hp} {vs : List V} {d e : PyData} (h : AtAll K G vs [d, e]) : ∃ v u, vs = [v, u] ∧ At K G v d ∧ At K G u e := by
  cases h with
  | cons a t =>
    obtain ⟨u, rfl, b⟩ := one_at t
    exact ⟨_, _, rfl, a, b⟩
/-- len -/
def fLen : FN
  | [.str z], Q => z.length ≤ sizeLine ∧ Q (.int z.length)
  | [.list ds], Q => Q (.int ds.length)
  | [.tuple ds], Q => Q (.int ds.length)
  | _, _ => False
theorem cd_len : CallD X (fun xs H Q => ∃ x n, xs = [x] ∧ LenV X.K x H n ∧ Q (.int n) H) fLen where
  go := fun C G H vs ds Q h a q => by
    unfold fLen at q
    split at q
    · obtain ⟨v, rfl, a1⟩ := one_at a
      cases a1
      refine ⟨_, _, rfl, ?_, RQ.now q.2 h.sub h.j (.int _)⟩
      exact ⟨q.1, rfl⟩
    · obtain ⟨v, rfl, a1⟩ := one_at a
      cases a1 with
      | lst e t => exact ⟨_, _, rfl, .inl ⟨_, SqL.of (h.sub _ _ e), rfl⟩, by rw [t.length]; exact RQ.now q h.sub h.j (.int _)⟩
    · obtain ⟨v, rfl, a1⟩ := one_at a
      cases a1 with
      | tup e t => exact ⟨_, _, rfl, .inr ⟨_, SqT.same h.sub e, rfl⟩, by rw [t.length]; exact RQ.now q h.sub h.j (.int _)⟩
    · exact q.elim
  mono := fun ds Q Q' k h => by
    unfold fLen at h ⊢
    split at h
    · exact ⟨h.1, k _ h.2⟩
    · exact k _ h
    · exact k _ h
    · exact h.elim
theorem pd_len (hm : X.mg "len" = none) (h : PDA Z X E (e :: es) wA) (hg : Gl X "len" := by rfl)
    (he : starEach (e :: es) X.env = (false, eval e X.env) :: starEach es X.env := by rfl) (hpl : (backTo pos (starEach es X.env)).any (·.1) = false := by rfl) : PD Z X E (.Call (.Name "len" p) (e :: es) [] pos) (wCall fLen wA) :=
  pd_callB call_len cd_len hm h PySem.boot_len hg (by decide) (by decide) he hpl
/-- int(x) -/
def fInt : FN
  | [.int i], Q => Q (.int i)
  | [.bool b], Q => Q (.int (if b then 1 else 0))
  | _, _ => False
theorem cd_int : CallD X (fun xs H Q => (∃ i, xs = [V.int i] ∧ Q (.int i) H) ∨ ∃ k, xs = [V.bl k] ∧ Q (.int (if k then 1 else 0)) H) fInt where
  go := fun C G H vs ds Q h a q => by
    unfold fInt at q
    split at q
    · obtain ⟨v, rfl, a1⟩ := one_at a
      cases a1
      exact .inl ⟨_, rfl, RQ.now q h.sub h.j (.int _)⟩
    · obtain ⟨v, rfl, a1⟩ := one_at a
      cases a1
      exact .inr ⟨_, rfl, RQ.now q h.sub h.j (.int _)⟩
    · exact q.elim
  mono := fun ds Q Q' k h => by
    unfold fInt at h ⊢
    split at h
    · exact k _ h
    · exact k _ h
    · exact h.elim
theorem pd_toInt (hm : X.mg "int" = none) (h : PDA Z X E (e :: es) wA) (hg : Gl X "int" := by rfl)
    (he : starEach (e :: es) X.env = (false, eval e X.env) :: starEach es X.env := by rfl) (hpl : (backTo pos (starEach es X.env)).any (·.1) = false := by rfl) : PD Z X E (.Call (.Name "int" p) (e :: es) [] pos) (wCall fInt wA) :=
  pd_callTy call_int1 cd_int hm h (by decide +kernel) hg (by decide) (by decide) he hpl
/-- tuple(x), list(x) -/
def fTuple : FN
  | [.list ds], Q => Q (.tuple ds)
  | [.tuple ds], Q => Q (.tuple ds)
  | _, _ => False
theorem cd_tuple : CallD X (fun xs H Q => ∃ p ys, xs = [V.ref p] ∧ ((SqL X.K H p ys ∧ ∀ l, H l = none → Q (.ref l) (upd H l (.tup ys))) ∨ (SqT X.K H p ys ∧ Q (.ref p) H))) fTuple where
  go := fun C G H vs ds Q h a q => by
    unfold fTuple at q
    split at q
    · obtain ⟨v, rfl, a1⟩ := one_at a
      cases a1 with
      | lst e t => exact ⟨_, _, rfl, .inl ⟨SqL.of (h.sub _ _ e), fun p hp => RQ.tup q h.sub h.j t p hp⟩⟩
    · obtain ⟨v, rfl, a1⟩ := one_at a
      cases a1 with
      | tup e t => exact ⟨_, _, rfl, .inr ⟨SqT.same h.sub e, RQ.now q h.sub h.j (.tup e t)⟩⟩
    · exact q.elim
  mono := fun ds Q Q' k h => by
    unfold fTuple at h ⊢
    split at h
    · exact k _ h
    · exact k _ h
    · exact h.elim
theorem pd_toTuple (hm : X.mg "tuple" = none) (h : PDA Z X E (e :: es) wA) (hg : Gl X "tuple" := by rfl)
    (he : starEach (e :: es) X.env = (false, eval e X.env) :: starEach es X.env := by rfl) (hpl : (backTo pos (starEach es X.env)).any (·.1) = false := by rfl) : PD Z X E (.Call (.Name "tuple" p) (e :: es) [] pos) (wCall fTuple wA) :=
  pd_callTy call_tuple_of cd_tuple hm h (by decide +kernel) hg (by decide) (by decide) he hpl
def fList : FN
  | [.list ds], Q => Q (.list ds)
  | [.tuple ds], Q => Q (.list ds)
  | _, _ => False
theorem cd_list : CallD X (fun xs H Q => ∃ p ys, xs = [V.ref p] ∧ (SqL X.K H p ys ∨ SqT X.K H p ys) ∧ ∀ l, H l = none → Q (.ref l) (upd H l (.lst ys))) fList where
  go := fun C G H vs ds Q h a q => by
    unfold fList at q
    split at q
    · obtain ⟨v, rfl, a1⟩ := one_at a
      cases a1 with
      | lst e t => exact ⟨_, _, rfl, .inl (SqL.of (h.sub _ _ e)), fun p hp => RQ.lst q h.sub h.j t p hp⟩
    · obtain ⟨v, rfl, a1⟩ := one_at a
      cases a1 with
      | tup e t => exact ⟨_, _, rfl, .inr (SqT.same h.sub e), fun p hp => RQ.lst q h.sub h.j t p hp⟩
    · exact q.elim
  mono := fun ds Q Q' k h => by
    unfold fList at h ⊢
    split at h
    · exact k _ h
    · exact k _ h
    · exact h.elim
theorem pd_toList (hm : X.mg "list" = none) (h : PDA Z X E (e :: es) wA) (hg : Gl X "list" := by rfl)
    (he : starEach (e :: es) X.env = (false, eval e X.env) :: starEach es X.env := by rfl) (hpl : (backTo pos (starEach es X.env)).any (·.1) = false := by rfl) : PD Z X E (.Call (.Name "list" p) (e :: es) [] pos) (wCall fList wA) :=
  pd_callTy call_list_of cd_list hm h (by decide +kernel) hg (by decide) (by decide) he hpl
/-- isinstance(x, T), isinstance(x, (T, U)) -/
inductive Ty5 where
  | str | tuple | int | bool | list
def Ty5.nm : Ty5 → String
  | .str => "str"
  | .tuple => "tuple"
  | .int => "int"
  | .bool => "bool"
  | .list => "list"
def isiD : Ty5 → PyData → Bool
  | .str, .str _ => true
  | .tuple, .tuple _ => true
  | .int, .int _ => true
  | .int, .bool _ => true
  | .bool, .bool _ => true
  | .list, .list _ => true
  | _, _ => false
def tyN : PyData → String
  | .none => "NoneType"
  | .bool _ => "bool"
  | .int _ => "int"
  | .str _ => "str"
  | .list _ => "list"
  | .tuple _ => "tuple"
  | .dict _ => "dict"
def isiN : Ty5 → String → Bool
  | .str, n => n == "str"
  | .tuple, n => n == "tuple"
  | .int, n => n == "int" || n == "bool"
  | .bool, n => n == "bool"
  | .list, n => n == "list"
theorem isi_kitN : ∀ T ∈ [Ty5.str, .tuple, .int, .bool, .list], ∀ n ∈ ["NoneType", "bool", "int", "str", "list", "tuple", "dict"], kitB n T.nm = some (isiN T n) := by decide +kernel
theorem isi_kit (T : Ty5) (d : PyData) : kitB (tyN d) T.nm = some (isiD T d) := by
  have e : isiN T (tyN d) = isiD T d := by cases T <;> cases d <;> rfl
  rw [← e]
  refine isi_kitN T (by cases T <;> simp) _ (by cases d <;> simp [tyN])
theorem tyX_at {K : PySem.W.Frag} {G H : Hp} (s : Same G H) {v : V} {d : PyData} (a : At K G v d) : TyX K H v (.type (tyN d)) := by
  cases a with
  | non => exact .base .non
  | bl b => exact .base (.bl b)
  | int b => exact .base (.int b)
  | str b => exact .base (.str b)
  | lst e t => exact .base (.lst (s _ _ e))
  | tup e t =>
    rcases SqT.same s e with (h | ⟨o, h⟩) | ⟨o, its, n, h, c, _⟩
    · exact .base (.tup h)
    · exact .fTuple h
    · exact .kTuple h c
theorem pe_ty (T : Ty5) {pos : Pos} (hm : X.mg (Str.ofString T.nm) = none) (hg : Gl X (Str.ofString T.nm)) (hv : bootBuiltins (Str.ofString T.nm) = some (.type T.nm)) (hn : Str.ofString T.nm ≠ "__name__") (hd : (Str.ofString T.nm == ("__debug__" : Str)) = false) : PE X (.Name (Str.ofString T.nm) pos) (tC (.ty T.nm)) :=
  pe_bltn hg hm hv rfl hn hd
@[simp] def wIsi (T : Ty5) (wa : DW) : DW := fun ρ Q Y => wa ρ (fun d => Q (.bool (isiD T d))) Y
theorem pd_isi {p2 : Pos} (T : Ty5) {x : Str} (ht : PE X (.Name x p2) (tC (.ty T.nm))) (hm : X.mg "isinstance" = none) (ha : PD Z X E e wa) (hv : bootBuiltins "isinstance" = some (.builtin "isinstance") := by decide +kernel) (hg : Gl X "isinstance" := by rfl)
    (he : starEach [e, .Name x p2] X.env = (false, eval e X.env) :: starEach [.Name x p2] X.env := by rfl) (he1 : starEach [.Name x p2] X.env = (false, eval (.Name x p2) X.env) :: starEach [] X.env := by rfl) (hpl : (backTo pos (starEach [.Name x p2] X.env)).any (·.1) = false := by rfl) :
    PD Z X E (.Call (.Name "isinstance" p) [e, .Name x p2] [] pos) (wIsi T wa) := by
  refine ⟨PEimp (pe_callB call_isi hg hm hv (pa_cons ha.pe (pa_cons ht pa_nil he1) he) (by decide) (by decide) he hpl) fun σ H Q ⟨C, H0, G0, G, ρ, S, q⟩ => ?_, fun ρ Q Q' Y Y' k ky q => ha.mono _ _ _ _ _ (fun d q => k _ q) ky q⟩
  refine ⟨C, H0, G0, G, ρ, S, ha.mono _ _ _ _ _ (fun d q => ?_) idY q⟩
  intro v H1 G1 x1 j1 a1
  exact ⟨v, .ty T.nm, _, _, _, rfl, .ty _, tyX_at x1.sub a1, kit_ty (isi_kit T d), (RQ.step q x1).now x1.sub j1 (.bl _)⟩
@[simp] def wIsi2 (T U : Ty5) (wa : DW) : DW := fun ρ Q Y => wa ρ (fun d => Q (.bool (isiD T d || isiD U d))) Y
theorem pd_isi2 {p2 p3 p4 : Pos} {k : Nat} (T U : Ty5) {x y : Str} (ht : PE X (.Name x p2) (tC (.ty T.nm))) (hu : PE X (.Name y p3) (tC (.ty U.nm))) (hm : X.mg "isinstance" = none) (ha : PD Z X E e wa) (hv : bootBuiltins "isinstance" = some (.builtin "isinstance") := by decide +kernel) (hg : Gl X "isinstance" := by rfl)
    (he : starEach [e, .Tuple [.Name x p2, .Name y p3] k p4] X.env = (false, eval e X.env) :: starEach [.Tuple [.Name x p2, .Name y p3] k p4] X.env := by rfl) (he1 : starEach [.Tuple [.Name x p2, .Name y p3] k p4] X.env = (false, eval (.Tuple [.Name x p2, .Name y p3] k p4) X.env) :: starEach [] X.env := by rfl)
    (he2 : starEach [.Name x p2, .Name y p3] X.env = (false, eval (.Name x p2) X.env) :: starEach [.Name y p3] X.env := by rfl) (he3 : starEach [.Name y p3] X.env = (false, eval (.Name y p3) X.env) :: starEach [] X.env := by rfl)
    (hpl : (backTo pos (starEach [.Tuple [.Name x p2, .Name y p3] k p4] X.env)).any (·.1) = false := by rfl) :
    PD Z X E (.Call (.Name "isinstance" p) [e, .Tuple [.Name x p2, .Name y p3] k p4] [] pos) (wIsi2 T U wa) := by
  refine ⟨PEimp (pe_callB call_isiT hg hm hv (pa_cons ha.pe (pa_cons (pe_tup (pa_cons ht (pa_cons hu pa_nil he3) he2)) pa_nil he1) he) (by decide) (by decide) he hpl) fun σ H Q ⟨C, H0, G0, G, ρ, S, q⟩ => ?_, fun ρ Q Q' Y Y' k ky q => ha.mono _ _ _ _ _ (fun d q => k _ q) ky q⟩
  refine ⟨C, H0, G0, G, ρ, S, ha.mono _ _ _ _ _ (fun d q => ?_) idY q⟩
  intro v H1 G1 x1 j1 a1
  refine ⟨by show 2 ≤ sizeLine; decide, fun l hl => ?_⟩
  have x2 : Ext C.M G1 H1 G1 (upd H1 l (.tup [.ty T.nm, .ty U.nm])) := Ext.newM x1.sub hl
  refine ⟨v, l, _, _, [.type T.nm, .type U.nm], (isiD T d || isiD U d), rfl, upd_same, .cons (.ty _) (.cons (.ty _) .nil), tyX_at x2.sub a1, ?_, ((RQ.step q x1).step x2).now x2.sub (C.jnew hl j1) (.bl _)⟩
  refine kitAny_cons (kit_ty (isi_kit T d)) (fun e => ?_) (fun e => by rw [e]; rfl)
  rw [e, Bool.false_or]
  exact kitAny_cons (kit_ty (isi_kit U d)) (fun e => by rw [e]; exact kitAny_nil) (fun e => e)
/-- max(a, b) of ints -/
def fMax : FN
  | [.int i, .int j], Q => Q (.int (if j > i then j else i))
  | _, _ => False
theorem cd_max : CallD X (fun xs H Q => ∃ i j, xs = [V.int i, V.int j] ∧ Q (.int (if j > i then j else i)) H) fMax where
  go := fun C G H vs ds Q h a q => by
    unfold fMax at q
    split at q
    · obtain ⟨v, u, rfl, a1, b1⟩ := two_at a
      cases a1
      cases b1
      exact ⟨_, _, rfl, RQ.now q h.sub h.j (.int _)⟩
    · exact q.elim
  mono := fun ds Q Q' k h => by
    unfold fMax at h ⊢
    split at h
    · exact k _ h
    · exact h.elim
theorem pd_max (hc : X.calm = true) (hm : X.mg "max" = none) (h : PDA Z X E (e :: es) wA) (hg : Gl X "max" := by rfl)
    (he : starEach (e :: es) X.env = (false, eval e X.env) :: starEach es X.env := by rfl) (hpl : (backTo pos (starEach es X.env)).any (·.1) = false := by rfl) : PD Z X E (.Call (.Name "max" p) (e :: es) [] pos) (wCall fMax wA) :=
  pd_callB (call_max2 hc) cd_max hm h (by decide +kernel) hg (by decide) (by decide) he hpl
/-- texts: split, join -/
def strsD (ys : List Str) : List PyData := ys.map PyData.str
theorem strs_at {K : PySem.W.Frag} {G : Hp} : ∀ ys : List Str, AtAll K G (ys.map V.str) (strsD ys)
  | [] => .nil
  | y :: ys => .cons (.str y) (strs_at ys)
theorem at_strs {K : PySem.W.Frag} {G : Hp} : ∀ {vs : List V} {ys : List Str}, AtAll K G vs (strsD ys) → vs = ys.map V.str
  | _, [], .nil => rfl
  | _, y :: ys, .cons a t => by
    cases a
    rw [at_strs t]
    rfl
@[simp] def wSplit (wa wb : DW) : DW := fun ρ Q Y => wa ρ (fun x => ∃ z, x = .str z ∧ wb ρ (fun y => ∃ s, y = .str s ∧ (s.length == 0) = false ∧ z.length + 2 ≤ sizeLine ∧ Q (.list (strsD (Txt.split z s)))) Y) Y
theorem pd_split {apos : Pos} (ha : PD Z X E a wa) (hb : PD Z X E e wb) (hs : starEach [e] X.env = [(false, eval e X.env)] := by rfl) (hbase : attributeBase a "split" X.env (eval a X.env) = eval a X.env := by rfl) (hline : (apos.endLine == pos.line) = true := by rfl) :
    PD Z X E (.Call (.Attribute a "split" apos) [e] [] pos) (wSplit wa wb) := by
  refine ⟨PEimp (pe_split ha.pe hb.pe hs hbase hline) fun σ H Q ⟨C, H0, G0, G, ρ, S, q⟩ => ?_, fun ρ Q Q' Y Y' k ky q => ha.mono _ _ _ _ _ (fun x ⟨z, e1, q⟩ => ⟨z, e1, hb.mono _ _ _ _ _ (fun y ⟨s, e2, h1, h2, q⟩ => ⟨s, e2, h1, h2, k _ q⟩) ky q⟩) ky q⟩
  refine ⟨C, H0, G0, G, ρ, S, ha.mono _ _ _ _ _ (fun x q => ?_) idY q⟩
  obtain ⟨z, rfl, q⟩ := q
  intro v H1 G1 x1 j1 a1
  cases a1
  refine ⟨⟨z, rfl⟩, C, H0, G0, G1, ρ, S.step x1 j1, hb.mono _ _ _ _ _ (fun y q => ?_) (RX.step x1) q⟩
  obtain ⟨s, rfl, h1, h2, q⟩ := q
  intro u H2 G2 x2 j2 a2
  cases a2
  exact ⟨z, s, rfl, rfl, h1, h2, fun p hp => RQ.lst ((RQ.step q x1).step x2) x2.sub j2 (strs_at _) p hp⟩
def fSeqStrs : PyData → Option (List PyData)
  | .list ds => some ds
  | .tuple ds => some ds
  | _ => none
@[simp] def wJoin (wa wb : DW) : DW := fun ρ Q Y => wa ρ (fun x => ∃ z, x = .str z ∧ wb ρ (fun y => ∃ ys, fSeqStrs y = some (strsD ys) ∧ (ys.map (·.length)).sum + ys.length * z.length ≤ 16777216 ∧ Q (.str (Txt.join z ys))) Y) Y
theorem pd_join {apos : Pos} (ha : PD Z X E a wa) (hb : PD Z X E e wb) (hs : starEach [e] X.env = [(false, eval e X.env)] := by rfl) (hbase : attributeBase a "join" X.env (eval a X.env) = eval a X.env := by rfl) (hline : (apos.endLine == pos.line) = true := by rfl) :
    PD Z X E (.Call (.Attribute a "join" apos) [e] [] pos) (wJoin wa wb) := by
  refine ⟨PEimp (pe_join ha.pe hb.pe hs hbase hline) fun σ H Q ⟨C, H0, G0, G, ρ, S, q⟩ => ?_, fun ρ Q Q' Y Y' k ky q => ha.mono _ _ _ _ _ (fun x ⟨z, e1, q⟩ => ⟨z, e1, hb.mono _ _ _ _ _ (fun y ⟨s, e2, h1, q⟩ => ⟨s, e2, h1, k _ q⟩) ky q⟩) ky q⟩
  refine ⟨C, H0, G0, G, ρ, S, ha.mono _ _ _ _ _ (fun x q => ?_) idY q⟩
  obtain ⟨z, rfl, q⟩ := q
  intro v H1 G1 x1 j1 a1
  cases a1
  refine ⟨⟨z, rfl⟩, C, H0, G0, G1, ρ, S.step x1 j1, hb.mono _ _ _ _ _ (fun y q => ?_) (RX.step x1) q⟩
  obtain ⟨ys, e, h1, q⟩ := q
  intro u H2 G2 x2 j2 a2
  cases a2 with
  | lst e2 t =>
    cases e
    rw [at_strs t] at e2
    exact ⟨z, _, ys, rfl, rfl, .inl (SqL.of (x2.sub _ _ e2)), h1, ((RQ.step q x1).step x2).now x2.sub j2 (.str _)⟩
  | tup e2 t =>
    cases e
    rw [at_strs t] at e2
    exact ⟨z, _, ys, rfl, rfl, .inr (SqT.same x2.sub e2), h1, ((RQ.step q x1).step x2).now x2.sub j2 (.str _)⟩
  | _ => cases e
end
end DL

namespace DL
open PySem PySem.Spec L2

/-! ### slots: an own list that changes -/
section
variable {Z : DC → Prop} {C : DC} {K : PySem.W.Frag} {H0 G0 G H G' H' : Hp} {σ : St} {ρ : DE}
/-- what stands in a set slot list -/
theorem get_set {α : Type} {l : List α} {i j : Nat} {x y : α} (e : (l.set i x)[j]? = some y) : (i = j ∧ y = x ∧ i < l.length) ∨ (i ≠ j ∧ l[j]? = some y) := by
  by_cases h : i = j
  · subst h
    have hlt : i < l.length := by
      have := (List.getElem?_eq_some_iff.mp e).1
      simpa using this
    rw [List.getElem?_set_self hlt] at e
    cases e
    exact .inl ⟨rfl, rfl, hlt⟩
  · rw [List.getElem?_set_ne h] at e
    exact .inr ⟨h, e⟩
/-- a slot is set to a new list of one's own -/
theorem DS.setMl (S : DS Z C K H0 G0 G H σ ρ) {i : Nat} {a : Addr} {vs : List V} {ds : List PyData} (ha : H a = some (.lst vs)) (hg : G a = none) (h0 : H0 a = none) (t : AtAll K G vs ds)
    (nw : ∀ j xs, i ≠ j → ρ[j]? = some (.ml xs) → σ[j]? ≠ some (some (V.ref a))) : DS Z C K H0 G0 G H (σ.set i (some (.ref a))) (ρ.set i (.ml ds)) := by
  refine ⟨S.z, S.ext, S.f0, S.m0, S.j, by simp [S.len], fun j s e => ?_, fun j k xs ys b n e1 e2 e3 e4 => ?_⟩
  · rcases get_set e with ⟨rfl, rfl, hlt⟩ | ⟨hj, e⟩
    · exact ⟨some (.ref a), by rw [List.getElem?_set_self (by rw [← S.len]; exact hlt)], a, vs, rfl, ha, hg, h0, t⟩
    · rw [List.getElem?_set_ne hj]
      exact S.sl j s e
  · rcases get_set e1 with ⟨rfl, _, hlt⟩ | ⟨hj, e1⟩
    · rcases get_set e2 with ⟨rfl, _, _⟩ | ⟨hk, e2⟩
      · exact n rfl
      · rw [List.getElem?_set_self (by rw [← S.len]; exact hlt)] at e3
        rw [List.getElem?_set_ne hk] at e4
        cases e3
        exact nw k ys hk e2 e4
    · rw [List.getElem?_set_ne hj] at e3
      rcases get_set e2 with ⟨rfl, _, hlt⟩ | ⟨hk, e2⟩
      · rw [List.getElem?_set_self (by rw [← S.len]; exact hlt)] at e4
        cases e4
        exact nw j xs hj e1 e3
      · rw [List.getElem?_set_ne hk] at e4
        exact S.inj j k xs ys b n e1 e2 e3 e4
/-- the list of a slot -/
theorem DS.ml (S : DS Z C K H0 G0 G H σ ρ) {i : Nat} {ds : List PyData} (e : ρ[i]? = some (.ml ds)) : ∃ a vs, σ[i]? = some (some (V.ref a)) ∧ H a = some (.lst vs) ∧ G a = none ∧ H0 a = none ∧ AtAll K G vs ds := by
  obtain ⟨o, h1, a, vs, rfl, h2, h3, h4, h5⟩ := S.sl i _ e
  exact ⟨a, vs, h1, h2, h3, h4, h5⟩
/-- it changes -/
theorem DS.chgMl (S : DS Z C K H0 G0 G H σ ρ) {i : Nat} {ds ds' : List PyData} {a : Addr} {vs' : List V} (e : ρ[i]? = some (.ml ds)) (ea : σ[i]? = some (some (V.ref a))) (t : AtAll K G vs' ds') : DS Z C K H0 G0 G (upd H a (.lst vs')) σ (ρ.set i (.ml ds')) := by
  obtain ⟨a', vs, h1, h2, h3, h4, h5⟩ := S.ml e
  rw [ea] at h1
  cases h1
  have hlt : i < ρ.length := (List.getElem?_eq_some_iff.mp e).1
  refine ⟨S.z, S.ext.chg h4 h3, S.f0, S.m0, ?_, by simp [S.len], fun j s q => ?_, fun j k xs ys b n e1 e2 e3 e4 => ?_⟩
  · refine C.js H _ (fun b o f q => ?_) S.j
    have nb : b ≠ a := fun z => by
      subst z
      rcases f with f | ⟨φ, rfl⟩
      · exact S.f0 b f h4
      · rw [h2] at q; cases q
    rw [upd_ne nb]; exact q
  · rcases get_set q with ⟨rfl, rfl, _⟩ | ⟨hj, q⟩
    · exact ⟨_, ea, a, vs', rfl, upd_same, h3, h4, t⟩
    · obtain ⟨o, q1, q2⟩ := S.sl j s q
      refine ⟨o, q1, ?_⟩
      cases s with
      | un => trivial
      | d x => exact q2
      | tp => exact q2
      | fn _ => exact q2
      | ml xs =>
        obtain ⟨b, us, rfl, p2, p3, p4, p5⟩ := q2
        have nb : b ≠ a := fun z => by subst z; exact S.inj i j ds xs b hj e q ea q1
        exact ⟨b, us, rfl, by rw [upd_ne nb]; exact p2, p3, p4, p5⟩
  · have g : ∀ {m : Nat} {zs : List PyData}, (ρ.set i (.ml ds'))[m]? = some (.ml zs) → ∃ zs', ρ[m]? = some (.ml zs') := fun {m zs} e1 => by
      rcases get_set e1 with ⟨rfl, _, _⟩ | ⟨_, e1⟩
      · exact ⟨ds, e⟩
      · exact ⟨zs, e1⟩
    obtain ⟨xs', q1⟩ := g e1
    obtain ⟨ys', q2⟩ := g e2
    exact S.inj j k xs' ys' b n q1 q2 e3 e4
/-- it becomes data -/
theorem DS.frzMl (S : DS Z C K H0 G0 G H σ ρ) {i : Nat} {ds : List PyData} (e : ρ[i]? = some (.ml ds)) : ∃ G', Same G G' ∧ DS Z C K H0 G0 G' H σ (ρ.set i (.d (.list ds))) := by
  obtain ⟨a, vs, h1, h2, h3, h4, h5⟩ := S.ml e
  have x : Ext C.M G0 H0 (upd G a (.lst vs)) H := S.ext.frz h4 h3 h2
  have gs : Same G (upd G a (.lst vs)) := fun b o q => by rw [upd_ne (ne_of_none q h3)]; exact q
  refine ⟨_, gs, S.z, x, S.f0, S.m0, S.j, by simp [S.len], fun j s q => ?_, fun j k xs ys b n e1 e2 e3 e4 => ?_⟩
  · rcases get_set q with ⟨rfl, rfl, _⟩ | ⟨hj, q⟩
    · exact ⟨_, h1, .ref a, rfl, .lst upd_same (h5.same gs)⟩
    · obtain ⟨o, q1, q2⟩ := S.sl j s q
      refine ⟨o, q1, ?_⟩
      cases s with
      | un => trivial
      | d x => obtain ⟨v, p1, p2⟩ := q2; exact ⟨v, p1, p2.same gs⟩
      | tp => exact q2
      | fn _ => exact q2
      | ml xs =>
        obtain ⟨b, us, rfl, p2, p3, p4, p5⟩ := q2
        have nb : b ≠ a := fun z => by subst z; exact S.inj i j ds xs b hj e q h1 q1
        exact ⟨b, us, rfl, p2, by rw [upd_ne nb]; exact p3, p4, p5.same gs⟩
  · rcases get_set e1 with ⟨rfl, q, _⟩ | ⟨_, e1⟩
    · cases q
    · rcases get_set e2 with ⟨rfl, q, _⟩ | ⟨_, e2⟩
      · cases q
      · exact S.inj j k xs ys b n e1 e2 e3 e4
end

/-! ### new lists -/
def RF (C : DC) (K : PySem.W.Frag) (G H : Hp) (Q : VK) : List PyData → Prop := fun ds => ∀ a vs H' G', Ext C.M G H G' H' → C.J H' → H a = none → G' a = none → H' a = some (.lst vs) → AtAll K G' vs ds → Q (.ref a) H'
def tWF (Z : DC → Prop) (X : Cx) (E : XK) (w : DAW) : TE := fun σ H Q => ∃ C H0 G0 G ρ, DS Z C X.K H0 G0 G H σ ρ ∧ w ρ (RF C X.K G H Q) (RX X.K X.mg C G H E)
abbrev MoA (w : DAW) : Prop := ∀ ρ Q Q' Y Y', (∀ d, Q d → Q' d) → (∀ x, Y x → Y' x) → w ρ Q Y → w ρ Q' Y'
structure PF (Z : DC → Prop) (X : Cx) (E : XK) (e : Expr) (w : DAW) : Prop where
  pe : PE X e (tWF Z X E w)
  mono : MoA w
section
variable {Z : DC → Prop} {X : Cx} {E : XK} {e : Expr} {es : List Expr} {pos : Pos} {wA : DAW} {wa : DW}
@[simp] def wOfF (w : DAW) : DW := fun ρ Q Y => w ρ (fun ds => Q (.list ds)) Y
theorem RF.of {C : DC} {K : PySem.W.Frag} {G H : Hp} {Q : VK} {ds : List PyData} (q : RQ C K G H Q (.list ds)) : RF C K G H Q ds := fun a vs H' G' x j hn gn ha t =>
  q _ H' (upd G' a (.lst vs)) (x.frz hn gn ha) j (.lst upd_same (t.same fun b o e => by rw [upd_ne (ne_of_none e gn)]; exact e))
theorem RF.new {C : DC} {K : PySem.W.Frag} {G H : Hp} {Q : VK} {ds : List PyData} {vs : List V} (q : RF C K G H Q ds) (s : Same G H) (j : C.J H) (a : AtAll K G vs ds) (p : Addr) (hp : H p = none) : Q (.ref p) (upd H p (.lst vs)) :=
  q p vs _ G (Ext.newM s hp) (C.jnew hp j) hp (by
    cases z : G p with
    | none => rfl
    | some o => rw [s p o z] at hp; cases hp) upd_same a
theorem RF.step {C : DC} {K : PySem.W.Frag} {G H G' H' : Hp} {Q : VK} {ds : List PyData} (q : RF C K G H Q ds) (x : Ext C.M G H G' H') : RF C K G' H' Q ds := fun a vs H2 G2 x2 j2 hn => q a vs H2 G2 (x.trans x2) j2 (by
  cases z : H a with
  | none => rfl
  | some o =>
    obtain ⟨o', e'⟩ := x.there a o z
    rw [hn] at e'; cases e')
theorem pd_ofF (h : PF Z X E e wA) : PD Z X E e (wOfF wA) :=
  ⟨PEimp h.pe fun σ H Q ⟨C, H0, G0, G, ρ, S, q⟩ => ⟨C, H0, G0, G, ρ, S, h.mono _ _ _ _ _ (fun ds q => RF.of q) idY q⟩, fun ρ Q Q' Y Y' k ky q => h.mono _ _ _ _ _ (fun ds q => k _ q) ky q⟩
@[simp] def wLstF (wA : DAW) : DAW := fun ρ Q Y => wA ρ (fun ds => ds.length ≤ sizeLine ∧ Q ds) Y
theorem pf_lst (h : PDA Z X E es wA) : PF Z X E (.List es pos) (wLstF wA) := by
  refine ⟨PEimp (pe_lst h.pa) fun σ H Q ⟨C, H0, G0, G, ρ, S, q⟩ => ?_, fun ρ Q Q' Y Y' k ky q => h.mono _ _ _ _ _ (fun ds q => ⟨q.1, k _ q.2⟩) ky q⟩
  refine ⟨C, H0, G0, G, ρ, S, h.mono _ _ _ _ _ (fun ds q => ?_) idY q⟩
  intro vs H1 G1 x1 j1 a1
  exact ⟨by rw [a1.length]; exact q.1, fun p hp => RF.new (RF.step q.2 x1) x1.sub j1 a1 p hp⟩
def fListF : List PyData → (List PyData → Prop) → Prop
  | [.list ds], Q => Q ds
  | [.tuple ds], Q => Q ds
  | _, _ => False
@[simp] def wListF (wA : DAW) : DAW := fun ρ Q Y => wA ρ (fun ds => fListF ds Q) Y
theorem fListF_mono : ∀ ds Q Q', (∀ d, Q d → Q' d) → fListF ds Q → fListF ds Q' := fun ds Q Q' k h => by
  unfold fListF at h ⊢
  split at h
  · exact k _ h
  · exact k _ h
  · exact h.elim
theorem pf_list {p : Pos} (hm : X.mg "list" = none) (h : PDA Z X E (e :: es) wA) (hg : Gl X "list" := by rfl)
    (he : starEach (e :: es) X.env = (false, eval e X.env) :: starEach es X.env := by rfl) (hpl : (backTo pos (starEach es X.env)).any (·.1) = false := by rfl) : PF Z X E (.Call (.Name "list" p) (e :: es) [] pos) (wListF wA) := by
  refine ⟨PEimp (pe_callTy call_list_of hg hm (by decide +kernel) h.pa (by decide) (by decide) he hpl) fun σ H Q ⟨C, H0, G0, G, ρ, S, q⟩ => ?_, fun ρ Q Q' Y Y' k ky q => h.mono _ _ _ _ _ (fun ds q => fListF_mono _ _ _ k q) ky q⟩
  refine ⟨C, H0, G0, G, ρ, S, h.mono _ _ _ _ _ (fun ds q => ?_) idY q⟩
  intro vs H1 G1 x1 j1 a
  unfold fListF at q
  split at q
  · obtain ⟨v, rfl, a1⟩ := one_at a
    cases a1 with
    | lst e t => exact ⟨_, _, rfl, .inl (SqL.of (x1.sub _ _ e)), fun p hp => RF.new (RF.step q x1) x1.sub j1 t p hp⟩
  · obtain ⟨v, rfl, a1⟩ := one_at a
    cases a1 with
    | tup e t => exact ⟨_, _, rfl, .inr (SqT.same x1.sub e), fun p hp => RF.new (RF.step q x1) x1.sub j1 t p hp⟩
  · exact q.elim
end

/-! ### targets -/
inductive Tg where
  | one (i : Nat)
  | tup (is : List Nat)
def Tg.slots : Tg → List Nat
  | .one i => [i]
  | .tup is => is
@[simp] def setAll : DE → List Nat → List PyData → DE
  | ρ, i :: is, d :: ds => setAll (ρ.set i (.d d)) is ds
  | ρ, _, _ => ρ
@[simp] def setT : Tg → PyData → DE → (DE → Prop) → Prop
  | .one i, d, ρ, N => N (ρ.set i (.d d))
  | .tup is, .tuple ds, ρ, N => ds.length = is.length ∧ N (setAll ρ is ds)
  | .tup _, _, _, _ => False
theorem setT_mono {t : Tg} {d : PyData} {ρ : DE} {N N' : DE → Prop} (k : ∀ ρ, N ρ → N' ρ) (h : setT t d ρ N) : setT t d ρ N' := by
  unfold setT at h ⊢
  split at h
  · exact k _ h
  · exact ⟨h.1, k _ h.2⟩
  · exact h.elim
theorem wipe_get : ∀ (vs : List Nat) (σ : St) (j : Nat), (wipe σ vs)[j]? = if j ∈ vs then (if j < σ.length then some none else none) else σ[j]?
  | [], σ, j => by simp [wipe]
  | v :: vs, σ, j => by
    unfold wipe
    by_cases h : v = j
    · subst h
      by_cases hl : v < σ.length
      · rw [List.getElem?_set_self (by rw [wipe_length]; exact hl)]; simp [hl]
      · rw [List.getElem?_eq_none (by simpa [wipe_length] using hl)]; simp [hl]
    · rw [List.getElem?_set_ne h, wipe_get vs σ j]
      simp [Ne.symm h]
theorem wipe_set {σ : St} {i : Nat} {o : Option V} {vs : List Nat} (h : i ∈ vs) : wipe (σ.set i o) vs = wipe σ vs := by
  apply List.ext_getElem?
  intro j
  rw [wipe_get, wipe_get, List.length_set]
  by_cases hj : j ∈ vs
  · rw [if_pos hj, if_pos hj]
  · rw [if_neg hj, if_neg hj, List.getElem?_set_ne (fun z : i = j => hj (by rw [← z]; exact h))]
theorem wipe_wipe {σ : St} {vs : List Nat} : wipe (wipe σ vs) vs = wipe σ vs := by
  apply List.ext_getElem?
  intro j
  rw [wipe_get, wipe_get, wipe_length]
  by_cases hj : j ∈ vs
  · rw [if_pos hj, if_pos hj]
  · rw [if_neg hj, if_neg hj]
def tG (Z : DC → Prop) (K : PySem.W.Frag) (t : Tg) : TG := fun v σ H Q => ∃ C H0 G0 G ρ d, DS Z C K H0 G0 G H σ ρ ∧ At K G v d ∧ setT t d ρ (fun ρ' => ∀ σ', DS Z C K H0 G0 G H σ' ρ' → (∀ vs, (∀ i ∈ t.slots, i ∈ vs) → wipe σ' vs = wipe σ vs) → Q σ' H)
theorem PGimp {X : Cx} {e : Expr} {t t' : TG} (h : PG X e t) (i : ∀ v σ H Q, t' v σ H Q → t v σ H Q) : PG X e t' := ⟨fun pins s σ H v u Q I r hw => h.run pins s σ H v u Q I r (i v σ H Q hw)⟩
section
variable {Z : DC → Prop} {X : Cx} {E : XK} {pos : Pos}
theorem pgd_one {i : Nat} {x : Str} (hN : X.N.Nodup) (hi : X.N[i]? = some x := by rfl) (hx : Loc X.env.scope x := by first | exact Or.inl rfl | exact Or.inr rfl) (hf : X.fn x = true ∨ X.env.scope.names.lookup x = some .local := by first | exact .inl rfl | exact .inr rfl) : PG X (.Name x pos) (tG Z X.K (.one i)) :=
  PGimp (pg_name hN hi hx hf) fun v σ H Q ⟨C, H0, G0, G, ρ, d, S, a, q⟩ => q _ (S.set a) (fun vs h => wipe_set (h i (by simp [Tg.slots])))
def gs : List Nat → TGs
  | [] => gNil
  | i :: is => gCons (gName i) (gs is)
theorem gs_go {Z : DC → Prop} {C : DC} {K : PySem.W.Frag} {H0 G0 G H : Hp} {Q : St → Hp → Prop} : ∀ (is : List Nat) (vs : List V) (ds : List PyData) (σ : St) (ρ : DE), DS Z C K H0 G0 G H σ ρ → AtAll K G vs ds → ds.length = is.length →
    (∀ σ', DS Z C K H0 G0 G H σ' (setAll ρ is ds) → (∀ us, (∀ i ∈ is, i ∈ us) → wipe σ' us = wipe σ us) → Q σ' H) → gs is vs σ H Q
  | [], _, _, σ, ρ, S, .nil, _, q => ⟨rfl, q σ S fun _ _ => rfl⟩
  | i :: is, _, _, σ, ρ, S, .cons a t, e, q => ⟨_, _, rfl, gs_go is _ _ _ _ (S.set a) t (by simpa using e) fun σ' S' k => q σ' S' fun us h => (k us fun j hj => h j (List.mem_cons_of_mem _ hj)).trans (wipe_set (h i List.mem_cons_self))⟩
theorem pgd_tup {es : List Expr} {k : Nat} {is : List Nat} (hc : X.calm = true) (h : PGs X es (gs is)) (hn : (assignEach es X.env).length = is.length := by rfl) (hst : (assignEach es X.env).findIdx? (·.1) = none := by rfl) : PG X (.Tuple es k pos) (tG Z X.K (.tup is)) := by
  refine PGimp (pg_tup hc h hn hst) fun v σ H Q ⟨C, H0, G0, G, ρ, d, S, a, q⟩ => ?_
  unfold setT at q
  split at q
  · rename_i z; cases z
  · rename_i is' ds z
    cases z
    cases a with
    | tup a1 t => exact ⟨_, _, rfl, SqT.same S.sub a1, by rw [t.length]; exact q.1, gs_go _ _ _ _ _ S t q.1 q.2⟩
  · exact q.elim
end

/-! ### what is walked -/
/-- J walks over the data ds -/
def ItD (K : PySem.W.Frag) (J : It) (ds : List PyData) (G0 : Hp) : Prop := ∀ (i : Nat) (G H : Hp), Same G0 G → Same G H →
  (∀ d, ds[i]? = some d → J.go i H ∧ ∀ x H', J.yld i H x H' → ∃ G', Ext (fun _ => False) G H G' H' ∧ At K G' x d) ∧ (ds.length ≤ i → J.stop i H)
def RI (C : DC) (K : PySem.W.Frag) (G H : Hp) (R : It → Hp → Prop) : List PyData → Prop := fun ds => ∀ J H' G', Ext C.M G H G' H' → C.J H' → ItD K J ds G' → R J H'
def tWI (Z : DC → Prop) (X : Cx) (E : XK) (w : DAW) : TI := fun σ H R => ∃ C H0 G0 G ρ, DS Z C X.K H0 G0 G H σ ρ ∧ w ρ (RI C X.K G H R) (RX X.K X.mg C G H E)
structure PDI (Z : DC → Prop) (X : Cx) (E : XK) (tg iter : Expr) (w : DAW) : Prop where
  pi : PI X tg iter (tWI Z X E w)
  mono : MoA w
theorem PIimp {X : Cx} {tg e : Expr} {t t' : TI} (h : PI X tg e t) (i : ∀ σ H Q, t' σ H Q → t σ H Q) : PI X tg e t' := ⟨fun pins s σ H Q I hw => h.run pins s σ H Q I (i σ H Q hw)⟩
theorem itd_list {K : PySem.W.Frag} {a : Addr} {vs : List V} {ds : List PyData} {G0 : Hp} (h : G0 a = some (.lst vs)) (t : AtAll K G0 vs ds) : ItD K (Itl K a) ds G0 := fun i G H s1 s2 => by
  have hq : SqL K H a vs := SqL.of (s2 _ _ (s1 _ _ h))
  refine ⟨fun d e => ?_, fun hl => ⟨vs, hq, by rw [t.length]; exact hl⟩⟩
  obtain ⟨v, e1, av⟩ := t.get' e
  refine ⟨⟨vs, v, hq, e1⟩, fun x H' y => ?_⟩
  obtain ⟨rfl, y⟩ := y
  have e2 := y vs hq
  rw [e1] at e2
  cases e2
  exact ⟨G, Ext.refl s2, av.same s1⟩
theorem itd_tup {K : PySem.W.Frag} {a : Addr} {vs : List V} {ds : List PyData} {G0 : Hp} (h : SqT K G0 a vs) (t : AtAll K G0 vs ds) : ItD K (Itt K a) ds G0 := fun i G H s1 s2 => by
  have hq : SqT K H a vs := SqT.same s2 (SqT.same s1 h)
  refine ⟨fun d e => ?_, fun hl => ⟨vs, hq, by rw [t.length]; exact hl⟩⟩
  obtain ⟨v, e1, av⟩ := t.get' e
  refine ⟨⟨vs, v, hq, e1⟩, fun x H' y => ?_⟩
  obtain ⟨rfl, y⟩ := y
  have e2 := y vs hq
  rw [e1] at e2
  cases e2
  exact ⟨G, Ext.refl s2, av.same s1⟩
def rngD (lo : Int) (n : Nat) : List PyData := (List.range n).map fun (k : Nat) => PyData.int (lo + (k : Int))
theorem itd_rng {K : PySem.W.Frag} {lo : Int} {n : Nat} {G0 : Hp} : ItD K (Itr lo n) (rngD lo n) G0 := fun i G H s1 s2 => by
  refine ⟨fun d e => ?_, fun hl => (show n ≤ i by simpa [rngD] using hl)⟩
  unfold rngD at e
  rw [List.getElem?_map] at e
  by_cases hi : i < n
  · rw [List.getElem?_range hi] at e
    cases e
    refine ⟨hi, fun x H' y => ?_⟩
    obtain ⟨rfl, rfl⟩ := y
    exact ⟨G, Ext.refl s2, .int _⟩
  · rw [List.getElem?_eq_none (by simpa using hi)] at e
    cases e
def enumD : Nat → List PyData → List PyData
  | _, [] => []
  | n, d :: ds => .tuple [.int (n : Int), d] :: enumD (n + 1) ds
theorem enumD_get : ∀ (ds : List PyData) (n i : Nat) {d : PyData}, (enumD n ds)[i]? = some d → ∃ x, ds[i]? = some x ∧ d = .tuple [.int ((n + i : Nat) : Int), x]
  | [], n, i, d, e => by simp [enumD] at e
  | x :: ds, n, 0, d, e => by simp [enumD] at e; exact ⟨x, rfl, by rw [← e]; rfl⟩
  | x :: ds, n, i + 1, d, e => by
    obtain ⟨y, h1, h2⟩ := enumD_get ds (n + 1) i (by simpa [enumD] using e)
    exact ⟨y, by simpa using h1, by rw [h2]; congr 4; omega⟩
theorem enumD_length : ∀ (ds : List PyData) (n : Nat), (enumD n ds).length = ds.length
  | [], _ => rfl
  | _ :: ds, n => by unfold enumD; rw [List.length_cons, List.length_cons, enumD_length]
theorem itd_enum {K : PySem.W.Frag} {a : Addr} {vs : List V} {ds : List PyData} {G0 : Hp} (h : G0 a = some (.lst vs)) (t : AtAll K G0 vs ds) : ItD K (Ite K a) (enumD 0 ds) G0 := fun i G H s1 s2 => by
  have hq : SqL K H a vs := SqL.of (s2 _ _ (s1 _ _ h))
  refine ⟨fun d e => ?_, fun hl => ⟨vs, hq, by rw [t.length]; rw [enumD_length] at hl; exact hl⟩⟩
  obtain ⟨x, e0, rfl⟩ := enumD_get ds 0 i e
  obtain ⟨v, e1, av⟩ := t.get' e0
  refine ⟨⟨vs, v, hq, e1⟩, fun y H' hy => ?_⟩
  obtain ⟨T, z, rfl, hT, rfl, hz⟩ := hy
  have e2 := hz vs hq
  rw [e1] at e2
  cases e2
  have x1 : Ext (fun _ => False) G H (upd G T (.tup [.int (i : Int), v])) (upd H T (.tup [.int (i : Int), v])) := Ext.new s2 hT
  refine ⟨_, x1, .tup (SqT.of upd_same) ?_⟩
  rw [Nat.zero_add]
  exact .cons (.int _) (.cons ((av.same s1).same x1.gs) .nil)
section
variable {Z : DC → Prop} {X : Cx} {E : XK} {tg e e2 : Expr} {pos p : Pos} {w : DW} {wA : DAW}
@[simp] def wItL (w : DW) : DAW := fun ρ Q Y => w ρ (fun d => ∃ ds, d = .list ds ∧ Q ds) Y
@[simp] def wItT (w : DW) : DAW := fun ρ Q Y => w ρ (fun d => ∃ ds, d = .tuple ds ∧ Q ds) Y
theorem pdi_list (h : PD Z X E e w) : PDI Z X E tg e (wItL w) := by
  refine ⟨PIimp (pi_list h.pe) fun σ H R ⟨C, H0, G0, G, ρ, S, q⟩ => ?_, fun ρ Q Q' Y Y' k ky q => h.mono _ _ _ _ _ (fun d ⟨ds, e, q⟩ => ⟨ds, e, k _ q⟩) ky q⟩
  refine ⟨C, H0, G0, G, ρ, S, h.mono _ _ _ _ _ (fun d q => ?_) idY q⟩
  obtain ⟨ds, rfl, q⟩ := q
  intro v H1 G1 x1 j1 a1
  cases a1 with
  | lst a1 t => exact ⟨_, rfl, ⟨_, SqL.of (x1.sub _ _ a1)⟩, q _ H1 G1 x1 j1 (itd_list a1 t)⟩
theorem pdi_tup (h : PD Z X E e w) : PDI Z X E tg e (wItT w) := by
  refine ⟨PIimp (pi_tup h.pe) fun σ H R ⟨C, H0, G0, G, ρ, S, q⟩ => ?_, fun ρ Q Q' Y Y' k ky q => h.mono _ _ _ _ _ (fun d ⟨ds, e, q⟩ => ⟨ds, e, k _ q⟩) ky q⟩
  refine ⟨C, H0, G0, G, ρ, S, h.mono _ _ _ _ _ (fun d q => ?_) idY q⟩
  obtain ⟨ds, rfl, q⟩ := q
  intro v H1 G1 x1 j1 a1
  cases a1 with
  | tup a1 t => exact ⟨_, rfl, ⟨_, SqT.same x1.sub a1⟩, q _ H1 G1 x1 j1 (itd_tup a1 t)⟩
@[simp] def wRng (w : DW) : DAW := fun ρ Q Y => w ρ (fun d => ∃ j, d = .int j ∧ -(2 ^ 62) ≤ j ∧ j < 2 ^ 62 ∧ Q (rngD 0 j.toNat)) Y
theorem pdi_range1 (hm : X.mg "range" = none) (h : PD Z X E e w) (hg : Gl X "range" := by rfl) (hs : starEach [e] X.env = [(false, eval e X.env)] := by rfl) : PDI Z X E tg (.Call (.Name "range" p) [e] [] pos) (wRng w) := by
  refine ⟨PIimp (pi_range1 hg hm (pa_cons h.pe pa_nil (by rw [hs]; rfl)) hs) fun σ H R ⟨C, H0, G0, G, ρ, S, q⟩ => ?_, fun ρ Q Q' Y Y' k ky q => h.mono _ _ _ _ _ (fun d ⟨j, e, h1, h2, q⟩ => ⟨j, e, h1, h2, k _ q⟩) ky q⟩
  refine ⟨C, H0, G0, G, ρ, S, h.mono _ _ _ _ _ (fun d q => ?_) idY q⟩
  obtain ⟨j, rfl, h1, h2, q⟩ := q
  intro v H1 G1 x1 j1 a1
  cases a1
  exact ⟨j, rfl, h1, h2, q _ H1 G1 x1 j1 itd_rng⟩
@[simp] def wRng2 (w w' : DW) : DAW := fun ρ Q Y => w ρ (fun d => w' ρ (fun e => ∃ i j, d = .int i ∧ e = .int j ∧ (-(2 ^ 62) ≤ i ∧ i < 2 ^ 62 ∧ -(2 ^ 62) ≤ j ∧ j < 2 ^ 62) ∧ Q (rngD i (j - i).toNat)) Y) Y
theorem pdi_range2 {w' : DW} (hm : X.mg "range" = none) (h : PD Z X E e w) (h' : PD Z X E e2 w') (hg : Gl X "range" := by rfl) (hs : starEach [e, e2] X.env = [(false, eval e X.env), (false, eval e2 X.env)] := by rfl) (hs2 : starEach [e2] X.env = [(false, eval e2 X.env)] := by rfl) :
    PDI Z X E tg (.Call (.Name "range" p) [e, e2] [] pos) (wRng2 w w') := by
  refine ⟨PIimp (pi_range2 hg hm (pa_cons h.pe (pa_cons h'.pe pa_nil (by rw [hs2]; rfl)) (by rw [hs, hs2])) hs hs2) fun σ H R ⟨C, H0, G0, G, ρ, S, q⟩ => ?_, fun ρ Q Q' Y Y' k ky q => h.mono _ _ _ _ _ (fun d q => h'.mono _ _ _ _ _ (fun e ⟨i, j, e1, e2, h1, q⟩ => ⟨i, j, e1, e2, h1, k _ q⟩) ky q) ky q⟩
  refine ⟨C, H0, G0, G, ρ, S, h.mono _ _ _ _ _ (fun d q => ?_) idY q⟩
  intro v H1 G1 x1 j1 a1
  refine ⟨C, H0, G0, G1, ρ, S.step x1 j1, h'.mono _ _ _ _ _ (fun e q => ?_) (RX.step x1) q⟩
  obtain ⟨i, j, rfl, rfl, h1, q⟩ := q
  intro u H2 G2 x2 j2 a2
  cases a1
  cases a2
  exact ⟨i, j, rfl, h1, q _ H2 G2 (x1.trans x2) j2 itd_rng⟩
@[simp] def wEnum (w : DW) : DAW := fun ρ Q Y => w ρ (fun d => ∃ ds, d = .list ds ∧ Q (enumD 0 ds)) Y
theorem pdi_enum {elts : List Expr} {kk : Nat} {tpos : Pos} (hm : X.mg "enumerate" = none) (h : PD Z X E e w) (hg : Gl X "enumerate" := by rfl) (hs : starEach [e] X.env = [(false, eval e X.env)] := by rfl) : PDI Z X E (.Tuple elts kk tpos) (.Call (.Name "enumerate" p) [e] [] pos) (wEnum w) := by
  refine ⟨PIimp (pi_enum hg hm (pa_cons h.pe pa_nil (by rw [hs]; rfl)) hs) fun σ H R ⟨C, H0, G0, G, ρ, S, q⟩ => ?_, fun ρ Q Q' Y Y' k ky q => h.mono _ _ _ _ _ (fun d ⟨ds, e, q⟩ => ⟨ds, e, k _ q⟩) ky q⟩
  refine ⟨C, H0, G0, G, ρ, S, h.mono _ _ _ _ _ (fun d q => ?_) idY q⟩
  obtain ⟨ds, rfl, q⟩ := q
  intro v H1 G1 x1 j1 a1
  cases a1 with
  | lst a1 t => exact ⟨_, _, rfl, SqL.of (x1.sub _ _ a1), q _ H1 G1 x1 j1 (itd_enum a1 t)⟩
end

/-! ### list comprehensions -/
structure PDTs (Z : DC → Prop) (X : Cx) (E : XK) (ifs : List Expr) (w : DT) : Prop where
  pts : PTs X ifs (tWT Z X E w)
  mono : MoT w
@[simp] def wYes : DT := fun _ Q _ => Q true
theorem PTsimp {X : Cx} {e : List Expr} {t t' : TT} (h : PTs X e t) (i : ∀ σ H Q, t' σ H Q → t σ H Q) : PTs X e t' := ⟨fun pins s σ H Q I hw => h.run pins s σ H Q I (i σ H Q hw)⟩
theorem pdts_nil {X : Cx} {E : XK} : PDTs Z X E [] wYes := ⟨PTsimp pts_nil fun σ H Q ⟨C, H0, G0, G, ρ, S, q⟩ => RB.now q S.sub S.j, fun _ _ _ _ _ k _ h => k _ h⟩
theorem pdts_one {X : Cx} {E : XK} {c : Expr} {w : DT} (h : PDT Z X E c w) : PDTs Z X E [c] w := ⟨pts_one h.pt, h.mono⟩
@[simp] def compW (tg : Tg) (wt : DT) (we : DW) (ρ : DE) : List PyData → List PyData → (List PyData → Prop) → Prop
  | [], acc, Q => Q acc
  | d :: ds, acc, Q => setT tg d ρ (fun ρ1 => wt ρ1 (fun b => if b = true then we ρ1 (fun y => acc.length < sizeLine ∧ compW tg wt we ρ ds (acc ++ [y]) Q) (fun _ => False) else compW tg wt we ρ ds acc Q) (fun _ => False))
theorem compW_mono {tg : Tg} {wt : DT} {we : DW} {ρ : DE} (mt : MoT wt) (me : Mo we) {Q Q' : List PyData → Prop} (k : ∀ ds, Q ds → Q' ds) : ∀ (ds acc : List PyData), compW tg wt we ρ ds acc Q → compW tg wt we ρ ds acc Q'
  | [], acc, h => k _ h
  | d :: ds, acc, h => setT_mono (fun ρ1 h => mt _ _ _ _ _ (fun b => if_mono (fun h => me _ _ _ _ _ (fun y q => ⟨q.1, compW_mono mt me k ds _ q.2⟩) idY h) (compW_mono mt me k ds acc)) idY h) h
@[simp] def wLc (tg : Tg) (wt : DT) (we : DW) (vs : List Nat) (wi : DAW) : DAW := fun ρ Q Y => wi ρ (fun ds => compW tg wt we (wipeD ρ vs) ds [] Q) Y
theorem noneX {K : PySem.W.Frag} {mg : Str → Option Value} {C : DC} {G H : Hp} {E : XK} : ∀ x : ExD, (fun _ => False) x → RX K mg C G H E x := fun _ h => False.elim h
section
variable {Z : DC → Prop} {X : Cx} {E : XK}
theorem lc_read {wi : DAW} {tg : Tg} {wt : DT} {we : DW} {vs : List Nat} (hi : MoA wi) (mt : MoT wt) (me : Mo we) (hv : ∀ i ∈ tg.slots, i ∈ vs) :
    ∀ σ H Q, tWF Z X E (wLc tg wt we vs wi) σ H Q → tLc (tWI Z X E wi) (tG Z X.K tg) (tWT Z X E0 wt) (tW Z X E0 we) vs σ H Q := by
  rintro σ H Q ⟨C, H0, G0, G, ρ, S, h⟩
  refine ⟨C, H0, G0, G, ρ, S, hi _ _ _ _ _ (fun ds h => ?_) idY h⟩
  intro J H1 G1 x1 j1 hJ D hD
  have S1 := S.step x1 j1
  have nF : ∀ b, C.F b → b ≠ D := fun b f z => S1.fH b f (z ▸ hD)
  have hDH : H D = none := by
    cases z : H D with
    | none => rfl
    | some o =>
      obtain ⟨o', e'⟩ := x1.there D o z
      rw [hD] at e'; cases e'
  have gD : G1 D = none := by
    cases z : G1 D with
    | none => rfl
    | some o => rw [x1.sub D o z] at hD; cases hD
  refine ⟨fun i m H2 => m = ds.length - i ∧ i ≤ ds.length ∧ ∃ G2 acc accV, Ext C.M G1 H1 G2 H2 ∧ C.J H2 ∧ G2 D = none ∧ H2 D = some (.lst accV) ∧ AtAll X.K G2 accV acc ∧ compW tg wt we (wipeD ρ vs) (ds.drop i) acc (RF C X.K G H Q),
    ⟨ds.length, by simp, Nat.zero_le _, G1, [], [], Ext.newM x1.sub hD, C.jnew hD j1, gD, upd_same, .nil, h⟩, ?_⟩
  rintro i m H2 ⟨rfl, hi2, G2, acc, accV, x2, j2, g2, hD2, t2, q⟩
  by_cases hlt : i < ds.length
  · right
    have ed : ds.drop i = ds[i] :: ds.drop (i + 1) := List.drop_eq_getElem_cons hlt
    rw [ed] at q
    obtain ⟨go, yl⟩ := (hJ i G2 H2 x2.gs x2.sub).1 ds[i] (by simp [hlt])
    refine ⟨go, fun H' => i + 1 ≤ ds.length ∧ ∃ G2 acc accV, Ext C.M G1 H1 G2 H' ∧ C.J H' ∧ G2 D = none ∧ H' D = some (.lst accV) ∧ AtAll X.K G2 accV acc ∧ compW tg wt we (wipeD ρ vs) (ds.drop (i + 1)) acc (RF C X.K G H Q), fun H' hn => ⟨ds.length - (i + 1), by omega, rfl, hn⟩, fun x H3 hy => ?_⟩
    obtain ⟨G3, x3, a3⟩ := yl x H3 hy
    have x3' : Ext C.M G2 H2 G3 H3 := x3.weak fun _ z => z.elim
    have j3 : C.J H3 := C.js H2 H3 (fun b o _ e => x3.same b o (fun z => z) e) j2
    have S3 := ((S1.step x2 j2).step x3' j3).wipe vs
    refine ⟨C, H0, G0, G3, wipeD ρ vs, _, S3, a3, setT_mono (fun ρ1 q => ?_) q⟩
    intro σ' S' hw
    refine ⟨by rw [hw vs hv, wipe_wipe], ?_⟩
    refine ⟨C, H0, G0, G3, ρ1, S', mt _ _ _ _ _ (fun b q => ?_) noneX q⟩
    intro H4 G4 x4 j4
    have keep : ∀ {G5 H5 : Hp}, Ext C.M G2 H2 G5 H5 → H5 D = some (.lst accV) ∧ G5 D = none ∧ Ext C.M G1 H1 G5 H5 := fun x5 => ⟨x5.same D _ (fun z => nF D (C.mf D z) rfl) hD2, x5.sep D _ hD2 g2, x2.trans x5⟩
    cases b with
    | false =>
      simp only [Bool.false_eq_true, if_false] at q ⊢
      obtain ⟨k1, k2, k3⟩ := keep (x3'.trans x4)
      exact ⟨hlt, G4, acc, accV, k3, j4, k2, k1, t2.same (x3'.trans x4).gs, q⟩
    | true =>
      simp only [if_true] at q ⊢
      refine ⟨C, H0, G0, G4, ρ1, S'.step x4 j4, me _ _ _ _ _ (fun y q => ?_) noneX q⟩
      intro v H5 G5 x5 j5 a5
      obtain ⟨k1, k2, k3⟩ := keep ((x3'.trans x4).trans x5)
      refine ⟨accV, k1, by rw [t2.length]; exact q.1, hlt, G5, acc ++ [y], accV ++ [v], k3.chg hD k2, ?_, k2, upd_same, (t2.same ((x3'.trans x4).trans x5).gs).append (.one a5), q.2⟩
      exact C.js H5 _ (fun b o f e => by
        have nb : b ≠ D := fun z => by
          rcases f with f | ⟨φ, rfl⟩
          · exact nF b f z
          · rw [z, k1] at e; cases e
        rw [upd_ne nb]; exact e) j5
  · left
    have e : i = ds.length := by omega
    subst e
    rw [List.drop_length] at q
    refine ⟨(hJ _ G2 H2 x2.gs x2.sub).2 (Nat.le_refl _), ?_⟩
    exact q D accV H2 G2 (x1.trans x2) j2 hDH g2 hD2 t2
variable {elt tg iter : Expr} {ifs : List Expr} {scope : Scope} {own : List (Str × Nat)} {pos spos py : Pos} {wi : DAW} {t : Tg} {wt : DT} {we : DW}
theorem tW_blk {s : Shared} {H : Hp} {ce : Env} {fp : List Addr} {w : DW} : tW Z (X.blk s H scope ce fp) E0 w = tW Z X E0 w := rfl
theorem tWT_blk {s : Shared} {H : Hp} {ce : Env} {fp : List Addr} {w : DT} : tWT Z (X.blk s H scope ce fp) E0 w = tWT Z X E0 w := rfl
theorem pf_lc (hc : X.calm = true) (hN : X.N.Nodup) (hi : PDI Z X E tg iter wi) (ok : BlkOk X.N X.env.scope scope own)
    (hg : ∀ (s : Shared) (H : Hp) (C : Addr) (cl : List (Str × Addr)) (fp : List Addr), PG (X.blk s H scope (compEnvC scope cl C X.env) fp) tg (tG Z X.K t)) (ht : ∀ (s : Shared) (H : Hp) (C : Addr) (cl : List (Str × Addr)) (fp : List Addr), PDTs Z (X.blk s H scope (compEnvC scope cl C X.env) fp) E0 ifs wt)
    (he : ∀ (s : Shared) (H : Hp) (C : Addr) (cl : List (Str × Addr)) (fp : List Addr), PD Z (X.blk s H scope (compEnvC scope cl C X.env) fp) E0 elt we) (hv : ∀ i ∈ t.slots, i ∈ own.map (·.2) := by decide) (hs : ∀ x, foldedSetIterable iter X.env x = pure x := by intro _; rfl) :
    PF Z X E (.ListComp elt [⟨tg, iter, ifs, 0⟩] scope pos) (wLc t wt we (own.map (·.2)) wi) := by
  have m1 := (he X.s_0 (fun _ => none) 0 [] []).mono
  have m2 := (ht X.s_0 (fun _ => none) 0 [] []).mono
  refine ⟨PEimp (pe_lc hc hN hi.pi ok hg (fun s H C cl fp => (ht s H C cl fp).pts) (fun s H C cl fp => (he s H C cl fp).pe) hs) (lc_read hi.mono m2 m1 hv), fun ρ Q Q' Y Y' k ky q => ?_⟩
  exact hi.mono _ _ _ _ _ (fun ds q => compW_mono m2 m1 k ds _ q) ky q
end
end DL

namespace DL
open PySem PySem.Spec L2
open PyProof.Rows (envOfC)

/-! ### statements -/
abbrev DWS := DE → (DE → Prop) → (PyData → Prop) → EC → Prop
def RN (Z : DC → Prop) (C : DC) (K : PySem.W.Frag) (H0 G0 G : Hp) (nx : St → Hp → Prop) : DE → Prop := fun ρ' => ∀ σ' H' G', DS Z C K H0 G0 G' H' σ' ρ' → Same G G' → nx σ' H'
def tWS (Z : DC → Prop) (X : Cx) (E : XK) (W : DWS) : TS := fun D σ H => ∃ C H0 G0 G ρ, DS Z C X.K H0 G0 G H σ ρ ∧ W ρ (RN Z C X.K H0 G0 G D.nx) (RQ C X.K G0 H0 D.rt) (RX X.K X.mg C G0 H0 E)
abbrev MoS (W : DWS) : Prop := ∀ ρ N N' R R' Y Y', (∀ ρ, N ρ → N' ρ) → (∀ d, R d → R' d) → (∀ x, Y x → Y' x) → W ρ N R Y → W ρ N' R' Y'
structure PD1 (Z : DC → Prop) (X : Cx) (E : XK) (st : Stmt) (W : DWS) : Prop where
  ps : PS X st (tWS Z X E W)
  mono : MoS W
structure PDs (Z : DC → Prop) (X : Cx) (E : XK) (sts : List Stmt) (W : DWS) : Prop where
  ps : PSs X sts (tWS Z X E W)
  mono : MoS W
theorem RN.step {Z : DC → Prop} {C : DC} {K : PySem.W.Frag} {H0 G0 G G' : Hp} {nx : St → Hp → Prop} (g : Same G G') : ∀ ρ, RN Z C K H0 G0 G nx ρ → RN Z C K H0 G0 G' nx ρ := fun ρ q σ' H' G2 S2 g2 => q σ' H' G2 S2 (fun b o e => g2 b o (g b o e))
theorem RN.now {Z : DC → Prop} {C : DC} {K : PySem.W.Frag} {H0 G0 G G' H' : Hp} {σ' : St} {ρ : DE} {nx : St → Hp → Prop} (q : RN Z C K H0 G0 G nx ρ) (S : DS Z C K H0 G0 G' H' σ' ρ) (g : Same G G') : nx σ' H' := q σ' H' G' S g
section
variable {Z : DC → Prop} {X : Cx} {E : XK} {st : Stmt} {sts : List Stmt} {W W1 W2 : DWS} {e c : Expr} {w : DW} {wt : DT} {pos pos' : Pos}
@[simp] def wNx : DWS := fun ρ N _ _ => N ρ
@[simp] def wSeq (W1 W2 : DWS) : DWS := fun ρ N R Y => W1 ρ (fun ρ1 => W2 ρ1 N R Y) R Y
theorem pds_nil : PDs Z X E [] wNx := ⟨PSsimp pss_nil fun D σ H ⟨C, H0, G0, G, ρ, S, q⟩ => RN.now q S fun _ _ h => h, fun _ _ _ _ _ _ _ k _ _ h => k _ h⟩
theorem pds_cons (h1 : PD1 Z X E st W1) (h2 : PDs Z X E sts W2) : PDs Z X E (st :: sts) (wSeq W1 W2) := by
  refine ⟨PSsimp (pss_cons h1.ps h2.ps) fun D σ H ⟨C, H0, G0, G, ρ, S, q⟩ => ?_, fun ρ N N' R R' Y Y' k kr ky h => h1.mono _ _ _ _ _ _ _ (fun ρ1 h => h2.mono _ _ _ _ _ _ _ k kr ky h) kr ky h⟩
  refine ⟨C, H0, G0, G, ρ, S, h1.mono _ _ _ _ _ _ _ (fun ρ1 q => ?_) (fun _ h => h) idY q⟩
  intro σ1 H1 G1 S1 g1
  exact ⟨C, H0, G0, G1, ρ1, S1, h2.mono _ _ _ _ _ _ _ (RN.step g1) (fun _ h => h) idY q⟩
theorem pds_one (h1 : PD1 Z X E st W1) : PDs Z X E [st] W1 := ⟨pss_one h1.ps, h1.mono⟩
@[simp] def wRet (w : DW) : DWS := fun ρ _ R Y => w ρ R Y
theorem pd1_ret (h : PD Z X E e w) : PD1 Z X E (.Return (some e) pos) (wRet w) := by
  refine ⟨PSimp (ps_ret h.pe) fun D σ H ⟨C, H0, G0, G, ρ, S, q⟩ => ?_, fun ρ N N' R R' Y Y' k kr ky q => h.mono _ _ _ _ _ kr ky q⟩
  exact ⟨C, H0, G0, G, ρ, S, h.mono _ _ _ _ _ (fun d q => RQ.step q S.ext) (RX.step S.ext) q⟩
@[simp] def wRetN : DWS := fun _ _ R _ => R .none
theorem pd1_retN : PD1 Z X E (.Return none pos) wRetN := ⟨PSimp ps_retN fun D σ H ⟨C, H0, G0, G, ρ, S, q⟩ => (RQ.step q S.ext).now S.sub S.j .non, fun _ _ _ _ _ _ _ _ kr _ h => kr _ h⟩
@[simp] def wSet (i : Nat) (w : DW) : DWS := fun ρ N _ Y => w ρ (fun d => N (ρ.set i (.d d))) Y
theorem asg_read {i : Nat} (h : Mo w) : ∀ D σ H, tWS Z X E (wSet i w) D σ H → tAsg (tW Z X E w) (gName i) D σ H := by
  rintro D σ H ⟨C, H0, G0, G, ρ, S, q⟩
  refine ⟨C, H0, G0, G, ρ, S, h _ _ _ _ _ (fun d q => ?_) (RX.step S.ext) q⟩
  intro v H1 G1 x1 j1 a1
  exact RN.now q ((S.step x1 j1).set a1) x1.gs
theorem wSet_mono {i : Nat} (h : Mo w) : MoS (wSet i w) := fun ρ N N' R R' Y Y' k kr ky q => h _ _ _ _ _ (fun d q => k _ q) ky q
theorem pd1_set (i : Nat) {x : Str} (h : PD Z X E e w) (hN : X.N.Nodup) (hi : X.N[i]? = some x := by rfl) (hx : Loc X.env.scope x := by first | exact Or.inl rfl | exact Or.inr rfl) (hs : swapsWith e (some (.Name x pos')) pos.line X.env = pure false := by rfl) (hf : X.fn x = true ∨ X.env.scope.names.lookup x = some .local := by first | exact .inl rfl | exact .inr rfl) :
    PD1 Z X E (.Assign [.Name x pos'] e pos) (wSet i w) := ⟨PSimp (ps_set hN hi hx h.pe hs hf) (asg_read h.mono), wSet_mono h.mono⟩
@[simp] def wSetT (t : Tg) (w : DW) : DWS := fun ρ N _ Y => w ρ (fun d => setT t d ρ N) Y
theorem pd1_setT {t : Tg} {tg : Expr} (h : PD Z X E e w) (hg : PG X tg (tG Z X.K t)) (hs : swapsWithSole [tg] e pos.line X.env = pure false := by rfl) (hw : swappedStores [tg] e X.env = pure none := by rfl) (h1 : (assignEach [tg] X.env).map (·.2) = [assign tg X.env] := by rfl) :
    PD1 Z X E (.Assign [tg] e pos) (wSetT t w) := by
  refine ⟨PSimp (ps_asg h.pe hg hs hw h1) fun D σ H ⟨C, H0, G0, G, ρ, S, q⟩ => ?_, fun ρ N N' R R' Y Y' k kr ky q => h.mono _ _ _ _ _ (fun d q => setT_mono k q) ky q⟩
  refine ⟨C, H0, G0, G, ρ, S, h.mono _ _ _ _ _ (fun d q => ?_) (RX.step S.ext) q⟩
  intro v H1 G1 x1 j1 a1
  exact ⟨C, H0, G0, G1, ρ, d, S.step x1 j1, a1, setT_mono (fun ρ' q σ' S' _ => RN.now q S' x1.gs) q⟩
/-- a, b = e1, e2, two local names -/
@[simp] def wPar (i j : Nat) (wA : DAW) : DWS := fun ρ N _ Y => wA ρ (fun ds => ∃ d e, ds = [d, e] ∧ N ((ρ.set i (.d d)).set j (.d e))) Y
theorem pd1_par {i j : Nat} {x y : Str} {a b : Expr} {wA : DAW} {px py pt : Pos} {kt k2 : Nat} {pt2 : Pos} (hc : X.calm = true) (h : PDA Z X E [a, b] wA) (hN : X.N.Nodup) (hi : X.N[i]? = some x := by rfl) (hj : X.N[j]? = some y := by rfl) (hij : i ≠ j := by decide)
    (ps : ∀ ta, PA X [a, b] ta → PS X st (tPar i j ta)) : PD1 Z X E st (wPar i j wA) := by
  refine ⟨PSimp (ps _ h.pa) fun D σ H ⟨C, H0, G0, G, ρ, S, q⟩ => ?_, fun ρ N N' R R' Y Y' k kr ky q => h.mono _ _ _ _ _ (fun ds ⟨d, e, e1, q⟩ => ⟨d, e, e1, k _ q⟩) ky q⟩
  refine ⟨C, H0, G0, G, ρ, S, h.mono _ _ _ _ _ (fun ds q => ?_) (RX.step S.ext) q⟩
  obtain ⟨d, e, rfl, q⟩ := q
  intro vs H1 G1 x1 j1 a1
  obtain ⟨v, u, rfl, av, au⟩ := two_at a1
  exact ⟨v, u, rfl, RN.now q (((S.step x1 j1).set av).set au) x1.gs⟩
@[simp] def wIfS (t : DT) (W1 W2 : DWS) : DWS := fun ρ N R Y => t ρ (fun b => if b = true then W1 ρ N R Y else W2 ρ N R Y) Y
theorem pd1_if {a b : List Stmt} (hc : PDT Z X E c wt) (ha : PDs Z X E a W1) (hb : PDs Z X E b W2) : PD1 Z X E (.If c a b pos) (wIfS wt W1 W2) := by
  refine ⟨PSimp (ps_if hc.pt ha.ps hb.ps) fun D σ H ⟨C, H0, G0, G, ρ, S, q⟩ => ?_, fun ρ N N' R R' Y Y' k kr ky q => hc.mono _ _ _ _ _ (fun b => if_mono (ha.mono _ _ _ _ _ _ _ k kr ky) (hb.mono _ _ _ _ _ _ _ k kr ky)) ky q⟩
  refine ⟨C, H0, G0, G, ρ, S, hc.mono _ _ _ _ _ (fun b q => ?_) (RX.step S.ext) q⟩
  intro H1 G1 x1 j1
  cases b with
  | true => exact ⟨C, H0, G0, G1, ρ, S.step x1 j1, ha.mono _ _ _ _ _ _ _ (RN.step x1.gs) (fun _ h => h) idY q⟩
  | false => exact ⟨C, H0, G0, G1, ρ, S.step x1 j1, hb.mono _ _ _ _ _ _ _ (RN.step x1.gs) (fun _ h => h) idY q⟩
@[simp] def wDrop (w : DW) : DWS := fun ρ N _ Y => w ρ (fun _ => N ρ) Y
theorem pd1_expr (h : PD Z X E e w) (hs : swapsWith e none pos.line X.env = pure false := by rfl) : PD1 Z X E (.Expr e pos) (wDrop w) := by
  refine ⟨PSimp (ps_expr h.pe hs) fun D σ H ⟨C, H0, G0, G, ρ, S, q⟩ => ?_, fun ρ N N' R R' Y Y' k kr ky q => h.mono _ _ _ _ _ (fun d q => k _ q) ky q⟩
  refine ⟨C, H0, G0, G, ρ, S, h.mono _ _ _ _ _ (fun d q => ?_) (RX.step S.ext) q⟩
  intro v H1 G1 x1 j1 a1
  exact RN.now q (S.step x1 j1) x1.gs
@[simp] def wNever : DWS := fun _ _ _ _ => False
theorem pd1_never : PD1 Z X E st wNever := ⟨PSimp ps_never fun D σ H ⟨C, H0, G0, G, ρ, S, q⟩ => q, fun _ _ _ _ _ _ _ _ _ _ h => h⟩
theorem pds_never : PDs Z X E sts wNever := ⟨PSsimp pss_never fun D σ H ⟨C, H0, G0, G, ρ, S, q⟩ => q, fun _ _ _ _ _ _ _ _ _ _ h => h⟩
/-- an own list becomes data ahead of a block -/
@[simp] def wFrz (i : Nat) (W : DWS) : DWS := fun ρ N R Y => ∃ ds, ρ[i]? = some (.ml ds) ∧ W (ρ.set i (.d (.list ds))) N R Y
theorem frz_read {i : Nat} (h : MoS W) : ∀ D σ H, tWS Z X E (wFrz i W) D σ H → tWS Z X E W D σ H := by
  rintro D σ H ⟨C, H0, G0, G, ρ, S, ds, e, q⟩
  obtain ⟨G', g, S'⟩ := S.frzMl e
  exact ⟨C, H0, G0, G', _, S', h _ _ _ _ _ _ _ (RN.step g) (fun _ h => h) idY q⟩
theorem pds_frz (i : Nat) (h : PDs Z X E sts W) : PDs Z X E sts (wFrz i W) := ⟨PSsimp h.ps (frz_read h.mono), fun ρ N N' R R' Y Y' k kr ky ⟨ds, e, q⟩ => ⟨ds, e, h.mono _ _ _ _ _ _ _ k kr ky q⟩⟩
theorem pd1_frz (i : Nat) (h : PD1 Z X E st W) : PD1 Z X E st (wFrz i W) := ⟨PSimp h.ps (frz_read h.mono), fun ρ N N' R R' Y Y' k kr ky ⟨ds, e, q⟩ => ⟨ds, e, h.mono _ _ _ _ _ _ _ k kr ky q⟩⟩

/-! ### a name for a new list -/
structure PSF (Z : DC → Prop) (X : Cx) (E : XK) (st : Stmt) (i : Nat) (w : DAW) : Prop where
  ps : PS X st (tAsg (tWF Z X E w) (gName i))
  mono : MoA w
variable {wF : DAW}
theorem psf_set (i : Nat) {x : Str} (h : PF Z X E e wF) (hN : X.N.Nodup) (hi : X.N[i]? = some x := by rfl) (hx : Loc X.env.scope x := by first | exact Or.inl rfl | exact Or.inr rfl) (hs : swapsWith e (some (.Name x pos')) pos.line X.env = pure false := by rfl) (hf : X.fn x = true ∨ X.env.scope.names.lookup x = some .local := by first | exact .inl rfl | exact .inr rfl) :
    PSF Z X E (.Assign [.Name x pos'] e pos) i wF := ⟨ps_set hN hi hx h.pe hs hf, h.mono⟩
theorem psf_lc {i : Nat} {y : Str} {elt tg iter : Expr} {ifs : List Expr} {scope : Scope} {own : List (Str × Nat)} {spos py : Pos} {wi : DAW} {t : Tg} (hc : X.calm = true) (hN : X.N.Nodup) (hi : PDI Z X E tg iter wi) (ok : BlkOk X.N X.env.scope scope own)
    (hg : ∀ (s : Shared) (H : Hp) (C : Addr) (cl : List (Str × Addr)) (fp : List Addr), PG (X.blk s H scope (compEnvC scope cl C X.env) fp) tg (tG Z X.K t)) (ht : ∀ (s : Shared) (H : Hp) (C : Addr) (cl : List (Str × Addr)) (fp : List Addr), PDTs Z (X.blk s H scope (compEnvC scope cl C X.env) fp) E0 ifs wt)
    (he : ∀ (s : Shared) (H : Hp) (C : Addr) (cl : List (Str × Addr)) (fp : List Addr), PD Z (X.blk s H scope (compEnvC scope cl C X.env) fp) E0 elt w)
    (hy : X.N[i]? = some y := by rfl) (hyl : X.env.scope.names.lookup y = some .local := by rfl) (hk : X.env.scope.kind = .function := by rfl) (hl : (py.line == pos.line) = true := by rfl) (hsh : (scope.names.any fun (n, k) => n == y && (k == .local || k == .cell)) = false := by decide +kernel)
    (hv : ∀ i ∈ t.slots, i ∈ own.map (·.2) := by decide) (hs : ∀ x, foldedSetIterable iter X.env x = pure x := by intro _; rfl) :
    PSF Z X E (.Assign [.Name y py] (.ListComp elt [⟨tg, iter, ifs, 0⟩] scope pos) spos) i (wLc t wt w (own.map (·.2)) wi) := by
  have m1 := (he X.s_0 (fun _ => none) 0 [] []).mono
  have m2 := (ht X.s_0 (fun _ => none) 0 [] []).mono
  refine ⟨PSimp (ps_setLc hc hN hy hyl (sw_true hk hyl hl hsh) hi.pi ok hg (fun s H C cl fp => (ht s H C cl fp).pts) (fun s H C cl fp => (he s H C cl fp).pe) hs) (fun D σ H q => lc_read hi.mono m2 m1 hv σ H _ q), fun ρ Q Q' Y Y' k ky q => ?_⟩
  exact hi.mono _ _ _ _ _ (fun ds q => compW_mono m2 m1 k ds _ q) ky q
@[simp] def wNewM (i : Nat) (w : DAW) : DWS := fun ρ N _ Y => w ρ (fun ds => N (ρ.set i (.ml ds))) Y
@[simp] def wNewD (i : Nat) (w : DAW) : DWS := fun ρ N _ Y => w ρ (fun ds => N (ρ.set i (.d (.list ds)))) Y
theorem pd1_newD {i : Nat} (h : PSF Z X E st i wF) : PD1 Z X E st (wNewD i wF) := by
  refine ⟨PSimp h.ps fun D σ H ⟨C, H0, G0, G, ρ, S, q⟩ => ?_, fun ρ N N' R R' Y Y' k kr ky q => h.mono _ _ _ _ _ (fun d q => k _ q) ky q⟩
  refine ⟨C, H0, G0, G, ρ, S, h.mono _ _ _ _ _ (fun ds q => ?_) (RX.step S.ext) q⟩
  refine RF.of fun v H1 G1 x1 j1 a1 => ?_
  exact RN.now q ((S.step x1 j1).set a1) x1.gs
theorem pd1_newM {i : Nat} (h : PSF Z X E st i wF) : PD1 Z X E st (wNewM i wF) := by
  refine ⟨PSimp h.ps fun D σ H ⟨C, H0, G0, G, ρ, S, q⟩ => ?_, fun ρ N N' R R' Y Y' k kr ky q => h.mono _ _ _ _ _ (fun d q => k _ q) ky q⟩
  refine ⟨C, H0, G0, G, ρ, S, h.mono _ _ _ _ _ (fun ds q => ?_) (RX.step S.ext) q⟩
  intro a vs H1 G1 x1 j1 hn gn ha t
  have h0 : H0 a = none := by
    cases z : H0 a with
    | none => rfl
    | some o =>
      obtain ⟨o', e'⟩ := S.ext.there a o z
      rw [hn] at e'; cases e'
  refine RN.now q ((S.step x1 j1).setMl ha gn h0 t fun j xs _ e1 e2 => ?_) x1.gs
  obtain ⟨b, us, q1, q2, _⟩ := S.ml e1
  rw [e2] at q1
  cases q1
  rw [hn] at q2; cases q2

/-! ### an own list changes -/
variable {Z : DC → Prop} {X : Cx} {E : XK}
@[simp] def wApp (i : Nat) (w : DW) : DWS := fun ρ N _ Y => w ρ (fun d => ∃ xs, ρ[i]? = some (.ml xs) ∧ xs.length < sizeLine ∧ N (ρ.set i (.ml (xs ++ [d])))) Y
theorem pd1_app (i : Nat) {x : Str} {p0 apos cpos : Pos} (h : PD Z X E e w) (hv : PE X (.Name x p0) (tVar i)) (hs1 : starEach (e :: []) X.env = (false, eval e X.env) :: starEach [] X.env := by rfl)
    (hbase : attributeBase (.Name x p0) "append" X.env (eval (.Name x p0) X.env) = eval (.Name x p0) X.env := by rfl)
    (hfew : ((backTo cpos (starEach (e :: []) X.env)).all (fun x => !x.1) && (backToKw cpos (keywordEach [] X.env)).all (fun x => x.1.isSome)
      && decide ((e :: ([] : List Expr)).length + ([] : List Keyword).length + (if ([] : List Keyword).isEmpty then 0 else 1) < 30)) = true := by rfl)
    (hline : (apos.endLine == cpos.line) = true := by rfl) (hplain : (backTo cpos (starEach [] X.env)).any (·.1) = false := by rfl) (hs : swapsWith (.Call (.Attribute (.Name x p0) "append" apos) [e] [] cpos) none pos.line X.env = pure false := by rfl)
    :
    PD1 Z X E (.Expr (.Call (.Attribute (.Name x p0) "append" apos) [e] [] cpos) pos) (fun ρ N R Y => ∃ xs, ρ[i]? = some (.ml xs) ∧ wApp i w ρ N R Y) := by
  refine ⟨PSimp (ps_expr (pe_bm PySem.F.plainAttrs_list PySem.F.slot_list_append PySem.F.type_list_append mt_append hv (pa_cons h.pe pa_nil hs1) hbase hfew hline hs1 hplain) hs) fun D σ H ⟨C, H0, G0, G, ρ, S, xs0, e0, q⟩ => ?_, fun ρ N N' R R' Y Y' k kr ky ⟨xs0, e0, q⟩ => ⟨xs0, e0, h.mono _ _ _ _ _ (fun d ⟨xs, e, hz, q⟩ => ⟨xs, e, hz, k _ q⟩) ky q⟩⟩
  obtain ⟨a, vs, p1, p2, p3, p4, p5⟩ := S.ml e0
  refine ⟨_, p1, .inl ⟨rfl, _, SqL.of p2⟩, C, H0, G0, G, ρ, S, h.mono _ _ _ _ _ (fun d q => ?_) (RX.step S.ext) q⟩
  obtain ⟨xs, e1, hz, q⟩ := q
  rw [e0] at e1
  cases e1
  intro v H1 G1 x1 j1 a1
  have S1 := S.step x1 j1
  obtain ⟨a', vs', r1, r2, r3, r4, r5⟩ := S1.ml e0
  rw [p1] at r1
  cases r1
  refine ⟨_, _, _, rfl, rfl, r2, by rw [r5.length]; exact hz, ?_⟩
  exact RN.now q (S1.chgMl e0 p1 (r5.append (.one a1))) x1.gs
/-! ### for -/
@[simp] def forW (tg : Tg) (Wb : DWS) : List PyData → DWS
  | [], ρ, N, _, _ => N ρ
  | d :: ds, ρ, N, R, Y => setT tg d ρ (fun ρ1 => Wb ρ1 (fun ρ2 => forW tg Wb ds ρ2 N R Y) R Y)
theorem forW_mono {tg : Tg} {Wb : DWS} (m : MoS Wb) : ∀ ds : List PyData, MoS (forW tg Wb ds)
  | [], _, _, _, _, _, _, _, k, _, _, h => k _ h
  | d :: ds, ρ, N, N', R, R', Y, Y', k, kr, ky, h => setT_mono (fun ρ1 h => m _ _ _ _ _ _ _ (fun ρ2 h => forW_mono m ds _ _ _ _ _ _ _ k kr ky h) kr ky h) h
@[simp] def wFor (tg : Tg) (Wb : DWS) (wi : DAW) : DWS := fun ρ N R Y => wi ρ (fun ds => forW tg Wb ds ρ N R Y) Y
theorem pd1_for {tg iter : Expr} {body : List Stmt} {t : Tg} {wi : DAW} {Wb : DWS} (hp : PassesOwn (model X.prog X.w) X.A X.env X.xe) (hc : X.calm = true) (hi : PDI Z X E tg iter wi) (hg : PG X tg (tG Z X.K t)) (hb : PDs Z X E body Wb)
    (hs : ∀ x, foldedSetIterable iter X.env x = pure x := by intro _; rfl) : PD1 Z X E (.For tg iter body [] pos) (wFor t Wb wi) := by
  refine ⟨PSimp (ps_for hp hc hi.pi hg hb.ps hs) fun D σ H ⟨C, H0, G0, G, ρ, S, q⟩ => ?_, fun ρ N N' R R' Y Y' k kr ky q => hi.mono _ _ _ _ _ (fun ds q => forW_mono hb.mono ds _ _ _ _ _ _ _ k kr ky q) ky q⟩
  refine ⟨C, H0, G0, G, ρ, S, hi.mono _ _ _ _ _ (fun ds q => ?_) (RX.step S.ext) q⟩
  intro J H1 G1 x1 j1 hJ
  have S1 := S.step x1 j1
  refine ⟨fun i m σ2 H2 => m = ds.length - i ∧ i ≤ ds.length ∧ ∃ G2 ρ2, Same G1 G2 ∧ DS Z C X.K H0 G0 G2 H2 σ2 ρ2 ∧ forW t Wb (ds.drop i) ρ2 (RN Z C X.K H0 G0 G D.nx) (RQ C X.K G0 H0 D.rt) (RX X.K X.mg C G0 H0 E), ⟨ds.length, by simp, Nat.zero_le _, G1, ρ, fun _ _ h => h, S1, by simpa using q⟩, ?_⟩
  rintro i m σ2 H2 ⟨rfl, hi2, G2, ρ2, g2, S2, q⟩
  by_cases hlt : i < ds.length
  · right
    have ed : ds.drop i = ds[i] :: ds.drop (i + 1) := List.drop_eq_getElem_cons hlt
    rw [ed] at q
    obtain ⟨go, yl⟩ := (hJ i G2 H2 g2 S2.sub).1 ds[i] (by simp [hlt])
    refine ⟨go, fun σ' H' => i + 1 ≤ ds.length ∧ ∃ G2 ρ2, Same G1 G2 ∧ DS Z C X.K H0 G0 G2 H' σ' ρ2 ∧ forW t Wb (ds.drop (i + 1)) ρ2 (RN Z C X.K H0 G0 G D.nx) (RQ C X.K G0 H0 D.rt) (RX X.K X.mg C G0 H0 E), fun σ' H' hn => ⟨ds.length - (i + 1), by omega, rfl, hn⟩, fun x H3 hy => ?_⟩
    obtain ⟨G3, x3, a3⟩ := yl x H3 hy
    have x3' : Ext C.M G2 H2 G3 H3 := x3.weak fun _ z => z.elim
    have j3 : C.J H3 := C.js H2 H3 (fun b o _ e => x3.same b o (fun z => z) e) S2.j
    refine ⟨C, H0, G0, G3, ρ2, _, S2.step x3' j3, a3, setT_mono (fun ρ1 q => ?_) q⟩
    intro σ' S' _
    refine ⟨C, H0, G0, G3, ρ1, S', hb.mono _ _ _ _ _ _ _ (fun ρ3 q => ?_) (fun _ h => h) idY q⟩
    intro σ4 H4 G4 S4 g4
    exact ⟨hlt, G4, ρ3, fun b o e => g4 b o (x3.gs b o (g2 b o e)), S4, q⟩
  · left
    have e : i = ds.length := by omega
    subst e
    rw [List.drop_length] at q
    exact ⟨(hJ _ G2 H2 g2 S2.sub).2 (Nat.le_refl _), RN.now q S2 fun b o e => g2 b o (x1.gs b o e)⟩
end

/-! ### defs -/
abbrev FNC := List PyData → (PyData → Prop) → EC → Prop
abbrev MoF (c : FNC) : Prop := ∀ ds Q Q' Y Y', (∀ d, Q d → Q' d) → (∀ x, Y x → Y' x) → c ds Q Y → c ds Q' Y'
def spP (K : PySem.W.Frag) (mg : Str → Option Value) (c : FNC) : Sp := fun vs H Q E => ∃ G ds, Same G H ∧ AtAll K G vs ds ∧ c ds (RQ pureC K G H Q) (RX K mg pureC G H E)
def spT (K : PySem.W.Frag) (mg : Str → Option Value) (c : FNC) : Sp := fun vs H Q E => ∃ t s ns G vs' ds, vs = .ref t :: vs' ∧ Same G H ∧ G t = none ∧ (tapeC t s ns).J H ∧ AtAll K G vs' ds ∧ c ds (RQ (tapeC t s ns) K G H Q) (RX K mg (tapeC t s ns) G H E)
/-- a def of the text, called by its name -/
structure FD (P : Program) (w : World) (K : PySem.W.Frag) (mg : Str → Option Value) (base : Heap) (CX : CXT) (x : Str) (ps : List Str) (k : Nat) (sp : Sp) : Prop where
  ex : ∃ f fd, FnOk P w K mg base CX k f fd ps sp ∧ mg x = some (.ref f) ∧ PySem.W.keepIn K (.ref f) = true ∧ Binds K fd ps []
/-- what is asked in a part of the surroundings -/
theorem RQ.part {C' C : DC} {K : PySem.W.Frag} {G H : Hp} {Q : VK} {d : PyData} (h : C'.Sub C) (q : RQ C K G H Q d) (j : C.J H) : RQ C' K G H Q d := fun v H' G' x j' a => q v H' G' (x.weak h.m) (h.back H H' x.same j j') a
theorem RX.part {C' C : DC} {K : PySem.W.Frag} {mg : Str → Option Value} {G H : Hp} {E : XK} (h : C'.Sub C) (j : C.J H) : ∀ y, RX K mg C G H E y → RX K mg C' G H E y
  | .plain nm, q => fun c H' G' hm x j' => q c H' G' hm (x.weak h.m) (h.back H H' x.same j j')
  | .field nm f d, q => fun c dx v H' G' hm x j' => q c dx v H' G' hm (x.weak h.m) (h.back H H' x.same j j')
theorem RQ.pure {C : DC} {K : PySem.W.Frag} {G H : Hp} {Q : VK} {d : PyData} (q : RQ C K G H Q d) (j : C.J H) : RQ pureC K G H Q d := fun v H' G' x _ a => q v H' G' (x.weak fun _ z => z.elim) (C.js H H' (fun b o _ e => x.same b o (fun z => z) e) j) a
theorem RX.pure {C : DC} {K : PySem.W.Frag} {mg : Str → Option Value} {G H : Hp} {E : XK} (j : C.J H) : ∀ y, RX K mg C G H E y → RX K mg pureC G H E y
  | .plain nm, q => fun c H' G' hm x _ => q c H' G' hm (x.weak fun _ z => z.elim) (C.js H H' (fun b o _ e => x.same b o (fun z => z) e) j)
  | .field nm f d, q => fun c dx v H' G' hm x _ => q c dx v H' G' hm (x.weak fun _ z => z.elim) (C.js H H' (fun b o _ e => x.same b o (fun z => z) e) j)
theorem passA {X : Cx} {E : XK} : Passes CX0 X E := fun _ _ _ _ _ _ _ h => h.elim
section
variable {Z : DC → Prop} {X : Cx} {E : XK} {CX : CXT} {x : Str} {ps : List Str} {k : Nat} {c : FNC} {e : Expr} {es : List Expr} {wA : DAW} {p pos : Pos}
@[simp] def wFn (c : FNC) (wA : DAW) : DW := fun ρ Q Y => wA ρ (fun ds => c ds Q Y) Y
theorem pd_call (D : FD X.prog X.w X.K X.mg X.base CX x ps k (spP X.K X.mg c)) (mc : MoF c) (hr : Room k X.A) (hx : Passes CX X E) (ha : PDA Z X E (e :: es) wA) (hg : Gl X x := by rfl)
    (hdb : (x == ("__debug__" : Str)) = false := by decide) (he : starEach (e :: es) X.env = (false, eval e X.env) :: starEach es X.env := by rfl) (hpl : (backTo pos (starEach es X.env)).any (·.1) = false := by rfl) :
    PD Z X E (.Call (.Name x p) (e :: es) [] pos) (wFn c wA) := by
  obtain ⟨f, fd, F, hm, hk, hb⟩ := D.ex
  refine ⟨PEimp (pe_call F hr hg hm hk hb .nil hx ha.pa hdb he hpl) fun σ H Q ⟨C, H0, G0, G, ρ, S, q⟩ => ?_, fun ρ Q Q' Y Y' k ky q => ha.mono _ _ _ _ _ (fun ds q => mc _ _ _ _ _ k ky q) ky q⟩
  refine ⟨C, H0, G0, G, ρ, S, ha.mono _ _ _ _ _ (fun ds q => ?_) idY q⟩
  intro vs H1 G1 x1 j1 a1
  refine ⟨G1, ds, x1.sub, by rw [List.append_nil]; exact a1, mc _ _ _ _ _ (fun d q => (RQ.step q x1).pure j1) (fun y q => RX.pure j1 y (RX.step x1 y q)) q⟩
theorem pd_call0 (D : FD X.prog X.w X.K X.mg X.base CX x ps k (spP X.K X.mg c)) (mc : MoF c) (hr : Room k X.A) (hx : Passes CX X E) (hg : Gl X x := by rfl)
    (hdb : (x == ("__debug__" : Str)) = false := by decide) : PD Z X E (.Call (.Name x p) [] [] pos) (wFn c wNil) := by
  obtain ⟨f, fd, F, hm, hk, hb⟩ := D.ex
  refine ⟨PEimp (pe_call0 F hr hg hm hk hb .nil hx hdb) fun σ H Q ⟨C, H0, G0, G, ρ, S, q⟩ => ?_, fun ρ Q Q' Y Y' k ky q => mc _ _ _ _ _ k ky q⟩
  exact ⟨G, [], S.sub, .nil, mc _ _ _ _ _ (fun d q => RQ.pure q S.j) (fun y q => RX.pure S.j y q) q⟩
@[simp] def wFnT (i : Nat) (c : FNC) (wA : DAW) : DW := fun ρ Q Y => ρ[i]? = some .tp ∧ wA ρ (fun ds => c ds Q Y) Y
theorem pd_callT {tp : Expr} {i : Nat} (D : FD X.prog X.w X.K X.mg X.base CX x ps k (spT X.K X.mg c)) (mc : MoF c) (hr : Room k X.A) (hx : Passes CX X E) (ht : PE X tp (tVar i)) (ha : PDA Z X E es wA) (hg : Gl X x := by rfl)
    (hdb : (x == ("__debug__" : Str)) = false := by decide) (he : starEach (tp :: es) X.env = (false, eval tp X.env) :: starEach es X.env := by rfl) (hpl : (backTo pos (starEach es X.env)).any (·.1) = false := by rfl) :
    PD Z X E (.Call (.Name x p) (tp :: es) [] pos) (wFnT i c wA) := by
  obtain ⟨f, fd, F, hm, hk, hb⟩ := D.ex
  refine ⟨PEimp (pe_call F hr hg hm hk hb .nil hx (pa_cons ht ha.pa he) hdb he hpl) fun σ H Q ⟨C, H0, G0, G, ρ, S, e, q⟩ => ?_, fun ρ Q Q' Y Y' k ky q => ⟨q.1, ha.mono _ _ _ _ _ (fun ds q => mc _ _ _ _ _ k ky q) ky q.2⟩⟩
  obtain ⟨o, e1, t, s, ns, hs, rfl⟩ := S.sl i _ e
  refine ⟨_, e1, C, H0, G0, G, ρ, S, ha.mono _ _ _ _ _ (fun ds q => ?_) idY q⟩
  intro vs H1 G1 x1 j1 a1
  have S1 := S.step x1 j1
  exact ⟨t, s, ns, G1, vs, ds, by rw [List.append_nil], x1.sub, S1.mG t (hs.m t rfl), hs.j _ j1, a1, mc _ _ _ _ _ (fun d q => (RQ.step q x1).part hs j1) (fun y q => RX.part hs j1 y (RX.step x1 y q)) q⟩
end
section
variable {P : Program} {w : World} {K : PySem.W.Frag} {mg : Str → Option Value} {base : Heap}
@[simp] def startD (N : List Str) (ds : List PyData) : DE := ds.map SV.d ++ List.replicate (N.length - ds.length) SV.un
@[simp] def startT (N : List Str) (ds : List PyData) : DE := SV.tp :: (ds.map SV.d ++ List.replicate (N.length - (ds.length + 1)) SV.un)
theorem start_sl {C : DC} {K : PySem.W.Frag} {H0 G H : Hp} {n : Nat} : ∀ {vs : List V} {ds : List PyData}, AtAll K G vs ds → ∀ (i : Nat) (s : SV), (ds.map SV.d ++ List.replicate n SV.un)[i]? = some s → ∃ o, (vs.map some ++ List.replicate n (none : Option V))[i]? = some o ∧ SVAt C K H0 G H s o
  | _, _, .nil, i, s, e => by
    simp only [List.map_nil, List.nil_append] at e ⊢
    rw [List.getElem?_replicate] at e ⊢
    split at e
    · rename_i h; cases e; exact ⟨none, by rw [if_pos h], trivial⟩
    · cases e
  | _, _, .cons a t, 0, s, e => by
    simp at e
    subst e
    exact ⟨_, rfl, _, rfl, a⟩
  | _, _, .cons a t, i + 1, s, e => start_sl t i s (by simpa using e)
theorem no_ml {n : Nat} : ∀ {ds : List PyData} {i : Nat} {xs : List PyData}, (ds.map SV.d ++ List.replicate n SV.un)[i]? ≠ some (SV.ml xs)
  | [], i, xs, e => by
    simp only [List.map_nil, List.nil_append] at e
    rw [List.getElem?_replicate] at e
    split at e <;> cases e
  | d :: ds, 0, xs, e => by simp at e
  | d :: ds, i + 1, xs, e => no_ml (ds := ds) (i := i) (xs := xs) (by simpa using e)
theorem ds_start {Z : DC → Prop} {N : List Str} {G H : Hp} {vs : List V} {ds : List PyData} (s : Same G H) (a : AtAll K G vs ds) (hZ : Z pureC) : DS Z pureC K H G G H (L2.start N vs) (startD N ds) := by
  have hl := a.length
  refine ⟨hZ, Ext.refl s, fun _ h => h.elim, fun _ h => h.elim, trivial, ?_, ?_, fun i j xs ys b n e1 => ?_⟩
  · unfold startD L2.start; simp [hl]
  · unfold startD L2.start; rw [hl]; exact start_sl a
  · exact (no_ml e1).elim
theorem ds_startT {Z : DC → Prop} {N : List Str} {G H : Hp} {t u : Addr} {ns : List Int} {vs : List V} {ds : List PyData} (s : Same G H) (g : G t = none) (j : (tapeC t u ns).J H) (a : AtAll K G vs ds) (hZ : Z (tapeC t u ns)) : DS Z (tapeC t u ns) K H G G H (L2.start N (.ref t :: vs)) (startT N ds) := by
  have hl := a.length
  refine ⟨hZ, Ext.refl s, fun b h => ?_, fun b h => ?_, j, ?_, ?_, fun i k xs ys b n e1 => ?_⟩
  · obtain ⟨i, c, _, _, h1, h2⟩ := j
    rcases h with rfl | rfl
    · rw [h1]; simp
    · rw [h2]; simp
  · have e : b = t := h
    rw [e]; exact g
  · unfold startT L2.start; simp [hl]
  · intro i s e
    cases i with
    | zero =>
      unfold startT at e
      simp at e
      subst e
      exact ⟨some (.ref t), rfl, t, u, ns, DC.Sub.refl _, rfl⟩
    | succ i =>
      have z := start_sl (C := tapeC t u ns) (H0 := H) (H := H) a i s (n := N.length - (ds.length + 1)) (by simpa [startT] using e)
      obtain ⟨o, h1, h2⟩ := z
      refine ⟨o, ?_, h2⟩
      show (some (V.ref t) :: (vs.map some ++ List.replicate (N.length - (vs.length + 1)) none))[i + 1]? = some o
      rw [List.getElem?_cons_succ, hl]
      exact h1
  · cases i with
    | zero => simp [startT] at e1
    | succ i => exact (no_ml (ds := ds) (i := i) (xs := xs) (by simpa [startT] using e1)).elim
/-- THE RULE for a def over data, that lets no error out -/
theorem fn_pure {x qual : Str} {st : Stmt} {f : Addr} {fd : FuncData} {N ps : List Str} {k : Nat} {c : FNC} {W : DWS} (F : Fun K x qual st f fd) (S : FnScope N ps (defScope st))
    (vc : ∀ ds Q Y, c ds Q Y → ds.length = ps.length ∧ W (startD N ds) (fun _ => Q .none) Q Y)
    (body : ∀ (cdv : Value) (A : Around) (outer : List Env) (s : Shared) (H : Hp) (E : XK), Room k (A.deeper (envOfC qual (defScope st) s.heap.objs.size f cdv)) → PDs (fun _ => True) (cxOf CX0 P w K mg base N qual (defScope st) f cdv A outer s H E).nox E (defBody st) W) : FnOk P w K mg base CX0 (k + 1) f fd ps (spP K mg c) := by
  refine F.ok S (fun vs H Q E ⟨G, ds, s, a, q⟩ => by rw [a.length]; exact (vc _ _ _ q).1) fun cdv A outer s0 H vs Q E hr h => ⟨tWS _ _ E W, (body cdv A outer s0 H E hr).ps, ?_⟩
  obtain ⟨G, ds, s, a, q⟩ := h
  refine ⟨pureC, H, G, G, _, ds_start s a trivial, (body cdv A outer s0 H E hr).mono _ _ _ _ _ _ _ (fun ρ' q => ?_) (fun _ h => h) idY (vc _ _ _ q).2⟩
  intro σ' H' G' S' g'
  exact q .non H' G' S'.ext S'.j .non
/-- .. and the law's tape -/
theorem fn_tape {x qual : Str} {st : Stmt} {f : Addr} {fd : FuncData} {N ps : List Str} {k : Nat} {c : FNC} {W : DWS} (F : Fun K x qual st f fd) (S : FnScope N ps (defScope st))
    (vc : ∀ ds Q Y, c ds Q Y → ds.length + 1 = ps.length ∧ W (startT N ds) (fun _ => Q .none) Q Y)
    (body : ∀ (cdv : Value) (A : Around) (outer : List Env) (s : Shared) (H : Hp) (E : XK), Room k (A.deeper (envOfC qual (defScope st) s.heap.objs.size f cdv)) → PDs (fun _ => True) (cxOf CX0 P w K mg base N qual (defScope st) f cdv A outer s H E).nox E (defBody st) W) : FnOk P w K mg base CX0 (k + 1) f fd ps (spT K mg c) := by
  refine F.ok S (fun vs H Q E ⟨t, s, ns, G, vs', ds, e, _, _, _, a, q⟩ => by rw [e, List.length_cons, a.length]; exact (vc _ _ _ q).1) fun cdv A outer s0 H vs Q E hr h => ⟨tWS _ _ E W, (body cdv A outer s0 H E hr).ps, ?_⟩
  obtain ⟨t, u, ns, G, vs', ds, rfl, s, g, j, a, q⟩ := h
  refine ⟨tapeC t u ns, H, G, G, _, ds_startT s g j a trivial, (body cdv A outer s0 H E hr).mono _ _ _ _ _ _ _ (fun ρ' q => ?_) (fun _ h => h) idY (vc _ _ _ q).2⟩
  intro σ' H' G' S' g'
  exact q .non H' G' S'.ext S'.j .non
end
end DL

namespace DL
open PySem PySem.Spec L2
open PyProof.Rows (envOfC)
/-! ### short words for printed texts -/
@[simp] def wNeg (wa : DW) : DW := fun ρ Q Y => wa ρ (fun d => ∃ i, d = .int i ∧ Q (.int (-i))) Y
abbrev fSub : F2 := fI (fun _ _ => True) fun i j => .int (i - j)
abbrev fMul : F2 := fI CMul fun i j => .int (i * j)
abbrev fMod : F2 := fI (fun _ j => 0 < j) fun i j => .int (i % j)
abbrev fDiv : F2 := fI CDiv fun i j => .int (i / j)
abbrev fPow : F2 := fI CPow fun i j => .int (i ^ j.toNat)
abbrev fLt : F2 := fCmp fun i j => decide (i < j)
abbrev fLe : F2 := fCmp fun i j => decide (i ≤ j)
abbrev fGt : F2 := fCmp fun i j => decide (j < i)
abbrev fGe : F2 := fCmp fun i j => decide (j ≤ i)
@[simp] def wAppS (i : Nat) (w : DW) : DWS := fun ρ N R Y => ∃ xs, ρ[i]? = some (.ml xs) ∧ wApp i w ρ N R Y
section
variable {Z : DC → Prop} {X : Cx} {E : XK}
theorem pd_globE {x : Str} {pos : Pos} {d : PyData} (h : ∃ a : Addr, X.mg x = some (.ref a) ∧ ∀ H, At X.K H (.ref a) d) (hg : Gl X x := by rfl) (hd : (x == ("__debug__" : Str)) = false := by decide) : PD Z X E (.Name x pos) (wC d) := by
  obtain ⟨a, hm, ha⟩ := h
  exact pd_glob (v := .ref a) hm rfl ha hg hd
theorem pd1_par2 {i j : Nat} {x y : Str} {a b : Expr} {wA : DAW} {px py pt pt2 pos : Pos} {kt k2 : Nat} (hc : X.calm = true) (h : PDA Z X E [a, b] wA) (hN : X.N.Nodup) (hi : X.N[i]? = some x := by rfl) (hj : X.N[j]? = some y := by rfl) (hij : i ≠ j := by decide)
    (hx : X.env.scope.names.lookup x = some .local := by rfl) (hy : X.env.scope.names.lookup y = some .local := by rfl)
    (ps : ∀ ta, PA X [a, b] ta → PS X (.Assign [.Tuple [.Name x px, .Name y py] kt pt] (.Tuple [a, b] k2 pt2) pos) (tPar i j ta)) : PD1 Z X E (.Assign [.Tuple [.Name x px, .Name y py] kt pt] (.Tuple [a, b] k2 pt2) pos) (wPar i j wA) :=
  pd1_par (x := x) (y := y) (px := px) (py := py) (pt := pt) (kt := kt) (k2 := k2) (pt2 := pt2) hc h hN hi hj hij ps
end
/-- a def of the text as it stands behind the top -/
structure Def (K : PySem.W.Frag) (mg : Str → Option Value) (x qual : Str) (st : Stmt) (ps : List Str) : Prop where
  ex : ∃ f fd, Fun K x qual st f fd ∧ mg x = some (.ref f) ∧ Binds K fd ps []
end DL

namespace DL
open PySem PySem.Spec L2

/-! ### facts about data -/
@[simp] theorem flatD_none : flatD .none = true := rfl
@[simp] theorem flatD_bool (b : Bool) : flatD (.bool b) = true := rfl
@[simp] theorem flatD_int (b : Int) : flatD (.int b) = true := rfl
@[simp] theorem flatD_str (b : Str) : flatD (.str b) = true := rfl
@[simp] theorem noneD_none : noneD .none = true := rfl
@[simp] theorem noneD_bool (b : Bool) : noneD (.bool b) = false := rfl
@[simp] theorem noneD_int (b : Int) : noneD (.int b) = false := rfl
@[simp] theorem noneD_str (b : Str) : noneD (.str b) = false := rfl
@[simp] theorem noneD_list (b : List PyData) : noneD (.list b) = false := rfl
@[simp] theorem noneD_tuple (b : List PyData) : noneD (.tuple b) = false := rfl
@[simp] theorem isiD_str_none : isiD .str .none = false := rfl
@[simp] theorem isiD_str_bool (b : Bool) : isiD .str (.bool b) = false := rfl
@[simp] theorem isiD_str_int (b : Int) : isiD .str (.int b) = false := rfl
@[simp] theorem isiD_str_str (b : Str) : isiD .str (.str b) = true := rfl
@[simp] theorem isiD_str_list (b : List PyData) : isiD .str (.list b) = false := rfl
@[simp] theorem isiD_str_tuple (b : List PyData) : isiD .str (.tuple b) = false := rfl
@[simp] theorem isiD_tuple_none : isiD .tuple .none = false := rfl
@[simp] theorem isiD_tuple_bool (b : Bool) : isiD .tuple (.bool b) = false := rfl
@[simp] theorem isiD_tuple_int (b : Int) : isiD .tuple (.int b) = false := rfl
@[simp] theorem isiD_tuple_str (b : Str) : isiD .tuple (.str b) = false := rfl
@[simp] theorem isiD_tuple_list (b : List PyData) : isiD .tuple (.list b) = false := rfl
@[simp] theorem isiD_tuple_tuple (b : List PyData) : isiD .tuple (.tuple b) = true := rfl
@[simp] theorem isiD_int_none : isiD .int .none = false := rfl
@[simp] theorem isiD_int_bool (b : Bool) : isiD .int (.bool b) = true := rfl
@[simp] theorem isiD_int_int (b : Int) : isiD .int (.int b) = true := rfl
@[simp] theorem isiD_int_str (b : Str) : isiD .int (.str b) = false := rfl
@[simp] theorem isiD_int_list (b : List PyData) : isiD .int (.list b) = false := rfl
@[simp] theorem isiD_int_tuple (b : List PyData) : isiD .int (.tuple b) = false := rfl
@[simp] theorem isiD_bool_none : isiD .bool .none = false := rfl
@[simp] theorem isiD_bool_bool (b : Bool) : isiD .bool (.bool b) = true := rfl
@[simp] theorem isiD_bool_int (b : Int) : isiD .bool (.int b) = false := rfl
@[simp] theorem isiD_bool_str (b : Str) : isiD .bool (.str b) = false := rfl
@[simp] theorem isiD_bool_list (b : List PyData) : isiD .bool (.list b) = false := rfl
@[simp] theorem isiD_bool_tuple (b : List PyData) : isiD .bool (.tuple b) = false := rfl
@[simp] theorem isiD_list_none : isiD .list .none = false := rfl
@[simp] theorem isiD_list_bool (b : Bool) : isiD .list (.bool b) = false := rfl
@[simp] theorem isiD_list_int (b : Int) : isiD .list (.int b) = false := rfl
@[simp] theorem isiD_list_str (b : Str) : isiD .list (.str b) = false := rfl
@[simp] theorem isiD_list_list (b : List PyData) : isiD .list (.list b) = true := rfl
@[simp] theorem isiD_list_tuple (b : List PyData) : isiD .list (.tuple b) = false := rfl
@[simp] theorem flatD_list (b : List PyData) : flatD (.list b) = false := rfl
@[simp] theorem flatD_tuple (b : List PyData) : flatD (.tuple b) = false := rfl
@[simp] theorem isiD_str_dict (b : List (PyData × PyData)) : isiD .str (.dict b) = false := rfl
@[simp] theorem isiD_tuple_dict (b : List (PyData × PyData)) : isiD .tuple (.dict b) = false := rfl
@[simp] theorem isiD_int_dict (b : List (PyData × PyData)) : isiD .int (.dict b) = false := rfl
@[simp] theorem isiD_bool_dict (b : List (PyData × PyData)) : isiD .bool (.dict b) = false := rfl
@[simp] theorem isiD_list_dict (b : List (PyData × PyData)) : isiD .list (.dict b) = false := rfl
@[simp] theorem noneD_dict (b : List (PyData × PyData)) : noneD (.dict b) = false := rfl
@[simp] theorem flatD_dict (b : List (PyData × PyData)) : flatD (.dict b) = false := rfl
section
variable {Q : PyData → Prop} (i j : Int) (x y : Str) (xs ys : List PyData) (b : Bool)
@[simp] theorem fAdd_int : fAdd (.int i) (.int j) Q = Q (.int (i + j)) := rfl
@[simp] theorem fAdd_str : fAdd (.str x) (.str y) Q = (x.length + y.length ≤ sizeLine ∧ Q (.str (x ++ y))) := rfl
@[simp] theorem fAdd_tup : fAdd (.tuple xs) (.tuple ys) Q = (xs.length + ys.length ≤ sizeLine ∧ Q (.tuple (xs ++ ys))) := rfl
@[simp] theorem fAdd_lst : fAdd (.list xs) (.list ys) Q = (xs.length + ys.length ≤ sizeLine ∧ Q (.list (xs ++ ys))) := rfl
@[simp] theorem fI_int (C : Int → Int → Prop) (g : Int → Int → PyData) : fI C g (.int i) (.int j) Q = (C i j ∧ Q (g i j)) := rfl
@[simp] theorem fRep_tup : fRep (.tuple xs) (.int i) Q = (xs ≠ [] ∧ 2 ≤ i ∧ i ≤ 1000 ∧ xs.length ≤ 1000 ∧ Q (.tuple (List.replicate i.toNat xs).flatten)) := rfl
@[simp] theorem fRep_lst : fRep (.list xs) (.int i) Q = (-(2 ^ 63) ≤ i ∧ i < 2 ^ 63 ∧ xs.length * i.toNat ≤ sizeLine ∧ Q (.list (List.replicate i.toNat xs).flatten)) := rfl
@[simp] theorem fIn_lst (neg : Bool) (d : PyData) : fIn neg d (.list xs) Q = (flatD d = true ∧ xs.all flatD = true ∧ Q (.bool (if neg then !(xs.any fun e => PyData.eqv e d) else xs.any fun e => PyData.eqv e d))) := rfl
@[simp] theorem fIn_tup (neg : Bool) (d : PyData) : fIn neg d (.tuple xs) Q = (flatD d = true ∧ xs.all flatD = true ∧ Q (.bool (if neg then !(xs.any fun e => PyData.eqv e d) else xs.any fun e => PyData.eqv e d))) := rfl
@[simp] theorem fIx_lst : fIx (.list xs) (.int i) Q = (∃ d, atI xs i = some d ∧ Q d) := rfl
@[simp] theorem fIx_tup : fIx (.tuple xs) (.int i) Q = (∃ d, atI xs i = some d ∧ Q d) := rfl
@[simp] theorem fIx_str : fIx (.str x) (.int i) Q = (x.length ≤ sizeLine ∧ ∃ c, atI x.cps.toList i = some c ∧ Q (.str ⟨#[c]⟩)) := rfl
@[simp] theorem fSl_lst (lo hi : Option Int) : fSl (.list xs) lo hi Q = Q (.list (cutD xs lo hi)) := rfl
@[simp] theorem fSl_tup (lo hi : Option Int) : fSl (.tuple xs) lo hi Q = Q (.tuple (cutD xs lo hi)) := rfl
@[simp] theorem fSl_str (lo hi : Option Int) : fSl (.str x) lo hi Q = (x.length ≤ sizeLine ∧ Q (.str (cutS x lo hi))) := rfl
@[simp] theorem fLen_str : fLen [.str x] Q = (x.length ≤ sizeLine ∧ Q (.int x.length)) := rfl
@[simp] theorem fLen_lst : fLen [.list xs] Q = Q (.int xs.length) := rfl
@[simp] theorem fLen_tup : fLen [.tuple xs] Q = Q (.int xs.length) := rfl
@[simp] theorem fInt_int : fInt [.int i] Q = Q (.int i) := rfl
@[simp] theorem fInt_bool : fInt [.bool b] Q = Q (.int (if b then 1 else 0)) := rfl
@[simp] theorem fTuple_lst : fTuple [.list xs] Q = Q (.tuple xs) := rfl
@[simp] theorem fTuple_tup : fTuple [.tuple xs] Q = Q (.tuple xs) := rfl
@[simp] theorem fList_lst : fList [.list xs] Q = Q (.list xs) := rfl
@[simp] theorem fList_tup : fList [.tuple xs] Q = Q (.list xs) := rfl
@[simp] theorem fListF_lst (Q : List PyData → Prop) : fListF [.list xs] Q = Q xs := rfl
@[simp] theorem fListF_tup (Q : List PyData → Prop) : fListF [.tuple xs] Q = Q xs := rfl
@[simp] theorem fMax_int : fMax [.int i, .int j] Q = Q (.int (if j > i then j else i)) := rfl
end
theorem flat_strs : ∀ l : List Str, (strsD l).all flatD = true
  | [] => rfl
  | x :: l => by
    have ih := flat_strs l
    show (flatD (.str x) && (strsD l).all flatD) = true
    rw [ih]; rfl
theorem beqD {α : Type} [BEq α] [LawfulBEq α] [DecidableEq α] (a b : α) : (a == b) = decide (a = b) := by rw [Bool.eq_iff_iff, beq_iff_eq, decide_eq_true_eq]
theorem eqv_ss (x y : Str) : PyData.eqv (.str x) (.str y) = decide (x = y) := by
  simp only [PyData.eqv]
  exact beqD x y
theorem any_strs (z : Str) : ∀ l : List Str, ((strsD l).any fun e => PyData.eqv e (.str z)) = decide (z ∈ l)
  | [] => by simp [strsD]
  | x :: l => by
    have ih := any_strs z l
    show (PyData.eqv (.str x) (.str z) || (strsD l).any fun e => PyData.eqv e (.str z)) = decide (z ∈ x :: l)
    rw [ih, eqv_ss]
    by_cases h : x = z
    · subst h; simp
    · have h' : ¬ z = x := fun q => h q.symm
      simp [h, h']
theorem shaped_of {d : PyData} (h1 : d.canLay0 = true) (h2 : d.depth ≤ 64) : SeqAt.shaped d = true := by
  unfold SeqAt.shaped; rw [h1, decide_eq_true h2]; rfl
@[simp] theorem shaped_none : SeqAt.shaped .none = true := by decide
@[simp] theorem shaped_bool (b : Bool) : SeqAt.shaped (.bool b) = true := shaped_of (by simp only [PyData.canLay0]) (by simp only [PyData.depth]; exact Nat.zero_le _)
@[simp] theorem shaped_int (b : Int) : SeqAt.shaped (.int b) = true := shaped_of (by simp only [PyData.canLay0]) (by simp only [PyData.depth]; exact Nat.zero_le _)
theorem shaped_str {z : Str} (h : PyData.strOk z = true) : SeqAt.shaped (.str z) = true := shaped_of (by simp only [PyData.canLay0]; exact h) (by simp only [PyData.depth]; exact Nat.zero_le _)
@[simp] theorem shaped_lnil : SeqAt.shaped (.list []) = true := by decide
@[simp] theorem shaped_tnil : SeqAt.shaped (.tuple []) = true := by decide
theorem eqv_lnil (xs : List PyData) : PyData.eqv (.list xs) (.list []) = xs.isEmpty := by
  simp only [PyData.eqv]
  cases xs <;> simp [PyData.eqvAll]
theorem eqv_tnil (xs : List PyData) : PyData.eqv (.tuple xs) (.tuple []) = xs.isEmpty := by
  simp only [PyData.eqv]
  cases xs <;> simp [PyData.eqvAll]
theorem eqv_ii (x y : Int) : PyData.eqv (.int x) (.int y) = decide (x = y) := by simp only [PyData.eqv]; exact beqD x y
theorem eqv_bb (x y : Bool) : PyData.eqv (.bool x) (.bool y) = decide (x = y) := by simp only [PyData.eqv]; exact beqD x y

/-! ### comprehensions and loops with known turns -/
theorem compW_fm {i : Nat} {wt : DT} {we : DW} {ρ : DE} (p : PyData → Bool) (g : PyData → PyData) {Q : List PyData → Prop} : ∀ {ds acc : List PyData},
    (∀ d ∈ ds, ∀ Q Y, Q (p d) → wt (ρ.set i (.d d)) Q Y) → (∀ d ∈ ds, p d = true → ∀ Q Y, Q (g d) → we (ρ.set i (.d d)) Q Y) → acc.length + ds.length ≤ sizeLine → Q (acc ++ (ds.filter p).map g) → compW (.one i) wt we ρ ds acc Q
  | [], acc, _, _, _, q => by simpa [compW] using q
  | d :: ds, acc, h1, h2, hz, q => by
    rw [List.length_cons] at hz
    show wt (ρ.set i (.d d)) _ _
    refine h1 d List.mem_cons_self _ _ ?_
    have h1' : ∀ d' ∈ ds, ∀ Q Y, Q (p d') → wt (ρ.set i (.d d')) Q Y := fun d' h => h1 d' (List.mem_cons_of_mem _ h)
    have h2' : ∀ d' ∈ ds, p d' = true → ∀ Q Y, Q (g d') → we (ρ.set i (.d d')) Q Y := fun d' h => h2 d' (List.mem_cons_of_mem _ h)
    by_cases hp : p d = true
    · rw [if_pos hp]
      refine h2 d List.mem_cons_self hp _ _ ⟨by omega, ?_⟩
      refine compW_fm p g h1' h2' (by rw [List.length_append, List.length_singleton]; omega) ?_
      rw [List.filter_cons_of_pos hp, List.map_cons] at q
      simpa using q
    · rw [if_neg hp]
      rw [List.filter_cons_of_neg hp] at q
      exact compW_fm p g h1' h2' (by omega) q
/-- all items, each some datum of a kind -/
theorem compW_all {t : Tg} {we : DW} {ρ : DE} (P : PyData → Prop) {Q : List PyData → Prop} : ∀ {ds acc : List PyData},
    (∀ d ∈ ds, ∀ K : PyData → Prop, (∀ y, P y → K y) → setT t d ρ (fun ρ1 => we ρ1 K (fun _ => False))) → acc.length + ds.length ≤ sizeLine → (∀ y ∈ acc, P y) → (∀ ys, ys.length = acc.length + ds.length → (∀ y ∈ ys, P y) → Q ys) → compW t wYes we ρ ds acc Q
  | [], acc, _, _, ha, q => q acc rfl ha
  | d :: ds, acc, h, hz, ha, q => by
    rw [List.length_cons] at hz
    have k := h d List.mem_cons_self (fun y => acc.length < sizeLine ∧ compW t wYes we ρ ds (acc ++ [y]) Q) fun y py => ⟨by omega, compW_all P (fun d' h' => h d' (List.mem_cons_of_mem _ h')) (by rw [List.length_append, List.length_singleton]; omega)
      (fun y' hy' => by
        rcases List.mem_append.mp hy' with z | z
        · exact ha _ z
        · rw [List.mem_singleton.mp z]; exact py) fun ys hl hp => q ys (by rw [hl, List.length_append, List.length_singleton, List.length_cons]; omega) hp⟩
    exact k
theorem forW_inv {t : Tg} {Wb : DWS} {R : PyData → Prop} {Y : EC} {N : DE → Prop} {all : List PyData} (I : List PyData → DE → Prop)
    (hs : ∀ pre d post ρ, all = pre ++ d :: post → I pre ρ → ∀ K : DE → Prop, (∀ ρ2, I (pre ++ [d]) ρ2 → K ρ2) → setT t d ρ (fun ρ1 => Wb ρ1 K R Y)) (hd : ∀ ρ, I all ρ → N ρ) :
    ∀ (pre ds : List PyData) (ρ : DE), all = pre ++ ds → I pre ρ → forW t Wb ds ρ N R Y
  | pre, [], ρ, e, h => by
    rw [List.append_nil] at e
    exact hd ρ (e ▸ h)
  | pre, d :: ds, ρ, e, h => hs pre d ds ρ e h _ fun ρ2 h2 => forW_inv I hs hd (pre ++ [d]) ds ρ2 (by rw [e, List.append_assoc]; rfl) h2
theorem forW_from {t : Tg} {Wb : DWS} {R : PyData → Prop} {Y : EC} {N : DE → Prop} {all : List PyData} {ρ : DE} (I : List PyData → DE → Prop) (h0 : I [] ρ)
    (hs : ∀ pre d post ρ, all = pre ++ d :: post → I pre ρ → ∀ K : DE → Prop, (∀ ρ2, I (pre ++ [d]) ρ2 → K ρ2) → setT t d ρ (fun ρ1 => Wb ρ1 K R Y)) (hd : ∀ ρ, I all ρ → N ρ) : forW t Wb all ρ N R Y :=
  forW_inv I hs hd [] all ρ rfl h0
theorem line24 : sizeLine = 16777216 := by rw [sizeLine_eq]
end DL

namespace DL
open PySem PySem.Spec L2
open PyProof.Rows (envOfC)
/-! ### the law's draw, by hand: any number below the wanted one -/
def c_draw : FNC := fun ds Q _ => ∃ m : Int, ds = [.int m] ∧ 0 < m ∧ m.natAbs < 2 ^ 1000 ∧ ∀ r : Int, 0 ≤ r → r < m → Q (.int r)
theorem mo_law_draw : MoF c_draw := fun ds Q Q' Y Y' k ky ⟨m, e, h, h2, q⟩ => ⟨m, e, h, h2, fun r a b => k _ (q r a b)⟩
def tdRest (K : PySem.W.Frag) : TS := tSeq (tAsg (tOp (rI (fun _ j => 0 < j) fun i j => .int (i % j)) (tCB (fun xs H Q => (∃ i, xs = [.int i] ∧ Q (.int i) H) ∨ ∃ k, xs = [.bl k] ∧ Q (.int (if k then 1 else 0)) H) (tCons (tOp (rIxL K) (tVar 0) (tC (.int 2))) tNil)) (tVar 1)) (gName 4))
        (tSeq (tAsg (tOp (rI CDivW fun i j => .int (i / j)) (tOp (rIxL K) (tVar 0) (tC (.int 2))) (tVar 1)) (gSub (tVar 0) (tC (.int 2)) rSetL)) (tRet (tVar 4)))
def tdPut (K : PySem.W.Frag) : TS := tSeq (tAsg (tOp (rI0 fun i j => .int (i + j)) (tOp (rIxL K) (tVar 0) (tC (.int 1))) (tC (.int 1))) (gSub (tVar 0) (tC (.int 1)) rSetL)) (tAsg (tVar 3) (gSub (tVar 0) (tC (.int 2)) rSetL))
def tdHash (K : PySem.W.Frag) : TS := tSeq (tAsg (tOp (rI (fun _ j => 0 < j) fun i j => .int (i % j)) (tCB (fun xs H Q => (∃ i, xs = [.int i] ∧ Q (.int i) H) ∨ ∃ k, xs = [.bl k] ∧ Q (.int (if k then 1 else 0)) H) (tCons (tOp (rI0 fun i j => .int (i + j)) (tVar 3) (tOp (rI CMul fun i j => .int (i * j)) (tC (.int 1000003)) (tOp (rIxL K) (tVar 0) (tC (.int 1))))) tNil)) (tVar 2)) (gName 3))
        (tSeq (tAsg (tOp (rI (fun _ j => 0 < j) fun i j => .int (i % j)) (tCB (fun xs H Q => (∃ i, xs = [.int i] ∧ Q (.int i) H) ∨ ∃ k, xs = [.bl k] ∧ Q (.int (if k then 1 else 0)) H) (tCons (tOp (rI0 fun i j => .int (i + j)) (tOp (rI0 fun i j => .int (i + j)) (tOp (rI CMul fun i j => .int (i * j)) (tVar 3) (tVar 3)) (tOp (rI CMul fun i j => .int (i * j)) (tC (.int 1181783497276652981)) (tVar 3))) (tC (.int 2049848353892358983))) tNil)) (tVar 2)) (gName 3))
        (tAsg (tOp (rI (fun _ j => 0 < j) fun i j => .int (i % j)) (tCB (fun xs H Q => (∃ i, xs = [.int i] ∧ Q (.int i) H) ∨ ∃ k, xs = [.bl k] ∧ Q (.int (if k then 1 else 0)) H) (tCons (tOp (rI0 fun i j => .int (i + j)) (tOp (rI CMul fun i j => .int (i * j)) (tVar 3) (tVar 3)) (tC (.int 1442695040888963407))) tNil)) (tVar 2)) (gName 3)))
def tdOr (K : PySem.W.Frag) : TT := tOr (tTest (tOp (rI0 fun i j => .bl (decide (j ≤ i))) (tOp (rIxL K) (tVar 0) (tC (.int 1))) (tCB (fun xs H Q => ∃ p ys, xs = [.ref p] ∧ (SqL K H p ys ∨ SqT K H p ys) ∧ Q (.int ys.length) H) (tCons (tOp (rIxL K) (tVar 0) (tC (.int 0))) tNil)))) (tTest (tOp (rI0 fun i j => .bl (decide (i < j))) (tVar 3) (tOp (rI CPow fun i j => .int (i ^ j.toNat)) (tC (.int 10)) (tC (.int 18)))))
/-- the heap but for the tape at t -/
structure TH (H : Hp) (t s : Addr) (i c : Int) (H' : Hp) : Prop where
  o : ∀ b, b ≠ t → H' b = H b
  t : H' t = some (.lst [.ref s, .int i, .int c])
  i0 : 0 ≤ i
  c0 : 0 ≤ c
section
variable {K : PySem.W.Frag} {H H' : Hp} {t s : Addr} {i c : Int}
theorem TH.put (h : TH H t s i c H') {i' c' : Int} (h1 : 0 ≤ i') (h2 : 0 ≤ c') : TH H t s i' c' (upd H' t (.lst [.ref s, .int i', .int c'])) :=
  ⟨fun b n => by rw [upd_ne n]; exact h.o b n, upd_same, h1, h2⟩
/-- tape[k] -/
theorem rdT {σ : St} {Q : VK} {k : Int} {v : V} {xs : List V} (e : σ[0]? = some (some (.ref t))) (h : H' t = some (.lst xs)) (a : atI xs k = some v) (q : Q v H') : tOp (rIxL K) (tVar 0) (tC (.int k)) σ H' Q :=
  ⟨_, e, t, xs, k, v, rfl, rfl, SqL.of h, a, q⟩
theorem TH.ext {G : Hp} {ns : List Int} (h : TH H t s i c H') (g : G t = none) (sg : Same G H) (hs : H s = some (.lst (ns.map V.int))) (hst : s ≠ t) (ht : H t ≠ none) : Ext (tapeC t s ns).M G H G H' ∧ (tapeC t s ns).J H' := by
  refine ⟨⟨fun b o n e => by rw [h.o b n]; exact e, fun b o e => ?_, fun b o e => ?_, fun _ _ e => e, fun _ _ _ e => e⟩, i, c, h.i0, h.c0, h.t, by rw [h.o s hst]; exact hs⟩
  · by_cases n : b = t
    · subst n; exact ⟨_, h.t⟩
    · exact ⟨o, by rw [h.o b n]; exact e⟩
  · have n : b ≠ t := fun z => by subst z; rw [g] at e; cases e
    rw [h.o b n]
    exact sg b o e
end
end DL

namespace DL
open PySem PySem.Spec L2
open PyProof.Rows (envOfC)
/-! ### the law's own start: tape = [list(script), 0, 0] -/
def rho0 (n : Nat) : DE := .un :: .tp :: List.replicate n .un
theorem tWS_law {Z : DC → Prop} {X : Cx} {E : XK} {W : DWS} {n : Nat} {H : Hp} {a s t : Addr} {ns : List Int} {Q : VK} (vc : ∀ N R Y, R (.bool true) → W (rho0 n) N R Y) (hs : H s = none) (ht : upd H s (.lst (ns.map V.int)) t = none) (hq : ∀ H', Q (.bl true) H') (hZ : Z (tapeC t s ns)) :
    tWS Z X E W { nx := fun _ H' => Q .non H', rt := Q } (some (.ref a) :: some (.ref t) :: List.replicate n none) (upd (upd H s (.lst (ns.map V.int))) t (.lst [.ref s, .int 0, .int 0])) := by
  have hts : t ≠ s := fun e => by rw [e, upd_same] at ht; cases ht
  refine ⟨tapeC t s ns, _, fun _ => none, fun _ => none, rho0 n, ⟨hZ, Ext.refl (fun b o e => by cases e), fun b hb => ?_, fun b _ => rfl, ?_, ?_, ?_, ?_⟩, vc _ _ _ ?_⟩
  · rcases hb with rfl | rfl
    · rw [upd_same]; simp
    · rw [upd_ne (Ne.symm hts), upd_same]; simp
  · exact ⟨0, 0, Int.le_refl _, Int.le_refl _, upd_same, by rw [upd_ne (Ne.symm hts), upd_same]⟩
  · unfold rho0; simp
  · intro i sv e
    match i with
    | 0 => simp [rho0] at e; subst e; exact ⟨_, rfl, trivial⟩
    | 1 => simp [rho0] at e; subst e; exact ⟨_, rfl, t, s, ns, DC.Sub.refl _, rfl⟩
    | i + 2 =>
      simp [rho0] at e
      rw [List.getElem?_replicate] at e
      split at e
      · rename_i h
        cases e
        exact ⟨none, by simp [List.getElem?_replicate, h], trivial⟩
      · cases e
  · intro i j xs ys b n1 e1
    exfalso
    match i with
    | 0 => simp [rho0] at e1
    | 1 => simp [rho0] at e1
    | i + 2 =>
      simp [rho0] at e1
      rw [List.getElem?_replicate] at e1
      split at e1 <;> cases e1
  · intro v H' G' x j av
    rw [bool_of av]
    exact hq H'
def spLaw (K : PySem.W.Frag) : Sp := fun vs H Q _ => ∃ (a : Addr) (ns : List Int), vs = [.ref a] ∧ SqL K H a (ns.map V.int) ∧ ns.length ≤ 63 ∧ ∀ H', Q (.bl true) H'
/-- a def whose promise asks what is never so -/
theorem fd_no {P : Program} {w : World} {K : PySem.W.Frag} {mg : Str → Option Value} {base : Heap} {x qual : Str} {st : Stmt} {ps : List Str} {k : Nat} {c : FNC} (D : Def K mg x qual st ps) (h : ∀ ds Q Y, ¬ c ds Q Y) : FD P w K mg base CX0 x ps k (spP K mg c) := by
  obtain ⟨f, fd, F, hm, hb⟩ := D.ex
  exact ⟨f, fd, ⟨fun vs H Q E ⟨_, _, _, _, q⟩ => (h _ _ _ q).elim, fun A outer s H args us vs Q E hr h0 hb r ⟨_, _, _, _, q⟩ => (h _ _ _ q).elim⟩, hm, F.kp, hb⟩
theorem FD.mono {P : Program} {w : World} {K : PySem.W.Frag} {mg : Str → Option Value} {base : Heap} {CX : CXT} {x : Str} {ps : List Str} {j k : Nat} {sp : Sp} (F : FD P w K mg base CX x ps j sp) (h : j ≤ k) : FD P w K mg base CX x ps k sp := by
  obtain ⟨f, fd, F, hm, hk, hb⟩ := F.ex
  exact ⟨f, fd, F.mono h, hm, hk, hb⟩
/-- a tuple of texts that the top wrote -/
theorem at_strsK {K : PySem.W.Frag} {a : Addr} {o : Obj} {its : Array Value} {n : Nat} {ys : List Str} (h : K.lookup a = some o) (c : o.cls = .type "tuple") (d : o.data = .seq its n) (hz : its.size ≤ sizeLine) (hv : Vals (ys.map V.str) its.toList) : ∀ H, At K H (.ref a) (.tuple (strsD ys)) := fun H =>
  .tup (.inr ⟨o, its, n, h, c, d, hz, hv⟩) (strs_at ys)
end DL

namespace DL
open PySem PySem.Spec L2

/-! ### data of the program -/
def testsL : List Str := ["changed", "fresh", "house none", "house open", "house ticked", "own none", "own open", "own ticked"]
def deedsL : List Str := ["house", "leave", "none", "open", "own", "ticked"]
abbrev TESTSd : PyData := .tuple (strsD testsL)
abbrev DEEDSd : PyData := .tuple (strsD deedsL)
/-- texts that are short enough and of true signs -/
def okS (z : Str) : Bool := PyData.strOk z && decide (z.length ≤ 50000)
mutual
def okD : PyData → Bool
  | .str z => okS z
  | .list xs => okDs xs && decide (xs.length ≤ 100000)
  | .tuple xs => okDs xs && decide (xs.length ≤ 100000)
  | .dict _ => false
  | _ => true
def okDs : List PyData → Bool
  | [] => true
  | x :: xs => okD x && okDs xs
end
/-- good data: may be compared, measured -/
def goodD (d : PyData) : Bool := okD d && decide (d.depth ≤ 60)
def inL (z : Str) (l : List Str) : Bool := decide (z ∈ l)
def isTestS (z : Str) : Bool := inL z testsL || (decide (cutS z none (some 3) = "no ") && inL (cutS z (some 3) none) testsL)
def isTest : PyData → Bool
  | .str z => isTestS z
  | _ => false
def isDeed : PyData → Bool
  | .str z => inL z deedsL
  | _ => false
def isClause : PyData → Bool
  | .tuple [.tuple ts, d] => decide (ts.length ≤ 3) && ts.all isTest && isDeed d
  | _ => false
def isRule : PyData → Bool
  | .tuple cs => decide (cs.length ≤ 8) && cs.all isClause
  | _ => false
/-- rules with their Lean type -/
abbrev Cl := List Str × Str
def clD (c : Cl) : PyData := .tuple [.tuple (strsD c.1), .str c.2]
def ruD (r : List Cl) : PyData := .tuple (r.map clD)
def okCl (c : Cl) : Bool := decide (c.1.length ≤ 3) && c.1.all isTestS && inL c.2 deedsL
def okRu (r : List Cl) : Bool := decide (r.length ≤ 8) && r.all okCl
def clLine (c : Cl) : Str := (if c.1 = [] then ("always" : Str) else Txt.join ", " c.1) ++ (": " : Str) ++ c.2
def ruText (r : List Cl) : Str := Txt.join "\n" (r.map clLine)

/-! ### what the defs keep -/
def c_is_test : FNC := fun ds Q _ => ∃ d, ds = [d] ∧ goodD d = true ∧ Q (.bool (isTest d))
def c_is_clause : FNC := fun ds Q _ => ∃ d, ds = [d] ∧ goodD d = true ∧ Q (.bool (isClause d))
def c_is_rule : FNC := fun ds Q _ => ∃ d, ds = [d] ∧ goodD d = true ∧ Q (.bool (isRule d))
def c_check_rule : FNC := fun ds Q _ => ∃ d, ds = [d] ∧ goodD d = true ∧ isRule d = true ∧ Q .none
def c_clause_line : FNC := fun ds Q _ => ∃ c, ds = [clD c] ∧ okCl c = true ∧ Q (.str (clLine c))
def lineRead (z : Str) : PyData :=
  match Txt.split z ": " with
  | [a, b] => if isClause (.tuple [.tuple (if a = ("always" : Str) then [] else strsD (Txt.split a ", ")), .str b]) then .tuple [.tuple (if a = ("always" : Str) then [] else strsD (Txt.split a ", ")), .str b] else .none
  | _ => .none
def c_line_read : FNC := fun ds Q _ => ∃ z, ds = [.str z] ∧ okS z = true ∧ Q (lineRead z)
def c_rule_text : FNC := fun ds Q _ => ∃ r, ds = [ruD r] ∧ okRu r = true ∧ Q (.str (ruText r))
def c_read_rule : FNC := fun ds Q _ => ∃ r, ds = [.str (ruText r)] ∧ okRu r = true ∧ Q (ruD r)
def c_of : FNC := fun ds Q _ => ∃ xs, ds = [.list xs] ∧ xs ≠ [] ∧ xs.length ≤ 1000000 ∧ ∀ d ∈ xs, Q d
def c_tests : FNC := fun ds Q _ => ds = [] ∧ Q (.list (strsD testsL))
def c_deeds : FNC := fun ds Q _ => ds = [] ∧ Q (.list (strsD deedsL))
def c_clause : FNC := fun ds Q _ => ds = [] ∧ ∀ c, okCl c = true → Q (clD c)
def c_rule : FNC := fun ds Q _ => ∃ m : Int, ds = [.int m] ∧ 0 ≤ m ∧ m ≤ 8 ∧ ∀ r : List Cl, okRu r = true → (r.length : Int) ≤ m → Q (ruD r)
theorem mo_is_test : MoF c_is_test := fun ds Q Q' Y Y' k ky ⟨d, e, h, q⟩ => ⟨d, e, h, k _ q⟩
theorem mo_is_clause : MoF c_is_clause := fun ds Q Q' Y Y' k ky ⟨d, e, h, q⟩ => ⟨d, e, h, k _ q⟩
theorem mo_is_rule : MoF c_is_rule := fun ds Q Q' Y Y' k ky ⟨d, e, h, q⟩ => ⟨d, e, h, k _ q⟩
theorem mo_check_rule : MoF c_check_rule := fun ds Q Q' Y Y' k ky ⟨d, e, h, h2, q⟩ => ⟨d, e, h, h2, k _ q⟩
theorem mo_clause_line : MoF c_clause_line := fun ds Q Q' Y Y' k ky ⟨d, e, h, q⟩ => ⟨d, e, h, k _ q⟩
theorem mo_line_read : MoF c_line_read := fun ds Q Q' Y Y' k ky ⟨d, e, h, q⟩ => ⟨d, e, h, k _ q⟩
theorem mo_rule_text : MoF c_rule_text := fun ds Q Q' Y Y' k ky ⟨d, e, h, q⟩ => ⟨d, e, h, k _ q⟩
theorem mo_read_rule : MoF c_read_rule := fun ds Q Q' Y Y' k ky ⟨d, e, h, q⟩ => ⟨d, e, h, k _ q⟩
theorem mo_law_of : MoF c_of := fun ds Q Q' Y Y' k ky ⟨m, e, h, h2, q⟩ => ⟨m, e, h, h2, fun r a => k _ (q r a)⟩
theorem mo_law_tests : MoF c_tests := fun ds Q Q' Y Y' k ky ⟨e, q⟩ => ⟨e, k _ q⟩
theorem mo_law_deeds : MoF c_deeds := fun ds Q Q' Y Y' k ky ⟨e, q⟩ => ⟨e, k _ q⟩
theorem mo_law_clause : MoF c_clause := fun ds Q Q' Y Y' k ky ⟨e, q⟩ => ⟨e, fun c h => k _ (q c h)⟩
theorem mo_law_rule : MoF c_rule := fun ds Q Q' Y Y' k ky ⟨m, e, h, h2, q⟩ => ⟨m, e, h, h2, fun r a b => k _ (q r a b)⟩
/-! ### alike, with the same kinds -/
def boolD : PyData → Bool
  | .bool _ => true
  | _ => false
def seqD : PyData → Bool
  | .list _ => true
  | .tuple _ => true
  | _ => false
mutual
def likeD : PyData → PyData → Bool
  | .list xs, .list ys => likeAll xs ys
  | .tuple xs, .tuple ys => likeAll xs ys
  | .list _, _ => false
  | .tuple _, _ => false
  | x, y => !seqD y && (boolD x == boolD y) && PyData.eqv x y
def likeAll : List PyData → List PyData → Bool
  | [], [] => true
  | x :: xs, y :: ys => likeD x y && likeAll xs ys
  | _, _ => false
end
def c_like (n : Nat) : FNC := fun ds Q _ => ∃ x y, ds = [x, y] ∧ goodD x = true ∧ goodD y = true ∧ x.depth < n ∧ Q (.bool (likeD x y))
theorem mo_law_like (n : Nat) : MoF (c_like n) := fun ds Q Q' Y Y' k ky ⟨x, y, e, h, h2, h3, q⟩ => ⟨x, y, e, h, h2, h3, k _ q⟩
end DL

namespace DL
open PySem PySem.Spec L2
open PyProof.Rows (envOfC)
abbrev N_is_test : List Str := ["value"]
def W_is_test  : DWS := (wSeq (wIfS (wNot (wT (wIsi .str (wVar 0)))) (wRet (wC (.bool false))) wNx)
  (wRet (wOrV (w2 (fIn false) (wVar 0) (wC TESTSd)) (wAndV (w2 fEq (wSl (wVar 0) wNo (wPart (wC (.int 3)))) (wC (.str "no "))) (w2 (fIn false) (wSl (wVar 0) (wPart (wC (.int 3))) wNo) (wC TESTSd))))))
abbrev N_is_clause : List Str := ["value", "test"]
def W_is_clause  : DWS := (wSeq (wIfS (wOr (wNot (wT (wIsi .tuple (wVar 0)))) (wOr (wT (w2 fNe (wCall fLen (wCons (wVar 0) wNil)) (wC (.int 2)))) (wOr (wNot (wT (wIsi .tuple (w2 fIx (wVar 0) (wC (.int 0)))))) (wT (w2 fGt (wCall fLen (wCons (w2 fIx (wVar 0) (wC (.int 0))) wNil)) (wC (.int 3))))))) (wRet (wC (.bool false))) wNx)
  (wSeq (wIfS (wT (w2 fNe (wOfF (wLc (.one 1) (wNot (wT (wFn c_is_test (wCons (wVar 1) wNil)))) (wVar 1) [1] (wItT (w2 fIx (wVar 0) (wC (.int 0)))))) (wLst wNil))) (wRet (wC (.bool false))) wNx)
  (wRet (wAndV (wIsi .str (w2 fIx (wVar 0) (wC (.int 1)))) (w2 (fIn false) (w2 fIx (wVar 0) (wC (.int 1))) (wC DEEDSd))))))
abbrev N_is_rule : List Str := ["value", "clause"]
def W_is_rule  : DWS := (wSeq (wIfS (wOr (wNot (wT (wIsi .tuple (wVar 0)))) (wT (w2 fGt (wCall fLen (wCons (wVar 0) wNil)) (wC (.int 8))))) (wRet (wC (.bool false))) wNx)
  (wRet (w2 fEq (wOfF (wLc (.one 1) (wNot (wT (wFn c_is_clause (wCons (wVar 1) wNil)))) (wVar 1) [1] (wItT (wVar 0)))) (wLst wNil))))
abbrev N_check_rule : List Str := ["rule"]
def W_check_rule  : DWS := (wIfS (wNot (wT (wFn c_is_rule (wCons (wVar 0) wNil)))) wNever wNx)
abbrev N_clause_line : List Str := ["clause"]
def W_clause_line  : DWS := (wRet (w2 fAdd (w2 fAdd (wIf (wT (w2 fNe (w2 fIx (wVar 0) (wC (.int 0))) (wTup wNil))) (wJoin (wC (.str ", ")) (w2 fIx (wVar 0) (wC (.int 0)))) (wC (.str "always"))) (wC (.str ": "))) (w2 fIx (wVar 0) (wC (.int 1)))))
abbrev N_line_read : List Str := ["line", "parts", "tests", "clause"]
def W_line_read  : DWS := (wSeq (wSet 1 (wSplit (wVar 0) (wC (.str ": "))))
  (wSeq (wIfS (wT (w2 fNe (wCall fLen (wCons (wVar 1) wNil)) (wC (.int 2)))) (wRet (wC .none)) wNx)
  (wSeq (wSet 2 (wIf (wT (w2 fEq (w2 fIx (wVar 1) (wC (.int 0))) (wC (.str "always")))) (wTup wNil) (wCall fTuple (wCons (wSplit (w2 fIx (wVar 1) (wC (.int 0))) (wC (.str ", "))) wNil))))
  (wSeq (wSet 3 (wTup (wCons (wVar 2) (wCons (w2 fIx (wVar 1) (wC (.int 1))) wNil))))
  (wRet (wIf (wT (wFn c_is_clause (wCons (wVar 3) wNil))) (wVar 3) (wC .none)))))))
abbrev N_rule_text : List Str := ["rule", "clause"]
def W_rule_text  : DWS := (wSeq (wDrop (wFn c_check_rule (wCons (wVar 0) wNil)))
  (wRet (wJoin (wC (.str "\n")) (wOfF (wLc (.one 1) wYes (wFn c_clause_line (wCons (wVar 1) wNil)) [1] (wItT (wVar 0)))))))
abbrev N_read_rule : List Str := ["value", "clauses", "at", "line", "clause"]
def W_read_rule  : DWS := (wSeq (wIfS (wNot (wT (wIsi .str (wVar 0)))) wNever wNx)
  (wSeq (wNewM 1 (wLstF wNil))
  (wSeq (wFor (.tup [2, 3]) (wSeq (wSet 4 (wFn c_line_read (wCons (wVar 3) wNil)))
  (wSeq (wIfS (wOr (wT (wIsN false (wVar 4))) (wT (w2 fEq (wVar 2) (wC (.int 8))))) wNever wNx)
  (wAppS 1 (wVar 4)))) (wEnum (wIf (wT (w2 fNe (wVar 0) (wC (.str "")))) (wSplit (wVar 0) (wC (.str "\n"))) (wLst wNil))))
  (wFrz 1 (wRet (wCall fTuple (wCons (wVar 1) wNil)))))))
abbrev N_law_like : List Str := ["one", "two", "k"]
def W_law_like (n : Nat) : DWS := (wSeq (wIfS (wT (wIsi2 .list .tuple (wVar 0))) (wSeq (wIfS (wOr (wT (w2 fNe (wIsi .list (wVar 0)) (wIsi .list (wVar 1)))) (wT (w2 fNe (wIsi .tuple (wVar 0)) (wIsi .tuple (wVar 1))))) (wRet (wC (.bool false))) wNx)
  (wSeq (wIfS (wT (w2 fNe (wCall fLen (wCons (wVar 0) wNil)) (wCall fLen (wCons (wVar 1) wNil)))) (wRet (wC (.bool false))) wNx)
  (wRet (w2 fEq (wOfF (wLc (.one 2) (wNot (wT (wFn (c_like n) (wCons (w2 fIx (wVar 0) (wVar 2)) (wCons (w2 fIx (wVar 1) (wVar 2)) wNil))))) (wVar 2) [2] (wRng (wCall fLen (wCons (wVar 0) wNil))))) (wLst wNil))))) wNx)
  (wSeq (wIfS (wT (wIsi2 .list .tuple (wVar 1))) (wRet (wC (.bool false))) wNx)
  (wRet (wAndV (w2 fEq (wIsi .bool (wVar 0)) (wIsi .bool (wVar 1))) (w2 fEq (wVar 0) (wVar 1))))))
abbrev N_law_of : List Str := ["tape", "some"]
def W_law_of  : DWS := (wRet (w2 fIx (wVar 1) (wFnT 0 c_draw (wCons (wCall fLen (wCons (wVar 1) wNil)) wNil))))
abbrev N_law_tests : List Str := []
def W_law_tests  : DWS := (wRet (wLst (wCons (wC (.str "changed")) (wCons (wC (.str "fresh")) (wCons (wC (.str "house none")) (wCons (wC (.str "house open")) (wCons (wC (.str "house ticked")) (wCons (wC (.str "own none")) (wCons (wC (.str "own open")) (wCons (wC (.str "own ticked")) wNil))))))))))
abbrev N_law_deeds : List Str := []
def W_law_deeds  : DWS := (wRet (wLst (wCons (wC (.str "house")) (wCons (wC (.str "leave")) (wCons (wC (.str "none")) (wCons (wC (.str "open")) (wCons (wC (.str "own")) (wCons (wC (.str "ticked")) wNil))))))))
abbrev N_law_clause : List Str := ["tape", "tests", "turn"]
def W_law_clause  : DWS := (wSeq (wSet 1 (wTup wNil))
  (wSeq (wFor (.one 2) (wSet 1 (w2 fAdd (wVar 1) (wTup (wCons (w2 fAdd (wFnT 0 c_of (wCons (wLst (wCons (wC (.str "")) (wCons (wC (.str "")) (wCons (wC (.str "no ")) wNil)))) wNil)) (wFnT 0 c_of (wCons (wFn c_tests wNil) wNil))) wNil)))) (wRng (wFnT 0 c_of (wCons (wLst (wCons (wC (.int 0)) (wCons (wC (.int 1)) (wCons (wC (.int 1)) (wCons (wC (.int 1)) (wCons (wC (.int 2)) (wCons (wC (.int 2)) (wCons (wC (.int 3)) wNil)))))))) wNil))))
  (wRet (wTup (wCons (wVar 1) (wCons (wFnT 0 c_of (wCons (w2 fAdd (wLst (wCons (wC (.str "house")) (wCons (wC (.str "house")) (wCons (wC (.str "own")) (wCons (wC (.str "own")) wNil))))) (wFn c_deeds wNil)) wNil)) wNil))))))
abbrev N_law_rule : List Str := ["tape", "most", "known", "course", "found", "at", "turn"]
def W_law_rule  : DWS := (wSeq (wNewM 2 (wLstF (wCons (wTup (wCons (wTup (wCons (wTup (wCons (wC (.str "changed")) wNil)) (wCons (wC (.str "own")) wNil))) (wCons (wTup (wCons (wTup wNil) (wCons (wC (.str "house")) wNil))) wNil))) (wCons (wTup (wCons (wTup (wCons (wTup wNil) (wCons (wC (.str "house")) wNil))) wNil)) (wCons (wTup (wCons (wTup (wCons (wTup wNil) (wCons (wC (.str "own")) wNil))) wNil)) (wCons (wTup wNil) wNil))))))
  (wSeq (wAppS 2 (wTup (wCons (wTup (wCons (wTup (wCons (wC (.str "changed")) (wCons (wC (.str "fresh")) wNil))) (wCons (wC (.str "own")) wNil))) (wCons (wTup (wCons (wTup (wCons (wC (.str "own open")) wNil)) (wCons (wC (.str "open")) wNil))) (wCons (wTup (wCons (wTup wNil) (wCons (wC (.str "house")) wNil))) wNil)))))
  (wSeq (wAppS 2 (wTup (wCons (wTup (wCons (wTup (wCons (wC (.str "own open")) (wCons (wC (.str "changed")) wNil))) (wCons (wC (.str "open")) wNil))) (wCons (wTup (wCons (wTup (wCons (wC (.str "house ticked")) wNil)) (wCons (wC (.str "house")) wNil))) (wCons (wTup (wCons (wTup (wCons (wC (.str "changed")) wNil)) (wCons (wC (.str "own")) wNil))) wNil)))))
  (wSeq (wAppS 2 (wTup (wCons (wTup (wCons (wTup (wCons (wC (.str "no changed")) wNil)) (wCons (wC (.str "house")) wNil))) (wCons (wTup (wCons (wTup (wCons (wC (.str "own ticked")) wNil)) (wCons (wC (.str "ticked")) wNil))) (wCons (wTup (wCons (wTup (wCons (wC (.str "house none")) wNil)) (wCons (wC (.str "own")) wNil))) wNil)))))
  (wSeq (wSet 3 (wFnT 0 c_draw (wCons (wC (.int 4)) wNil)))
  (wSeq (wIfS (wT (w2 fEq (wVar 3) (wC (.int 0)))) (wRet (wCall fTuple (wCons (wOfF (wLc (.one 6) wYes (wFnT 0 c_clause wNil) [6] (wRng (wFnT 0 c_draw (wCons (w2 fAdd (wVar 1) (wC (.int 1))) wNil))))) wNil))) wNx)
  (wSeq (wFrz 2 (wSet 4 (wFnT 0 c_of (wCons (wVar 2) wNil))))
  (wSeq (wSet 5 (wFnT 0 c_draw (wCons (w2 fAdd (wCall fLen (wCons (wVar 4) wNil)) (wC (.int 1))) wNil)))
  (wSeq (wIfS (wT (w2 fLt (wVar 3) (wC (.int 3)))) (wSet 4 (w2 fAdd (w2 fAdd (wSl (wVar 4) wNo (wPart (wVar 5))) (wTup (wCons (wFnT 0 c_clause wNil) wNil))) (wSl (wVar 4) (wPart (w2 fSub (w2 fAdd (wVar 5) (wVar 3)) (wC (.int 1)))) wNo))) wNx)
  (wRet (wSl (wVar 4) wNo (wPart (wVar 1)))))))))))))
abbrev N_lawk13 : List Str := ["script", "tape", "turn", "rule", "lines", "tests", "deed", "text", "k"]
def W_lawk13  : DWS := (wSeq (wFor (.one 2) (wSeq (wSet 3 (w2 fAdd (wFnT 1 c_rule (wCons (wC (.int 5)) wNil)) (wCall fTuple (wCons (wOfF (wLc (.one 8) wYes (wFnT 1 c_clause wNil) [8] (wRng (wFnT 1 c_draw (wCons (wC (.int 4)) wNil))))) wNil))))
  (wSeq (wNewM 4 (wLstF wNil))
  (wSeq (wFor (.tup [5, 6]) (wAppS 4 (w2 fAdd (w2 fAdd (wIf (wT (w2 fEq (wVar 5) (wTup wNil))) (wC (.str "always")) (wJoin (wC (.str ", ")) (wVar 5))) (wC (.str ": "))) (wVar 6))) (wItT (wVar 3)))
  (wSeq (wFrz 4 (wSet 7 (wJoin (wC (.str "\n")) (wVar 4))))
  (wIfS (wOr (wT (w2 fNe (wFn c_rule_text (wCons (wVar 3) wNil)) (wVar 7))) (wNot (wT (wFn (c_like 4) (wCons (wFn c_read_rule (wCons (wVar 7) wNil)) (wCons (wVar 3) wNil)))))) (wRet (wC (.bool false))) wNx))))) (wRng (wC (.int 15))))
  (wRet (wAndV (w2 fEq (wFn c_rule_text (wCons (wTup wNil) wNil)) (wC (.str ""))) (w2 fEq (wFn c_read_rule (wCons (wC (.str "")) wNil)) (wTup wNil)))))
end DL

namespace DL
open PySem PySem.Spec L2
/-! ### good data -/
mutual
theorem okD_lay : ∀ d : PyData, okD d = true → d.canLay0 = true
  | .none, _ => by simp only [PyData.canLay0]
  | .bool _, _ => by simp only [PyData.canLay0]
  | .int _, _ => by simp only [PyData.canLay0]
  | .str z, h => by
    simp only [PyData.canLay0]
    simp only [okD, okS, Bool.and_eq_true] at h
    exact h.1
  | .list xs, h => by
    simp only [PyData.canLay0]
    simp only [okD, Bool.and_eq_true] at h
    exact okDs_lay xs h.1
  | .tuple xs, h => by
    simp only [PyData.canLay0]
    simp only [okD, Bool.and_eq_true] at h
    exact okDs_lay xs h.1
  | .dict _, h => by simp [okD] at h
theorem okDs_lay : ∀ xs : List PyData, okDs xs = true → PyData.canLayAll0 xs = true
  | [], _ => by simp only [PyData.canLayAll0]
  | x :: xs, h => by
    simp only [okDs, Bool.and_eq_true] at h
    simp only [PyData.canLayAll0, Bool.and_eq_true]
    exact ⟨okD_lay x h.1, okDs_lay xs h.2⟩
end
theorem okDs_mem : ∀ {xs : List PyData}, okDs xs = true ↔ ∀ x ∈ xs, okD x = true
  | [] => by simp [okDs]
  | x :: xs => by
    rw [okDs, Bool.and_eq_true, okDs_mem (xs := xs)]
    simp
theorem lays_mem : ∀ {xs : List PyData}, PyData.canLayAll0 xs = true ↔ ∀ x ∈ xs, x.canLay0 = true
  | [] => by simp [PyData.canLayAll0]
  | x :: xs => by
    rw [PyData.canLayAll0, Bool.and_eq_true, lays_mem (xs := xs)]
    simp
theorem depthAll_le : ∀ {xs : List PyData} {n : Nat}, PyData.depthAll xs ≤ n ↔ ∀ x ∈ xs, x.depth ≤ n
  | [], n => by simp [PyData.depthAll]
  | x :: xs, n => by
    rw [PyData.depthAll, Nat.max_le, depthAll_le (xs := xs)]
    simp
theorem good_shaped {d : PyData} (h : goodD d = true) : SeqAt.shaped d = true := by
  unfold goodD at h
  rw [Bool.and_eq_true, decide_eq_true_eq] at h
  exact shaped_of (okD_lay d h.1) (by omega)
theorem good_tup {xs : List PyData} (h : goodD (.tuple xs) = true) : (∀ x ∈ xs, goodD x = true) ∧ xs.length ≤ 100000 := by
  unfold goodD at h
  rw [Bool.and_eq_true, decide_eq_true_eq] at h
  obtain ⟨h1, h2⟩ := h
  simp only [okD, Bool.and_eq_true, decide_eq_true_eq] at h1
  simp only [PyData.depth] at h2
  refine ⟨fun x hx => ?_, h1.2⟩
  unfold goodD
  rw [Bool.and_eq_true, decide_eq_true_eq]
  exact ⟨okDs_mem.mp h1.1 x hx, depthAll_le.mp (by omega : PyData.depthAll xs ≤ 60) x hx⟩
theorem good_list {xs : List PyData} (h : goodD (.list xs) = true) : (∀ x ∈ xs, goodD x = true) ∧ xs.length ≤ 100000 := by
  unfold goodD at h
  rw [Bool.and_eq_true, decide_eq_true_eq] at h
  obtain ⟨h1, h2⟩ := h
  simp only [okD, Bool.and_eq_true, decide_eq_true_eq] at h1
  simp only [PyData.depth] at h2
  refine ⟨fun x hx => ?_, h1.2⟩
  unfold goodD
  rw [Bool.and_eq_true, decide_eq_true_eq]
  exact ⟨okDs_mem.mp h1.1 x hx, depthAll_le.mp (by omega : PyData.depthAll xs ≤ 60) x hx⟩
theorem good_str {z : Str} (h : goodD (.str z) = true) : okS z = true := by
  unfold goodD at h
  rw [Bool.and_eq_true] at h
  simpa [okD] using h.1
theorem okS_ok {z : Str} (h : okS z = true) : PyData.strOk z = true := by
  unfold okS at h; rw [Bool.and_eq_true] at h; exact h.1
theorem okS_len {z : Str} (h : okS z = true) : z.length ≤ 50000 := by
  unfold okS at h; rw [Bool.and_eq_true, decide_eq_true_eq] at h; exact h.2
theorem okS_line {z : Str} (h : okS z = true) : z.length ≤ sizeLine := by
  rw [line24]; exact Nat.le_trans (okS_len h) (by decide)
/-- a list of items of good data -/
theorem shaped_items {xs : List PyData} (h : ∀ x ∈ xs, goodD x = true) : SeqAt.shaped (.list xs) = true := by
  refine shaped_of ?_ ?_
  · simp only [PyData.canLay0]
    refine lays_mem.mpr fun x hx => ?_
    have := h x hx
    unfold goodD at this
    rw [Bool.and_eq_true] at this
    exact okD_lay x this.1
  · simp only [PyData.depth]
    have : PyData.depthAll xs ≤ 60 := depthAll_le.mpr fun x hx => by
      have := h x hx
      unfold goodD at this
      rw [Bool.and_eq_true, decide_eq_true_eq] at this
      exact this.2
    omega
theorem strOk_mem {z : Str} : PyData.strOk z = true ↔ ∀ c ∈ z.cps.toList, c < 0x110000 := by
  unfold PyData.strOk
  rw [Array.all_eq_true']
  simp
theorem cutS_mem {z : Str} {lo hi : Option Int} {c : Nat} (h : c ∈ (cutS z lo hi).cps.toList) : c ∈ z.cps.toList := by
  unfold cutS at h
  have h' : c ∈ (List.take (HT.sIx z.length z.length hi - HT.sIx z.length 0 lo) (List.drop (HT.sIx z.length 0 lo) z.cps.toList)) := by simpa using h
  exact List.mem_of_mem_drop (List.mem_of_mem_take h')
theorem cutS_ok {z : Str} (lo hi : Option Int) (h : PyData.strOk z = true) : PyData.strOk (cutS z lo hi) = true := strOk_mem.mpr fun c hc => strOk_mem.mp h c (cutS_mem hc)

/-! ### the words evaluated -/
theorem vc_is_test : ∀ ds Q Y, c_is_test ds Q Y → ds.length = ["value"].length ∧ W_is_test (startD N_is_test ds) (fun _ => Q .none) Q Y := by
  rintro ds Q Y ⟨d, rfl, g, q⟩
  refine ⟨rfl, ?_⟩
  unfold W_is_test
  cases d with
  | str z =>
    have hz := good_str g
    have h1 := okS_line hz
    have h2 := shaped_str (cutS_ok none (some 3) (okS_ok hz))
    have h3 : SeqAt.shaped (.str (Str.ofString "no ")) = true := by decide +kernel
    simp [flat_strs, any_strs, h1, h2, h3, eqv_ss]
    unfold isTest isTestS inL at q
    by_cases c1 : z ∈ testsL
    · simpa [c1] using q
    · by_cases c2 : cutS z none (some 3) = Str.ofString "no "
      · simpa [c1, c2] using q
      · simpa [c1, c2] using q
  | _ => simpa [isTest] using q
theorem filter_all {α : Type} (p : α → Bool) : ∀ l : List α, (l.filter fun x => !p x).isEmpty = l.all p
  | [] => rfl
  | x :: l => by
    have ih := filter_all p l
    by_cases h : p x = true
    · rw [List.filter_cons_of_neg (by simp [h]), List.all_cons, h, ih]; rfl
    · rw [List.filter_cons_of_pos (by simp [h]), List.all_cons]
      simp [h]
theorem isClause_pair (ts : List PyData) (b : PyData) : isClause (.tuple [.tuple ts, b]) = (decide (ts.length ≤ 3) && ts.all isTest && isDeed b) := rfl
theorem isRule_tup (ts : List PyData) : isRule (.tuple ts) = (decide (ts.length ≤ 8) && ts.all isClause) := rfl
theorem vc_is_clause : ∀ ds Q Y, c_is_clause ds Q Y → ds.length = ["value"].length ∧ W_is_clause (startD N_is_clause ds) (fun _ => Q .none) Q Y := by
  rintro ds Q Y ⟨d, rfl, g, q⟩
  refine ⟨rfl, ?_⟩
  unfold W_is_clause
  cases d with
  | tuple xs =>
    obtain ⟨gi, gl⟩ := good_tup g
    match xs, gi, gl, q with
    | [], _, _, q => simpa [isClause, eqv_ii] using q
    | [a], _, _, q => simpa [isClause, eqv_ii] using q
    | a :: b :: c :: r, _, _, q =>
      have n2 : ¬ ((r.length : Int) + 1 + 1 + 1 = 2) := by omega
      have e : isClause (.tuple (a :: b :: c :: r)) = false := by cases a <;> rfl
      rw [e] at q
      simpa [eqv_ii, n2] using q
    | [a, b], gi, _, q =>
      cases a with
      | tuple ts =>
        obtain ⟨ti, tl⟩ := good_tup (gi (.tuple ts) List.mem_cons_self)
        have gb := gi b (by simp)
        rw [isClause_pair] at q
        by_cases h3 : 3 < ts.length
        · rw [decide_eq_false (by omega)] at q
          have h3' : (3 : Int) < ts.length := by omega
          simpa [eqv_ii, atI, ixN, h3'] using q
        · have h3' : ¬ (3 : Int) < ts.length := by omega
          rw [decide_eq_true (by omega), Bool.true_and] at q
          simp [eqv_ii, atI, ixN, h3']
          refine compW_fm (fun d => !isTest d) (fun d => d) (fun d hd Q Y q => ?_) (fun d hd _ Q Y q => ?_) (by rw [line24]; simp; omega) ?_
          · simp [c_is_test, ti d hd]
            simpa using q
          · simpa using q
          · simp only [List.nil_append, List.map_id']
            refine ⟨shaped_items fun x hx => ti x ((List.mem_filter.mp hx).1), ?_⟩
            rw [eqv_lnil, filter_all]
            by_cases ha : ts.all isTest = true
            · rw [ha] at q ⊢
              rw [Bool.true_and] at q
              cases b with
              | str z => 
                refine .inl ⟨rfl, ?_⟩
                simp [any_strs]
                refine ⟨by simpa using flat_strs deedsL, ?_⟩
                simpa [isDeed, inL] using q
              | _ => simpa [isDeed] using q
            · simp only [Bool.not_eq_true] at ha
              rw [ha] at q ⊢
              exact .inr ⟨rfl, q⟩
      | _ => simpa [isClause, eqv_ii, atI, ixN] using q
  | _ => simpa [isClause] using q
theorem vc_is_rule : ∀ ds Q Y, c_is_rule ds Q Y → ds.length = ["value"].length ∧ W_is_rule (startD N_is_rule ds) (fun _ => Q .none) Q Y := by
  rintro ds Q Y ⟨d, rfl, g, q⟩
  refine ⟨rfl, ?_⟩
  unfold W_is_rule
  cases d with
  | tuple xs =>
    obtain ⟨gi, gl⟩ := good_tup g
    rw [isRule_tup] at q
    by_cases h3 : 8 < xs.length
    · rw [decide_eq_false (by omega)] at q
      have h3' : (8 : Int) < xs.length := by omega
      simpa [h3'] using q
    · have h3' : ¬ (8 : Int) < xs.length := by omega
      rw [decide_eq_true (by omega), Bool.true_and] at q
      simp [h3']
      refine compW_fm (fun d => !isClause d) (fun d => d) (fun d hd Q Y q => ?_) (fun d hd _ Q Y q => ?_) (by rw [line24]; simp; omega) ?_
      · simp [c_is_clause, gi d hd]
        simpa using q
      · simpa using q
      · simp only [List.nil_append, List.map_id']
        refine ⟨shaped_items fun x hx => gi x ((List.mem_filter.mp hx).1), ?_⟩
        rw [eqv_lnil, filter_all]
        exact q
  | _ => simpa [isRule] using q
theorem vc_check_rule : ∀ ds Q Y, c_check_rule ds Q Y → ds.length = ["rule"].length ∧ W_check_rule (startD N_check_rule ds) (fun _ => Q .none) Q Y := by
  rintro ds Q Y ⟨d, rfl, g, h, q⟩
  refine ⟨rfl, ?_⟩
  unfold W_check_rule
  simpa [c_is_rule, g, h] using q
end DL

namespace DL
open PySem PySem.Spec L2
/-! ### tests, deeds, lines -/
def testsAll : List Str := testsL ++ testsL.map fun t => ("no " : Str) ++ t
theorem str_ext {a b : Str} (h : a.cps.toList = b.cps.toList) : a = b := by
  cases a; cases b
  congr 1
  exact Array.toList_inj.mp h
theorem app_cps (a b : Str) : (a ++ b).cps.toList = a.cps.toList ++ b.cps.toList := by
  show (a.cps ++ b.cps).toList = _
  simp
theorem len_cps (a : Str) : a.length = a.cps.toList.length := rfl
theorem cut_join (z : Str) (n : Nat) : cutS z none (some (n : Int)) ++ cutS z (some (n : Int)) none = z := by
  apply str_ext
  rw [app_cps]
  unfold cutS
  rw [HT.sIx_none, HT.sIx_none, HT.sIx_nat, HT.sIx_nat]
  simp only [List.drop_zero, Nat.sub_zero]
  show List.take (min n z.length) z.cps.toList ++ List.take (z.length - min n z.length) (List.drop (min n z.length) z.cps.toList) = _
  rw [List.take_of_length_le (l := List.drop _ _) (by rw [List.length_drop, ← len_cps]; exact Nat.le_refl _), List.take_append_drop]
theorem isTest_mem {z : Str} (h : isTestS z = true) : z ∈ testsAll := by
  unfold isTestS inL at h
  rw [Bool.or_eq_true, Bool.and_eq_true, decide_eq_true_eq, decide_eq_true_eq, decide_eq_true_eq] at h
  rcases h with h | ⟨h1, h2⟩
  · exact List.mem_append_left _ h
  · refine List.mem_append_right _ (List.mem_map.mpr ⟨_, h2, ?_⟩)
    have := cut_join z 3
    rw [show ((3 : Nat) : Int) = 3 from rfl, h1] at this
    exact this
theorem tests_facts : ∀ z ∈ testsAll, isTestS z = true ∧ z.length ≤ 20 ∧ PyData.strOk z = true ∧ 44 ∉ z.cps.toList ∧ 58 ∉ z.cps.toList ∧ 10 ∉ z.cps.toList ∧ z ≠ "always" ∧ z.length ≠ 0 := by decide +kernel
theorem deeds_facts : ∀ z ∈ deedsL, z.length ≤ 20 ∧ PyData.strOk z = true ∧ 44 ∉ z.cps.toList ∧ 58 ∉ z.cps.toList ∧ 10 ∉ z.cps.toList := by decide +kernel

/-! ### rules as data -/
theorem all_strs (p : PyData → Bool) (q : Str → Bool) (h : ∀ z, p (.str z) = q z) : ∀ l : List Str, (strsD l).all p = l.all q
  | [] => rfl
  | x :: l => by
    have ih := all_strs p q h l
    show (p (.str x) && (strsD l).all p) = (q x && l.all q)
    rw [ih, h]
theorem isClause_clD (c : Cl) : isClause (clD c) = okCl c := by
  show (decide ((strsD c.1).length ≤ 3) && (strsD c.1).all isTest && isDeed (.str c.2)) = _
  rw [all_strs isTest isTestS (fun _ => rfl)]
  unfold okCl strsD
  rw [List.length_map]
  rfl
theorem isRule_ruD (r : List Cl) : isRule (ruD r) = okRu r := by
  show (decide ((r.map clD).length ≤ 8) && (r.map clD).all isClause) = _
  rw [List.all_map, List.length_map]
  unfold okRu
  congr 2
  funext c
  exact isClause_clD c
structure ClOk (c : Cl) : Prop where
  n : c.1.length ≤ 3
  t : ∀ z ∈ c.1, z ∈ testsAll
  d : c.2 ∈ deedsL
theorem clOk {c : Cl} (h : okCl c = true) : ClOk c := by
  unfold okCl at h
  rw [Bool.and_eq_true, Bool.and_eq_true, decide_eq_true_eq, List.all_eq_true] at h
  refine ⟨h.1.1, fun z hz => isTest_mem (h.1.2 z hz), ?_⟩
  have := h.2
  unfold inL at this
  exact of_decide_eq_true this
theorem ruOk {r : List Cl} (h : okRu r = true) : r.length ≤ 8 ∧ ∀ c ∈ r, okCl c = true := by
  unfold okRu at h
  rw [Bool.and_eq_true, decide_eq_true_eq, List.all_eq_true] at h
  exact h
theorem goodD_of {d : PyData} (h1 : okD d = true) (h2 : d.depth ≤ 60) : goodD d = true := by
  unfold goodD; rw [h1, decide_eq_true h2]; rfl
theorem okD_strs {l : List Str} (h : ∀ z ∈ l, okS z = true) : okDs (strsD l) = true := okDs_mem.mpr fun x hx => by
  obtain ⟨z, hz, rfl⟩ := List.mem_map.mp hx
  simp only [okD]; exact h z hz
theorem depth_strs (l : List Str) : PyData.depthAll (strsD l) = 0 := by
  have : PyData.depthAll (strsD l) ≤ 0 := depthAll_le.mpr fun x hx => by
    obtain ⟨z, hz, rfl⟩ := List.mem_map.mp hx
    simp only [PyData.depth]; exact Nat.le_refl _
  omega
theorem okS_of {z : Str} (h1 : PyData.strOk z = true) (h2 : z.length ≤ 50000) : okS z = true := by
  unfold okS; rw [h1, decide_eq_true h2]; rfl
theorem test_okS {z : Str} (h : z ∈ testsAll) : okS z = true := okS_of (tests_facts z h).2.2.1 (Nat.le_trans (tests_facts z h).2.1 (by decide))
theorem deed_okS {z : Str} (h : z ∈ deedsL) : okS z = true := okS_of (deeds_facts z h).2.1 (Nat.le_trans (deeds_facts z h).1 (by decide))
theorem good_strs {l : List Str} (h : ∀ z ∈ l, okS z = true) (hl : l.length ≤ 100000) : goodD (.tuple (strsD l)) = true := by
  refine goodD_of ?_ ?_
  · simp only [okD, Bool.and_eq_true, decide_eq_true_eq]
    exact ⟨okD_strs h, by unfold strsD; rw [List.length_map]; exact hl⟩
  · simp only [PyData.depth]; rw [depth_strs]; decide
theorem okD_clD {c : Cl} (h : ClOk c) : okD (clD c) = true := by
  unfold clD
  simp only [okD, okDs, Bool.and_eq_true, decide_eq_true_eq]
  refine ⟨⟨⟨okD_strs fun z hz => test_okS (h.t z hz), ?_⟩, deed_okS h.d, trivial⟩, by simp⟩
  unfold strsD; rw [List.length_map]
  have := h.n
  omega
theorem depth_clD (c : Cl) : (clD c).depth = 2 := by
  unfold clD
  simp only [PyData.depth, PyData.depthAll, depth_strs]
  rfl
theorem good_clD {c : Cl} (h : ClOk c) : goodD (clD c) = true := goodD_of (okD_clD h) (by rw [depth_clD]; decide)
theorem good_ruD {r : List Cl} (h : okRu r = true) : goodD (ruD r) = true := by
  obtain ⟨h1, h2⟩ := ruOk h
  unfold ruD
  refine goodD_of ?_ ?_
  · simp only [okD, Bool.and_eq_true, decide_eq_true_eq]
    refine ⟨okDs_mem.mpr fun x hx => ?_, by rw [List.length_map]; omega⟩
    obtain ⟨c, hc, rfl⟩ := List.mem_map.mp hx
    exact okD_clD (clOk (h2 c hc))
  · simp only [PyData.depth]
    have : PyData.depthAll (r.map clD) ≤ 2 := depthAll_le.mpr fun x hx => by
      obtain ⟨c, hc, rfl⟩ := List.mem_map.mp hx
      rw [depth_clD]; exact Nat.le_refl _
    omega

/-! ### texts -/
theorem joinL_mem {S : List Nat} {c : Nat} : ∀ {ps : List (List Nat)}, c ∈ TL.joinL S ps → c ∈ S ∨ ∃ p ∈ ps, c ∈ p
  | [], h => by cases h
  | [p], h => .inr ⟨p, by simp, h⟩
  | p :: q :: r, h => by
    have h' : c ∈ p ++ (S ++ TL.joinL S (q :: r)) := h
    rcases List.mem_append.mp h' with h | h
    · exact .inr ⟨p, by simp, h⟩
    · rcases List.mem_append.mp h with h | h
      · exact .inl h
      · rcases joinL_mem h with h | ⟨p', hp, h⟩
        · exact .inl h
        · exact .inr ⟨p', List.mem_cons_of_mem _ hp, h⟩
theorem join_mem {y : Str} {ps : List Str} {c : Nat} (h : c ∈ (Txt.join y ps).cps.toList) : c ∈ y.cps.toList ∨ ∃ p ∈ ps, c ∈ p.cps.toList := by
  rw [TL.join_eq] at h
  have h' : c ∈ TL.tl (Str.join y ps) := h
  rw [TL.tl_join] at h'
  rcases joinL_mem h' with h | ⟨p, hp, h⟩
  · exact .inl h
  · obtain ⟨z, hz, rfl⟩ := List.mem_map.mp hp
    exact .inr ⟨z, hz, h⟩
theorem join_len (y : Str) (ps : List Str) : (Txt.join y ps).length ≤ (ps.map (·.length)).sum + ps.length * y.length := by
  rw [TL.join_eq]; exact StrLaws.join_length_le y ps
theorem sum_le {l : List Nat} {n : Nat} (h : ∀ x ∈ l, x ≤ n) : l.sum ≤ l.length * n := by
  induction l with
  | nil => simp
  | cons x l ih =>
    rw [List.sum_cons, List.length_cons, Nat.succ_mul]
    have := h x (by simp)
    have := ih fun y hy => h y (List.mem_cons_of_mem _ hy)
    omega
theorem join_two (y a b : Str) : Txt.join y [a, b] = a ++ y ++ b := by rw [TL.join_eq]; rfl
def clA (c : Cl) : Str := if c.1 = [] then ("always" : Str) else Txt.join ", " c.1
theorem clLine_eq (c : Cl) : clLine c = Txt.join ": " [clA c, c.2] := by rw [join_two]; rfl
theorem clA_mem {c : Cl} (h : ClOk c) {k : Nat} (hk : k ∈ (clA c).cps.toList) : k ≠ 58 ∧ k ≠ 10 ∧ k < 0x110000 := by
  unfold clA at hk
  split at hk
  · have : ∀ k ∈ (Str.ofString "always").cps.toList, k ≠ 58 ∧ k ≠ 10 ∧ k < 0x110000 := by decide +kernel
    exact this k hk
  · rcases join_mem hk with hk | ⟨p, hp, hk⟩
    · have : ∀ k ∈ (Str.ofString ", ").cps.toList, k ≠ 58 ∧ k ≠ 10 ∧ k < 0x110000 := by decide +kernel
      exact this k hk
    · obtain ⟨_, _, h3, _, h5, h6, _⟩ := tests_facts p (h.t p hp)
      exact ⟨fun e => h5 (e ▸ hk), fun e => h6 (e ▸ hk), strOk_mem.mp h3 k hk⟩
theorem clA_len {c : Cl} (h : ClOk c) : (clA c).length ≤ 100 := by
  unfold clA
  split
  · decide +kernel
  · have h1 := join_len ", " c.1
    have h2 : (c.1.map (·.length)).sum ≤ (c.1.map (·.length)).length * 20 := sum_le fun x hx => by
      obtain ⟨z, hz, rfl⟩ := List.mem_map.mp hx
      exact (tests_facts z (h.t z hz)).2.1
    have h3 : (Str.ofString ", ").length = 2 := by decide +kernel
    rw [List.length_map] at h2
    have := h.n
    have e : c.1.length * (Str.ofString ", ").length = c.1.length * 2 := by rw [h3]
    have h1' : (Txt.join (Str.ofString ", ") c.1).length ≤ (c.1.map (·.length)).sum + c.1.length * (Str.ofString ", ").length := h1
    omega
theorem clA_split {c : Cl} (h : ClOk c) (hn : c.1 ≠ []) : clA c ≠ ("always" : Str) ∧ Txt.split (clA c) (", " : Str) = c.1 := by
  have e : clA c = Txt.join ", " c.1 := by unfold clA; rw [if_neg hn]
  have sp : Txt.split (Txt.join (", " : Str) c.1) (", " : Str) = c.1 := TL.split_join (s := 44) (S := [32]) rfl (by decide +kernel) hn fun p hp => (tests_facts p (h.t p hp)).2.2.2.1
  refine ⟨fun z => ?_, by rw [e]; exact sp⟩
  rw [e] at z
  rw [z] at sp
  have e2 : Txt.split (Str.ofString "always") (Str.ofString ", ") = [Str.ofString "always"] := by decide +kernel
  rw [e2] at sp
  have := (tests_facts (Str.ofString "always") (h.t _ (by rw [← sp]; simp))).2.2.2.2.2.2.1
  exact this rfl
theorem clLine_split {c : Cl} (h : ClOk c) : Txt.split (clLine c) (": " : Str) = [clA c, c.2] := by
  rw [clLine_eq]
  refine TL.split_join (s := 58) (S := [32]) rfl (by decide +kernel) (by simp) fun p hp => ?_
  rcases List.mem_cons.mp hp with rfl | hp
  · exact fun hk => (clA_mem h hk).1 rfl
  · rw [List.mem_singleton.mp hp]
    exact (deeds_facts c.2 h.d).2.2.2.1
theorem lineRead_cl {c : Cl} (h : okCl c = true) : lineRead (clLine c) = clD c := by
  have k := clOk h
  unfold lineRead
  rw [clLine_split k]
  have e : (if clA c = ("always" : Str) then [] else strsD (Txt.split (clA c) ", ")) = strsD c.1 := by
    by_cases hn : c.1 = []
    · have : clA c = ("always" : Str) := by unfold clA; rw [if_pos hn]
      rw [if_pos this, hn]; rfl
    · obtain ⟨h1, h2⟩ := clA_split k hn
      rw [if_neg h1, h2]
  show (if isClause (.tuple [.tuple (if clA c = ("always" : Str) then [] else strsD (Txt.split (clA c) ", ")), .str c.2]) = true then _ else _) = _
  rw [e]
  show (if isClause (clD c) = true then clD c else PyData.none) = clD c
  rw [isClause_clD, h, if_pos rfl]
theorem clLine_mem {c : Cl} (h : ClOk c) {k : Nat} (hk : k ∈ (clLine c).cps.toList) : k ≠ 10 ∧ k < 0x110000 := by
  rw [clLine_eq] at hk
  rcases join_mem hk with hk | ⟨p, hp, hk⟩
  · have : ∀ k ∈ (Str.ofString ": ").cps.toList, k ≠ 10 ∧ k < 0x110000 := by decide +kernel
    exact this k hk
  · rcases List.mem_cons.mp hp with rfl | hp
    · exact (clA_mem h hk).2
    · rw [List.mem_singleton.mp hp] at hk
      obtain ⟨_, h2, _, _, h5⟩ := deeds_facts c.2 h.d
      exact ⟨fun e => h5 (e ▸ hk), strOk_mem.mp h2 k hk⟩
theorem clLine_len {c : Cl} (h : ClOk c) : (clLine c).length ≤ 200 ∧ 2 ≤ (clLine c).length := by
  have h1 := clA_len h
  have h2 := (deeds_facts c.2 h.d).1
  have e : (clLine c).length = (clA c).length + 2 + c.2.length := by
    show ((clA c) ++ (": " : Str) ++ c.2).length = _
    rw [len_cps, app_cps, app_cps, List.length_append, List.length_append]
    rfl
  omega
theorem clLine_ok {c : Cl} (h : ClOk c) : okS (clLine c) = true := okS_of (strOk_mem.mpr fun k hk => (clLine_mem h hk).2) (by have := (clLine_len h).1; omega)
theorem ruText_ok {r : List Cl} (h : okRu r = true) : okS (ruText r) = true := by
  obtain ⟨h1, h2⟩ := ruOk h
  refine okS_of (strOk_mem.mpr fun k hk => ?_) ?_
  · rcases join_mem hk with hk | ⟨p, hp, hk⟩
    · have : ∀ k ∈ (Str.ofString "\n").cps.toList, k < 0x110000 := by decide +kernel
      exact this k hk
    · obtain ⟨c, hc, rfl⟩ := List.mem_map.mp hp
      exact (clLine_mem (clOk (h2 c hc)) hk).2
  · have h3 : (ruText r).length ≤ ((r.map clLine).map (·.length)).sum + (r.map clLine).length * (Str.ofString "\n").length := join_len "\n" (r.map clLine)
    have h4 : ((r.map clLine).map (·.length)).sum ≤ ((r.map clLine).map (·.length)).length * 200 := sum_le fun x hx => by
      obtain ⟨z, hz, rfl⟩ := List.mem_map.mp hx
      obtain ⟨c, hc, rfl⟩ := List.mem_map.mp hz
      exact (clLine_len (clOk (h2 c hc))).1
    have h5 : (Str.ofString "\n").length = 1 := by decide +kernel
    rw [h5] at h3
    rw [List.length_map, List.length_map] at h4
    rw [List.length_map] at h3
    omega
theorem ruText_lines {r : List Cl} (h : okRu r = true) : (if ruText r ≠ ("" : Str) then Txt.split (ruText r) ("\n" : Str) else []) = r.map clLine := by
  obtain ⟨h1, h2⟩ := ruOk h
  by_cases hr : r = []
  · subst hr
    have : ruText [] = ("" : Str) := rfl
    rw [this, if_neg (by simp)]
    rfl
  · have sp : Txt.split (ruText r) ("\n" : Str) = r.map clLine := TL.split_join (s := 10) (S := []) rfl (by decide +kernel) (by simp [hr]) fun p hp => by
      obtain ⟨c, hc, rfl⟩ := List.mem_map.mp hp
      exact fun hk => (clLine_mem (clOk (h2 c hc)) hk).1 rfl
    have ne : ruText r ≠ ("" : Str) := fun e => by
      rw [e] at sp
      have e2 : Txt.split (Str.ofString "") (Str.ofString "\n") = [Str.ofString ""] := by decide +kernel
      rw [e2] at sp
      have hm : (Str.ofString "") ∈ r.map clLine := by rw [← sp]; simp
      obtain ⟨c, hc, hz⟩ := List.mem_map.mp hm
      have := (clLine_len (clOk (h2 c hc))).2
      rw [hz] at this
      exact absurd this (by decide +kernel)
    rw [if_pos ne, sp]
end DL

namespace DL
open PySem PySem.Spec L2
theorem spl_mem {S : List Nat} : ∀ {L acc : List Nat} {k : Nat} {p : List Nat}, p ∈ TL.spl S k acc L → (∀ c ∈ p, c ∈ acc ∨ c ∈ L) ∧ p.length ≤ acc.length + L.length
  | [], acc, k, p, h => by
    rw [TL.spl_nil] at h
    rw [List.mem_singleton.mp h]
    exact ⟨fun c hc => .inl hc, by simp⟩
  | c :: L, acc, 0, p, h => by
    have h' : p ∈ (if TL.pre S (c :: L) = true then acc :: TL.spl S (S.length - 1) [] L else TL.spl S 0 (acc ++ [c]) L) := h
    split at h'
    · rcases List.mem_cons.mp h' with rfl | h'
      · exact ⟨fun c hc => .inl hc, by simp⟩
      · obtain ⟨h1, h2⟩ := spl_mem h'
        refine ⟨fun d hd => ?_, by simp at h2 ⊢; omega⟩
        rcases h1 d hd with z | z
        · cases z
        · exact .inr (List.mem_cons_of_mem _ z)
    · obtain ⟨h1, h2⟩ := spl_mem h'
      refine ⟨fun d hd => ?_, by simp at h2 ⊢; omega⟩
      rcases h1 d hd with z | z
      · rcases List.mem_append.mp z with z | z
        · exact .inl z
        · exact .inr (by rw [List.mem_singleton.mp z]; simp)
      · exact .inr (List.mem_cons_of_mem _ z)
  | c :: L, acc, k + 1, p, h => by
    obtain ⟨h1, h2⟩ := spl_mem (L := L) (acc := acc) (k := k) h
    refine ⟨fun d hd => ?_, by simp at h2 ⊢; omega⟩
    rcases h1 d hd with z | z
    · exact .inl z
    · exact .inr (List.mem_cons_of_mem _ z)
theorem spl_count {S : List Nat} : ∀ {L acc : List Nat} {k : Nat}, (TL.spl S k acc L).length ≤ L.length + 1
  | [], acc, k => by rw [TL.spl_nil]; simp
  | c :: L, acc, 0 => by
    show (if TL.pre S (c :: L) = true then acc :: TL.spl S (S.length - 1) [] L else TL.spl S 0 (acc ++ [c]) L).length ≤ _
    split
    · rw [List.length_cons, List.length_cons]
      have := spl_count (S := S) (L := L) (acc := []) (k := S.length - 1)
      omega
    · have := spl_count (S := S) (L := L) (acc := acc ++ [c]) (k := 0)
      rw [List.length_cons]; omega
  | c :: L, acc, k + 1 => by
    show (TL.spl S k acc L).length ≤ _
    have := spl_count (S := S) (L := L) (acc := acc) (k := k)
    rw [List.length_cons]; omega
theorem split_ok {z y : Str} (hz : okS z = true) (hy : TL.tl y ≠ []) (hk : y.cps.all (· < 256) = true) : (∀ p ∈ Txt.split z y, okS p = true) ∧ (Txt.split z y).length ≤ 50001 := by
  have e := TL.split_spl z y hy (TL.kind_ok hk)
  refine ⟨fun p hp => ?_, ?_⟩
  · have hm : TL.tl p ∈ TL.spl (TL.tl y) 0 [] (TL.tl z) := by rw [← e]; exact List.mem_map_of_mem hp
    obtain ⟨h1, h2⟩ := spl_mem hm
    refine okS_of (strOk_mem.mpr fun c hc => ?_) ?_
    · rcases h1 c hc with q | q
      · cases q
      · exact strOk_mem.mp (okS_ok hz) c q
    · have := okS_len hz
      rw [len_cps] at this ⊢
      have h2' : p.cps.toList.length ≤ 0 + z.cps.toList.length := by simpa using h2
      omega
  · have h3 : ((Txt.split z y).map TL.tl).length ≤ (TL.tl z).length + 1 := by rw [e]; exact spl_count
    rw [List.length_map] at h3
    have := okS_len hz
    rw [len_cps] at this
    have h3' : (Txt.split z y).length ≤ z.cps.toList.length + 1 := h3
    omega
theorem lenOf2 : (Str.ofString ": ").length = 2 := by decide +kernel
theorem vc_clause_line : ∀ ds Q Y, c_clause_line ds Q Y → ds.length = ["clause"].length ∧ W_clause_line (startD N_clause_line ds) (fun _ => Q .none) Q Y := by
  rintro ds Q Y ⟨c, rfl, h, q⟩
  refine ⟨rfl, ?_⟩
  have k := clOk h
  have hsh := good_shaped (good_strs (l := c.1) (fun z hz => test_okS (k.t z hz)) (by have := k.n; omega))
  unfold W_clause_line
  have e1 : clD c = .tuple [.tuple (strsD c.1), .str c.2] := rfl
  have hL := (clLine_len k).1
  have hA := clA_len k
  have hd := (deeds_facts c.2 k.d).1
  have hsum : (c.1.map (·.length)).sum + c.1.length * (Str.ofString ", ").length ≤ 16777216 := by
    have h2 : (c.1.map (·.length)).sum ≤ (c.1.map (·.length)).length * 20 := sum_le fun x hx => by
      obtain ⟨z, hz, rfl⟩ := List.mem_map.mp hx
      exact (tests_facts z (k.t z hz)).2.1
    have h3 : (Str.ofString ", ").length = 2 := by decide +kernel
    rw [List.length_map] at h2
    rw [h3]
    have := k.n
    omega
  rw [e1]
  simp [atI, ixN, hsh, eqv_tnil]
  unfold clLine at q
  unfold clA at hA
  have e3 : (strsD c.1).isEmpty = decide (c.1 = []) := by
    cases c.1 <;> simp [strsD]
  by_cases hn : c.1 = []
  · rw [if_pos hn] at q hA
    left
    refine ⟨by unfold strsD; rw [hn]; rfl, ?_, ?_, q⟩
    · rw [lenOf2, line24]; omega
    · rw [len_cps, app_cps, List.length_append, ← len_cps, ← len_cps, lenOf2, line24]; omega
  · rw [if_neg hn] at q hA
    right
    refine ⟨by unfold strsD; simpa using hn, c.1, rfl, hsum, ?_, ?_, q⟩
    · rw [lenOf2, line24]; omega
    · rw [len_cps, app_cps, List.length_append, ← len_cps, ← len_cps, lenOf2, line24]; omega
theorem no_len : ¬ (Str.ofString ": ").length = 0 ∧ ¬ (Str.ofString ", ").length = 0 ∧ ¬ (Str.ofString "\n").length = 0 := by decide +kernel
theorem sh_always : SeqAt.shaped (.str (Str.ofString "always")) = true := by decide +kernel
theorem line2 : 2 ≤ sizeLine := by rw [line24]; decide
theorem vc_line_read : ∀ ds Q Y, c_line_read ds Q Y → ds.length = ["line"].length ∧ W_line_read (startD N_line_read ds) (fun _ => Q .none) Q Y := by
  rintro ds Q Y ⟨z, rfl, h, q⟩
  refine ⟨rfl, ?_⟩
  unfold W_line_read
  obtain ⟨sp1, sp2⟩ := split_ok (y := (": " : Str)) h (by decide +kernel) (by decide +kernel)
  have hz := okS_len h
  unfold lineRead at q
  simp [atI, ixN]
  refine ⟨no_len.1, by rw [line24]; omega, ?_⟩
  generalize Txt.split z (Str.ofString ": ") = ps at *
  match ps, sp1, q with
  | [], _, q => simpa [eqv_ii, strsD] using q
  | [a], _, q => simpa [eqv_ii, strsD] using q
  | a :: b :: c :: r, _, q =>
    have n2 : ¬ ((r.length : Int) + 1 + 1 + 1 = 2) := by omega
    simpa [eqv_ii, strsD, n2] using q
  | [a, b], sp1, q =>
    have ha := sp1 a (by simp)
    have hb := sp1 b (by simp)
    simp [eqv_ii, strsD, shaped_str (okS_ok ha), sh_always, eqv_ss, line2]
    obtain ⟨sq1, sq2⟩ := split_ok (y := (", " : Str)) ha (by decide +kernel) (by decide +kernel)
    have gc : ∀ l : List Str, (∀ p ∈ l, okS p = true) → l.length ≤ 50001 → goodD (.tuple [.tuple (strsD l), .str b]) = true := fun l h1 h2 => by
      refine goodD_of ?_ ?_
      · simp only [okD, okDs, Bool.and_eq_true, decide_eq_true_eq]
        refine ⟨⟨⟨okD_strs h1, by unfold strsD; rw [List.length_map]; omega⟩, hb, trivial⟩, by simp⟩
      · simp only [PyData.depth, PyData.depthAll, depth_strs]; decide
    by_cases hal : a = Str.ofString "always"
    · rw [if_pos hal]
      refine ⟨_, rfl, ?_, ?_⟩
      · exact gc [] (by simp) (by simp)
      · simp only [hal, if_true] at q
        by_cases hc : isClause (.tuple [.tuple [], .str b]) = true
        · rw [if_pos hc] at q
          exact .inr ⟨by rw [hc], q⟩
        · rw [if_neg hc] at q
          exact .inl ⟨by simpa using hc, q⟩
    · rw [if_neg hal]
      refine ⟨no_len.2.1, by have := okS_len ha; rw [line24]; omega, _, rfl, gc _ sq1 sq2, ?_⟩
      simp only [hal, if_false] at q
      by_cases hc : isClause (.tuple [.tuple (strsD (Txt.split a (Str.ofString ", "))), .str b]) = true
      · rw [if_pos hc] at q
        exact .inr ⟨by rw [← hc]; rfl, q⟩
      · rw [if_neg hc] at q
        exact .inl ⟨by simpa [strsD] using hc, q⟩
theorem vc_rule_text : ∀ ds Q Y, c_rule_text ds Q Y → ds.length = ["rule"].length ∧ W_rule_text (startD N_rule_text ds) (fun _ => Q .none) Q Y := by
  rintro ds Q Y ⟨r, rfl, h, q⟩
  refine ⟨rfl, ?_⟩
  obtain ⟨h1, h2⟩ := ruOk h
  unfold W_rule_text
  simp [c_check_rule, good_ruD h, isRule_ruD, h]
  refine ⟨_, rfl, ?_⟩
  have e : (r.map clLine).map PyData.str = ((r.map clD).filter fun _ => true).map fun d => match d with | .tuple [.tuple ts, .str e] => .str (clLine (ts.map (fun t => match t with | .str z => z | _ => ""), e)) | _ => .none := by
    rw [List.filter_eq_self.mpr (by simp), List.map_map, List.map_map]
    refine List.map_congr_left fun c hc => ?_
    show PyData.str (clLine c) = .str (clLine ((strsD c.1).map _, c.2))
    congr 2
    unfold strsD
    rw [List.map_map]
    cases c with
    | mk a b =>
      show (a, b) = (_, b)
      congr 1
      exact (List.map_id'' (fun _ => rfl) a).symm
  refine compW_fm (fun _ => true) (fun d => match d with | .tuple [.tuple ts, .str e] => .str (clLine (ts.map (fun t => match t with | .str z => z | _ => ""), e)) | _ => .none) (fun d hd Q Y q => q) (fun d hd _ Q Y q => ?_) (by rw [line24]; simp; omega) ?_
  · obtain ⟨c, hc, rfl⟩ := List.mem_map.mp hd
    simp [c_clause_line]
    refine ⟨c.1, c.2, rfl, h2 c hc, ?_⟩
    have e : (PyData.str (clLine c)) = (match clD c with | .tuple [.tuple ts, .str e] => .str (clLine (ts.map (fun t => match t with | .str z => z | _ => ""), e)) | _ => .none) := by
      show PyData.str (clLine c) = .str (clLine ((strsD c.1).map _, c.2))
      congr 2
      unfold strsD
      rw [List.map_map]
      cases c with
      | mk a b =>
        show (a, b) = (_, b)
        congr 1
        exact (List.map_id'' (fun _ => rfl) a).symm
    rw [e]; exact q
  · rw [List.nil_append, ← e]
    refine ⟨r.map clLine, rfl, ?_, q⟩
    have h4 : ((r.map clLine).map (·.length)).sum ≤ ((r.map clLine).map (·.length)).length * 200 := sum_le fun x hx => by
      obtain ⟨z, hz, rfl⟩ := List.mem_map.mp hx
      obtain ⟨c, hc, rfl⟩ := List.mem_map.mp hz
      exact (clLine_len (clOk (h2 c hc))).1
    have h5 : (Str.ofString "\n").length = 1 := by decide +kernel
    rw [List.length_map, List.length_map] at h4
    rw [h5, List.length_map]
    omega
theorem wEnum_strs : ∀ (ls : List Str) (n : Nat), enumD n (strsD ls) = enumD n (strsD ls) := fun _ _ => rfl
theorem enum_at {ds pre post : List PyData} {n : Nat} {d : PyData} (h : enumD n ds = pre ++ d :: post) : ∃ x, ds[pre.length]? = some x ∧ d = .tuple [.int ((n + pre.length : Nat) : Int), x] := by
  have e : (enumD n ds)[pre.length]? = some d := by rw [h]; simp
  exact enumD_get ds n pre.length e
theorem sh_empty : SeqAt.shaped (.str (Str.ofString "")) = true := by decide +kernel
theorem clD_none (c : Cl) : noneD (clD c) = false := rfl
theorem take_next {α : Type} {l : List α} {i : Nat} {x : α} (h : l[i]? = some x) : l.take (i + 1) = l.take i ++ [x] := by
  rw [List.take_add_one, h]; rfl
theorem vc_read_rule : ∀ ds Q Y, c_read_rule ds Q Y → ds.length = ["value"].length ∧ W_read_rule (startD N_read_rule ds) (fun _ => Q .none) Q Y := by
  rintro ds Q Y ⟨r, rfl, h, q⟩
  refine ⟨rfl, ?_⟩
  obtain ⟨h1, h2⟩ := ruOk h
  have hok := ruText_ok h
  have hln := ruText_lines h
  have hz := okS_len hok
  unfold W_read_rule
  have body : ∀ lines : List Str, lines = r.map clLine → forW (.tup [2, 3]) (wSeq (wSet 4 (wFn c_line_read (wCons (wVar 3) wNil)))
      (wSeq (wIfS (wOr (wT (wIsN false (wVar 4))) (wT (w2 fEq (wVar 2) (wC (.int 8))))) wNever wNx) (wAppS 1 (wVar 4)))) (enumD 0 (strsD lines)) [.d (.str (ruText r)), .ml [], .un, .un, .un]
      (fun ρ => ∃ ds, ρ[1]? = some (.ml ds) ∧ wRet (wCall fTuple (wCons (wVar 1) wNil)) (ρ.set 1 (.d (.list ds))) (fun _ => Q .none) Q Y) Q Y := by
    intro lines el
    refine forW_from (fun pre ρ => ∃ s2 s3 s4, ρ = [.d (.str (ruText r)), .ml ((r.map clD).take pre.length), s2, s3, s4]) ⟨_, _, _, rfl⟩ ?_ ?_
    · rintro pre d post ρ e ⟨s2, s3, s4, rfl⟩ K hK
      obtain ⟨x, hx, rfl⟩ := enum_at e
      rw [el] at hx
      unfold strsD at hx
      rw [List.map_map, List.getElem?_map] at hx
      cases hc : r[pre.length]? with
      | none => rw [hc] at hx; cases hx
      | some c =>
        rw [hc] at hx
        cases hx
        have hm := List.mem_of_getElem? hc
        have hc2 := h2 c hm
        have hlt : pre.length < r.length := (List.getElem?_eq_some_iff.mp hc).1
        have n8 : ¬ ((pre.length : Int) = 8) := by omega
        simp [c_line_read, clLine_ok (clOk hc2), lineRead_cl hc2, clD_none, eqv_ii, n8]
        refine ⟨by rw [line24]; omega, hK _ ⟨.d (.int (pre.length : Int)), .d (.str (clLine c)), .d (clD c), ?_⟩⟩
        rw [List.length_append, List.length_singleton]
        have hcd : (r.map clD)[pre.length]? = some (clD c) := by rw [List.getElem?_map, hc]; rfl
        have tn := take_next hcd
        rw [tn]
    · rintro ρ ⟨s2, s3, s4, rfl⟩
      have e : (r.map clD).take (enumD 0 (strsD lines)).length = r.map clD := by
        rw [enumD_length, el]
        unfold strsD
        rw [List.length_map, List.length_map]
        exact List.take_of_length_le (by rw [List.length_map]; exact Nat.le_refl _)
      rw [e]
      simp
      exact q
  simp [shaped_str (okS_ok hok), sh_empty, eqv_ss]
  by_cases he : ruText r = Str.ofString ""
  · left
    refine ⟨he, ?_⟩
    have := body [] (by rw [← hln]; simp [he])
    simpa [strsD] using this
  · right
    refine ⟨he, no_len.2.2, by rw [line24]; omega, ?_⟩
    have := body _ (by rw [← hln, if_pos he])
    simpa using this
end DL

namespace DL
open PySem PySem.Spec L2
theorem vc_law_tests : ∀ ds Q Y, c_tests ds Q Y → ds.length = ([] : List Str).length ∧ W_law_tests (startD N_law_tests ds) (fun _ => Q .none) Q Y := by
  rintro ds Q Y ⟨rfl, q⟩
  refine ⟨rfl, ?_⟩
  unfold W_law_tests
  simp
  exact ⟨by rw [line24]; decide, q⟩
theorem vc_law_deeds : ∀ ds Q Y, c_deeds ds Q Y → ds.length = ([] : List Str).length ∧ W_law_deeds (startD N_law_deeds ds) (fun _ => Q .none) Q Y := by
  rintro ds Q Y ⟨rfl, q⟩
  refine ⟨rfl, ?_⟩
  unfold W_law_deeds
  simp
  exact ⟨by rw [line24]; decide, q⟩
theorem atI_mem {α : Type} {xs : List α} {i : Int} (h0 : 0 ≤ i) (h1 : i < xs.length) : ∃ x, atI xs i = some x ∧ x ∈ xs := by
  obtain ⟨n, rfl⟩ : ∃ n : Nat, i = (n : Int) := ⟨i.toNat, by omega⟩
  have hn : n < xs.length := by omega
  exact ⟨xs[n], atI_nat (by simp [hn]), List.getElem_mem hn⟩
theorem vc_law_of : ∀ ds Q Y, c_of ds Q Y → ds.length + 1 = ["tape", "some"].length ∧ W_law_of (startT N_law_of ds) (fun _ => Q .none) Q Y := by
  rintro ds Q Y ⟨xs, rfl, hn, hl, q⟩
  refine ⟨rfl, ?_⟩
  unfold W_law_of
  have hp := List.length_pos_iff.mpr hn
  simp [c_draw]
  refine ⟨by omega, Nat.lt_of_le_of_lt hl (by decide +kernel), fun r h0 h1 => ?_⟩
  obtain ⟨x, e, hx⟩ := atI_mem h0 h1
  exact ⟨x, e, q x hx⟩
theorem rng_int {lo : Int} {n : Nat} {d : PyData} (h : d ∈ rngD lo n) : ∃ k : Nat, k < n ∧ d = .int (lo + (k : Int)) := by
  unfold rngD at h
  obtain ⟨k, hk, rfl⟩ := List.mem_map.mp h
  exact ⟨k, List.mem_range.mp hk, rfl⟩
theorem rng_len {lo : Int} {n : Nat} : (rngD lo n).length = n := by unfold rngD; simp
theorem test_made : ∀ x ∈ [Str.ofString "", Str.ofString "", Str.ofString "no "], ∀ y ∈ testsL, x ++ y ∈ testsAll ∧ x.length + y.length ≤ 20 := by decide +kernel
theorem strsD_app (a b : List Str) : strsD (a ++ b) = strsD a ++ strsD b := by unfold strsD; rw [List.map_append]
theorem mem_strsD {l : List Str} {d : PyData} (h : d ∈ strsD l) : ∃ z ∈ l, d = .str z := by
  obtain ⟨z, hz, e⟩ := List.mem_map.mp h
  exact ⟨z, hz, e.symm⟩
theorem deed_made : ∀ x ∈ ([Str.ofString "house", Str.ofString "house", Str.ofString "own", Str.ofString "own"] ++ deedsL), x ∈ deedsL := by decide +kernel
theorem int_made {d : PyData} (h : d ∈ [PyData.int 0, .int 1, .int 1, .int 1, .int 2, .int 2, .int 3]) : ∃ n : Nat, n ≤ 3 ∧ d = .int (n : Int) := by
  simp at h
  rcases h with rfl | rfl | rfl | rfl
  · exact ⟨0, by decide, rfl⟩
  · exact ⟨1, by decide, rfl⟩
  · exact ⟨2, by decide, rfl⟩
  · exact ⟨3, by decide, rfl⟩
theorem vc_law_clause : ∀ ds Q Y, c_clause ds Q Y → ds.length + 1 = ["tape"].length ∧ W_law_clause (startT N_law_clause ds) (fun _ => Q .none) Q Y := by
  rintro ds Q Y ⟨rfl, q⟩
  refine ⟨rfl, ?_⟩
  have l10 : 7 ≤ sizeLine ∧ 4 ≤ sizeLine ∧ 3 ≤ sizeLine ∧ 1 ≤ sizeLine ∧ 2 ≤ sizeLine ∧ 10 ≤ sizeLine := by rw [line24]; decide
  unfold W_law_clause
  simp only [wSeq, wSet, wTup, wNil, startT, N_law_clause]
  refine ⟨Nat.zero_le _, ?_⟩
  simp only [wFor, wRng, wFnT, wCons, wLst, wC, wNil]
  refine ⟨rfl, l10.1, _, rfl, by simp, by simp, fun d hd => ?_⟩
  obtain ⟨n, hn, rfl⟩ := int_made hd
  refine ⟨_, rfl, by omega, by omega, ?_⟩
  refine forW_from (fun pre ρ => ∃ ts s2, ρ = [.tp, .d (.tuple (strsD ts)), s2] ∧ ts.length = pre.length ∧ ∀ z ∈ ts, z ∈ testsAll) ⟨[], _, rfl, rfl, by simp⟩ ?_ ?_
  · rintro pre d post ρ e ⟨ts, s2, rfl, hl, ht⟩ K hK
    have hlen : pre.length < 3 := by
      have := congrArg List.length e
      rw [rng_len, List.length_append, List.length_cons] at this
      omega
    simp [c_of]
    refine ⟨l10.2.2.1, ?_⟩
    have hts : (strsD testsL) ≠ [] ∧ (strsD testsL).length ≤ 1000000 := by decide +kernel
    have hsz : (strsD ts).length + 1 ≤ sizeLine := by unfold strsD; rw [List.length_map, hl, line24]; omega
    have step : ∀ x ∈ [Str.ofString "", Str.ofString "", Str.ofString "no "], ∀ d' ∈ strsD testsL, fAdd (.str x) d' fun d_2 => 1 ≤ sizeLine ∧ (strsD ts).length + 1 ≤ sizeLine ∧ K [SV.tp, SV.d (.tuple (strsD ts ++ [d_2])), SV.d d] := fun x hx d' hd' => by
      obtain ⟨y, hy, rfl⟩ := mem_strsD hd'
      obtain ⟨m1, m2⟩ := test_made x hx y hy
      rw [fAdd_str]
      refine ⟨by rw [line24]; omega, l10.2.2.2.1, hsz, hK _ ⟨ts ++ [x ++ y], .d d, ?_, ?_, ?_⟩⟩
      · rw [strsD_app]; rfl
      · rw [List.length_append, List.length_append, hl]; rfl
      · intro z hz
        rcases List.mem_append.mp hz with hz | hz
        · exact ht z hz
        · rw [List.mem_singleton.mp hz]; exact m1
    simp [c_tests]
    exact ⟨⟨by simpa using hts.1, hts.2, step _ (by simp)⟩, by simpa using hts.1, hts.2, step _ (by simp)⟩
  · rintro ρ ⟨ts, s2, rfl, hl, ht⟩
    rw [rng_len] at hl
    simp only [wRet, wTup, wCons, wVar, wFnT, w2, wLst, wC, wFn, wNil]
    refine ⟨rfl, ?_⟩
    simp [c_deeds, c_of]
    refine ⟨l10.2.1, by rw [line24]; decide, by decide, ?_⟩
    have fin : ∀ z ∈ deedsL, 2 ≤ sizeLine ∧ Q (.tuple [.tuple (strsD ts), .str z]) := fun z hz => by
      refine ⟨l10.2.2.2.2.1, q (ts, z) ?_⟩
      unfold okCl inL
      rw [decide_eq_true (by omega : ts.length ≤ 3), decide_eq_true hz, List.all_eq_true.mpr fun z hz => (tests_facts z (ht z hz)).1]
      rfl
    refine ⟨fin _ (by decide +kernel), fin _ (by decide +kernel), fun a ha => ?_⟩
    obtain ⟨z, hz, rfl⟩ := mem_strsD ha
    exact fin z hz
def cutG {α : Type} (xs : List α) (lo hi : Option Int) : List α := (xs.drop (HT.sIx xs.length 0 lo)).take (HT.sIx xs.length xs.length hi - HT.sIx xs.length 0 lo)
theorem cutD_map {α : Type} (f : α → PyData) (xs : List α) (lo hi : Option Int) : cutD (xs.map f) lo hi = (cutG xs lo hi).map f := by
  unfold cutD cutG
  rw [List.length_map, List.map_take, List.map_drop]
theorem cutG_mem {α : Type} {xs : List α} {lo hi : Option Int} {x : α} (h : x ∈ cutG xs lo hi) : x ∈ xs := List.mem_of_mem_drop (List.mem_of_mem_take h)
theorem cutG_len {α : Type} (xs : List α) (lo hi : Option Int) : (cutG xs lo hi).length ≤ xs.length := by
  unfold cutG
  rw [List.length_take, List.length_drop]
  omega
theorem cutG_most {α : Type} (xs : List α) (m : Int) (h : 0 ≤ m) : ((cutG xs none (some m)).length : Int) ≤ m := by
  obtain ⟨n, rfl⟩ : ∃ n : Nat, m = (n : Int) := ⟨m.toNat, by omega⟩
  unfold cutG
  rw [HT.sIx_none, HT.sIx_nat, List.length_take, List.length_drop]
  omega
theorem ruOk_of {r : List Cl} (h1 : r.length ≤ 8) (h2 : ∀ c ∈ r, okCl c = true) : okRu r = true := by
  unfold okRu
  rw [decide_eq_true h1, List.all_eq_true.mpr h2]; rfl
/-- data that are clauses all -/
theorem cls_of : ∀ {ys : List PyData}, (∀ y ∈ ys, ∃ c, okCl c = true ∧ y = clD c) → ∃ r : List Cl, ys = r.map clD ∧ ∀ c ∈ r, okCl c = true
  | [], _ => ⟨[], rfl, by simp⟩
  | y :: ys, h => by
    obtain ⟨c, hc, rfl⟩ := h y (by simp)
    obtain ⟨r, e, hr⟩ := cls_of (ys := ys) fun z hz => h z (List.mem_cons_of_mem _ hz)
    refine ⟨c :: r, by rw [e]; rfl, fun d hd => ?_⟩
    rcases List.mem_cons.mp hd with rfl | hd
    · exact hc
    · exact hr d hd
def knownR : List (List Cl) := [[(["changed"], "own"), ([], "house")], [([], "house")], [([], "own")], [], [(["changed", "fresh"], "own"), (["own open"], "open"), ([], "house")],
  [(["own open", "changed"], "open"), (["house ticked"], "house"), (["changed"], "own")], [(["no changed"], "house"), (["own ticked"], "ticked"), (["house none"], "own")]]
theorem known_ok : ∀ r ∈ knownR, okRu r = true ∧ r.length ≤ 3 := by decide +kernel
theorem ruD_eq (r : List Cl) : ruD r = .tuple (r.map clD) := rfl
theorem vc_law_rule : ∀ ds Q Y, c_rule ds Q Y → ds.length + 1 = ["tape", "most"].length ∧ W_law_rule (startT N_law_rule ds) (fun _ => Q .none) Q Y := by
  rintro ds Q Y ⟨m, rfl, m0, m8, q⟩
  refine ⟨rfl, ?_⟩
  have L : ∀ n : Nat, n ≤ 100 → n ≤ sizeLine := fun n h => by rw [line24]; omega
  unfold W_law_rule
  simp [L, c_draw, c_of, c_clause, eqv_ii]
  have big : ∀ n : Nat, n ≤ 1000 → n < 2 ^ 1000 := fun n h => Nat.lt_of_le_of_lt h (by decide +kernel)
  have line : ∀ n : Nat, n < 100 → n < sizeLine := fun n h => by rw [line24]; omega
  have L2 : ∀ n : Nat, n ≤ 1000 → n ≤ sizeLine := fun n h => by rw [line24]; omega
  refine ⟨line 4 (by decide), line 5 (by decide), line 6 (by decide), big 4 (by decide), fun r r0 r4 => ?_⟩
  by_cases hr : r = 0
  · rw [if_pos hr]
    refine ⟨by omega, big _ (by omega), fun k k0 k1 => ⟨by omega, by omega, ?_⟩⟩
    refine compW_all (fun y => ∃ c, okCl c = true ∧ y = clD c) (fun d hd K hK => ?_) (by rw [rng_len, line24]; simp; omega) (by simp) fun ys hl hy => ?_
    · simp [c_clause]
      exact fun a b h => hK _ ⟨(a, b), h, rfl⟩
    · obtain ⟨R, rfl, hR⟩ := cls_of hy
      rw [rng_len, List.length_map] at hl
      simp only [List.length_nil] at hl
      exact q R (ruOk_of (by omega) hR) (by omega)
  · rw [if_neg hr]
    intro d hd
    have hm : d ∈ knownR.map ruD := by simpa [knownR, ruD, clD, strsD, or_assoc] using hd
    obtain ⟨R, hR, rfl⟩ := List.mem_map.mp hm
    obtain ⟨R1, R2⟩ := known_ok R hR
    obtain ⟨_, R3⟩ := ruOk R1
    rw [ruD_eq, fLen_tup, fAdd_int, List.length_map]
    refine ⟨_, rfl, by omega, big _ (by omega), fun k k0 k1 => ?_⟩
    have last : ∀ S : List Cl, S.length ≤ 8 → (∀ c ∈ S, okCl c = true) → fSl (.tuple (S.map clD)) none (some m) Q := fun S h1 h2 => by
      rw [fSl_tup, cutD_map]
      exact q _ (ruOk_of (Nat.le_trans (cutG_len _ _ _) h1) fun c hc => h2 c (cutG_mem hc)) (cutG_most S m m0)
    by_cases h3 : 3 ≤ r
    · exact .inl ⟨h3, last R (by omega) R3⟩
    · refine .inr ⟨by omega, ?_⟩
      rw [fSl_tup, cutD_map]
      intro a b hab
      have l1 := cutG_len R none (some k)
      have l2 := cutG_len R (some (k + r - 1)) none
      rw [fAdd_tup, fSl_tup, cutD_map, fAdd_tup, List.length_map, List.length_append, List.length_map, List.length_map]
      refine ⟨L2 _ (by simp; omega), L2 _ (by simp; omega), ?_⟩
      have e : List.map clD (cutG R none (some k)) ++ [clD (a, b)] ++ List.map clD (cutG R (some (k + r - 1)) none) = (cutG R none (some k) ++ [(a, b)] ++ cutG R (some (k + r - 1)) none).map clD := by
        rw [List.map_append, List.map_append]; rfl
      rw [e]
      refine last _ (by rw [List.length_append, List.length_append, List.length_singleton]; omega) fun c hc => ?_
      rcases List.mem_append.mp hc with hc | hc
      · rcases List.mem_append.mp hc with hc | hc
        · exact R3 c (cutG_mem hc)
        · rw [List.mem_singleton.mp hc]; exact hab
      · exact R3 c (cutG_mem hc)
theorem like_seq : ∀ (xs ys : List PyData), xs.length = ys.length → ((rngD 0 xs.length).filter fun d => match d with | .int k => !likeD (xs.getD k.toNat .none) (ys.getD k.toNat .none) | _ => false).isEmpty = likeAll xs ys := by
  intro xs ys hl
  have e1 : ∀ (xs ys : List PyData), xs.length = ys.length → (likeAll xs ys = true ↔ ∀ k, k < xs.length → likeD (xs.getD k .none) (ys.getD k .none) = true) := by
    intro xs
    induction xs with
    | nil => intro ys h; cases ys with
      | nil => simp [likeAll]
      | cons y ys => simp at h
    | cons x xs ih => intro ys h; cases ys with
      | nil => simp at h
      | cons y ys =>
        rw [likeAll, Bool.and_eq_true, ih ys (by simpa using h)]
        constructor
        · rintro ⟨h1, h2⟩ k hk
          cases k with
          | zero => exact h1
          | succ k => exact h2 k (by simpa using hk)
        · intro h2
          exact ⟨h2 0 (by simp), fun k hk => h2 (k + 1) (by simpa using hk)⟩
  rw [Bool.eq_iff_iff, e1 xs ys hl, List.isEmpty_iff, List.filter_eq_nil_iff]
  constructor
  · intro h k hk
    have := h (.int (0 + (k : Int))) (by unfold rngD; exact List.mem_map.mpr ⟨k, List.mem_range.mpr hk, rfl⟩)
    simpa using this
  · intro h d hd
    obtain ⟨k, hk, rfl⟩ := rng_int hd
    simpa using h k hk
theorem good_items {xs : List PyData} (h : goodD (.list xs) = true ∨ goodD (.tuple xs) = true) : (∀ x ∈ xs, goodD x = true) ∧ xs.length ≤ 100000 := by
  rcases h with h | h
  · exact good_list h
  · exact good_tup h
theorem like_scalar {x y : PyData} (h : seqD x = false) : likeD x y = (!seqD y && (boolD x == boolD y) && PyData.eqv x y) := by
  cases x <;> first | (cases h; done) | simp [likeD]
theorem isi_seq (d : PyData) : (isiD .list d || isiD .tuple d) = seqD d := by cases d <;> rfl
theorem isi_bool (d : PyData) : isiD .bool d = boolD d := by cases d <;> rfl
theorem likeAll_len : ∀ (xs ys : List PyData), xs.length ≠ ys.length → likeAll xs ys = false
  | [], [], h => absurd rfl h
  | [], _ :: _, _ => rfl
  | _ :: _, [], _ => rfl
  | x :: xs, y :: ys, h => by
    rw [likeAll, likeAll_len xs ys (by simpa using h), Bool.and_false]
theorem vc_law_like (n : Nat) : ∀ ds Q Y, c_like (n + 1) ds Q Y → ds.length = ["one", "two"].length ∧ W_law_like n (startD N_law_like ds) (fun _ => Q .none) Q Y := by
  rintro ds Q Y ⟨x, y, rfl, gx, gy, hd, q⟩
  refine ⟨rfl, ?_⟩
  -- two sequences of one kind
  have seq : ∀ xs ys : List PyData, (goodD (.list xs) = true ∨ goodD (.tuple xs) = true) → (goodD (.list ys) = true ∨ goodD (.tuple ys) = true) → (∀ x ∈ xs, x.depth < n) → xs.length = ys.length → ∀ ρ : DE, ρ.length = 3 →
      ((∃ xx, ρ[0]? = some (.d xx) ∧ (xx = .list xs ∨ xx = .tuple xs)) ∧ ∃ yy, ρ[1]? = some (.d yy) ∧ (yy = .list ys ∨ yy = .tuple ys)) → ∀ Q : PyData → Prop, Q (.bool (likeAll xs ys)) →
      compW (.one 2) (wNot (wT (wFn (c_like n) (wCons (w2 fIx (wVar 0) (wVar 2)) (wCons (w2 fIx (wVar 1) (wVar 2)) wNil))))) (wVar 2) ρ (rngD 0 xs.length) [] (fun ds => SeqAt.shaped (.list ds) = true ∧ Q (.bool (PyData.eqv (.list ds) (.list [])))) := by
    intro xs ys gx gy hdx hl ρ hρ ⟨⟨xx, e0, ex⟩, yy, e1, ey⟩ Q q
    obtain ⟨gx1, gx2⟩ := good_items gx
    obtain ⟨gy1, gy2⟩ := good_items gy
    refine compW_fm (fun d => match d with | .int k => !likeD (xs.getD k.toNat .none) (ys.getD k.toNat .none) | _ => false) (fun d => d) (fun d hd Q Y q => ?_) (fun d hd _ Q Y q => ?_) (by rw [rng_len, line24]; simp; omega) ?_
    · obtain ⟨k, hk, rfl⟩ := rng_int hd
      have h0 : (ρ.set 2 (.d (.int (0 + (k : Int)))))[0]? = some (.d xx) := by rw [List.getElem?_set_ne (by decide)]; exact e0
      have h1 : (ρ.set 2 (.d (.int (0 + (k : Int)))))[1]? = some (.d yy) := by rw [List.getElem?_set_ne (by decide)]; exact e1
      have h2 : (ρ.set 2 (.d (.int (0 + (k : Int)))))[2]? = some (.d (.int (0 + (k : Int)))) := by rw [List.getElem?_set_self (by omega)]
      have hk2 : k < ys.length := by omega
      have ax : ∀ R : PyData → Prop, R xs[k] → fIx xx (.int (0 + (k : Int))) R := fun R r => by
        rcases ex with rfl | rfl
        · exact ⟨_, by rw [Int.zero_add]; exact atI_nat (by simp [hk]), r⟩
        · exact ⟨_, by rw [Int.zero_add]; exact atI_nat (by simp [hk]), r⟩
      have ay : ∀ R : PyData → Prop, R ys[k] → fIx yy (.int (0 + (k : Int))) R := fun R r => by
        rcases ey with rfl | rfl
        · exact ⟨_, by rw [Int.zero_add]; exact atI_nat (by simp [hk2]), r⟩
        · exact ⟨_, by rw [Int.zero_add]; exact atI_nat (by simp [hk2]), r⟩
      simp only [wNot, wT, wFn, wCons, w2, wVar, wNil, h0, h1, h2]
      refine ax _ (ay _ ⟨_, _, rfl, gx1 _ (List.getElem_mem hk), gy1 _ (List.getElem_mem hk2), hdx _ (List.getElem_mem hk), _, rfl, ?_⟩)
      simpa [hk, hk2] using q
    · have h2 : (ρ.set 2 (.d d))[2]? = some (.d d) := by rw [List.getElem?_set_self (by omega)]
      simp only [wVar, h2]
      exact q
    · rw [List.nil_append, List.map_id']
      refine ⟨shaped_items fun x hx => ?_, ?_⟩
      · obtain ⟨k, hk, rfl⟩ := rng_int (List.mem_filter.mp hx).1
        exact goodD_of (by simp only [okD]) (by simp only [PyData.depth]; decide)
      · rw [eqv_lnil, like_seq xs ys hl]
        exact q
  unfold W_law_like
  have sc : seqD x = false → likeD x y = (!seqD y && (boolD x == boolD y) && PyData.eqv x y) := like_scalar
  simp [isi_seq, isi_bool, eqv_bb]
  by_cases hx : seqD x = true
  · rw [if_pos hx]
    have two : ∀ xs ys : List PyData, (x = .list xs ∧ y = .list ys) ∨ (x = .tuple xs ∧ y = .tuple ys) → (fLen [x] fun x_1 => fLen [y] fun y_1 => SeqAt.shaped x_1 = true ∧ SeqAt.shaped y_1 = true ∧
        ((x_1.eqv y_1 = true ∧ fLen [x] fun d => ∃ j, d = PyData.int j ∧ -4611686018427387904 ≤ j ∧ j < 4611686018427387904 ∧
            compW (Tg.one 2) (wNot (wT (wFn (c_like n) (wCons (w2 fIx (wVar 0) (wVar 2)) (wCons (w2 fIx (wVar 1) (wVar 2)) wNil))))) (wVar 2) [SV.d x, SV.d y, SV.un] (rngD 0 j.toNat) [] fun ds =>
              SeqAt.shaped (PyData.list ds) = true ∧ Q (PyData.bool ((PyData.list ds).eqv (PyData.list [])))) ∨ x_1.eqv y_1 = false ∧ Q (PyData.bool false))) := by
      intro xs ys hxy
      have gx' : goodD (.list xs) = true ∨ goodD (.tuple xs) = true := by rcases hxy with ⟨rfl, _⟩ | ⟨rfl, _⟩ <;> simp [gx]
      have gy' : goodD (.list ys) = true ∨ goodD (.tuple ys) = true := by rcases hxy with ⟨_, rfl⟩ | ⟨_, rfl⟩ <;> simp [gy]
      have hdx : ∀ z ∈ xs, z.depth < n := fun z hz => by
        have h1 : PyData.depthAll xs < n := by
          rcases hxy with ⟨rfl, _⟩ | ⟨rfl, _⟩ <;> (simp only [PyData.depth] at hd; omega)
        have := depthAll_le.mp (Nat.le_refl (PyData.depthAll xs)) z hz
        omega
      have lx : ∀ R, R (.int xs.length) → fLen [x] R := fun R r => by rcases hxy with ⟨rfl, _⟩ | ⟨rfl, _⟩ <;> exact r
      have ly : ∀ R, R (.int ys.length) → fLen [y] R := fun R r => by rcases hxy with ⟨_, rfl⟩ | ⟨_, rfl⟩ <;> exact r
      have ql : Q (.bool (likeAll xs ys)) := by
        rcases hxy with ⟨rfl, rfl⟩ | ⟨rfl, rfl⟩ <;> (rw [likeD] at q; exact q)
      have g2 := (good_items gx').2
      refine lx _ (ly _ ⟨shaped_int _, shaped_int _, ?_⟩)
      rw [eqv_ii]
      by_cases hl : xs.length = ys.length
      · refine .inl ⟨by simp [hl], lx _ ⟨_, rfl, by omega, by omega, ?_⟩⟩
        have := seq xs ys gx' gy' hdx hl [SV.d x, SV.d y, SV.un] rfl ⟨⟨x, rfl, by rcases hxy with ⟨rfl, _⟩ | ⟨rfl, _⟩ <;> simp⟩, y, rfl, by rcases hxy with ⟨_, rfl⟩ | ⟨_, rfl⟩ <;> simp⟩ Q ql
        simpa using this
      · refine .inr ⟨by simp; omega, ?_⟩
        rwa [likeAll_len xs ys hl] at ql
    cases x with
    | list xs => cases y with
      | list ys => exact .inl ⟨rfl, .inl ⟨rfl, two xs ys (.inl ⟨rfl, rfl⟩)⟩⟩
      | _ => exact .inr ⟨by simp, by simpa [likeD] using q⟩
    | tuple xs => cases y with
      | tuple ys => exact .inl ⟨rfl, .inl ⟨rfl, two xs ys (.inr ⟨rfl, rfl⟩)⟩⟩
      | list ys => exact .inr ⟨by simp, by simpa [likeD] using q⟩
      | _ => exact .inl ⟨rfl, .inr ⟨by simp, by simpa [likeD] using q⟩⟩
    | _ => cases hx
  · rw [if_neg hx]
    have hx' : seqD x = false := by simpa using hx
    rw [sc hx'] at q
    by_cases hy : seqD y = true
    · rw [if_pos hy]
      simpa [hy] using q
    · rw [if_neg hy]
      have hy' : seqD y = false := by simpa using hy
      by_cases hb : boolD x = boolD y
      · rw [if_pos hb]
        refine ⟨good_shaped gx, good_shaped gy, ?_⟩
        simpa [hy', hb] using q
      · rw [if_neg hb]
        have hb' : (boolD x == boolD y) = false := by simpa using hb
        simpa [hy', hb'] using q
mutual
theorem likeD_refl : ∀ d : PyData, d.canLay0 = true → likeD d d = true
  | .none, _ => by simp [likeD, seqD, boolD, PyData.eqv]
  | .bool b, _ => by simp [likeD, seqD, boolD, PyData.eqv]
  | .int i, _ => by simp [likeD, seqD, boolD, PyData.eqv]
  | .str z, _ => by simp [likeD, seqD, boolD, PyData.eqv]
  | .list xs, h => by
    rw [likeD]
    exact likeAll_refl xs (by simpa only [PyData.canLay0] using h)
  | .tuple xs, h => by
    rw [likeD]
    exact likeAll_refl xs (by simpa only [PyData.canLay0] using h)
  | .dict _, h => by simp [PyData.canLay0] at h
theorem likeAll_refl : ∀ ds : List PyData, PyData.canLayAll0 ds = true → likeAll ds ds = true
  | [], _ => by rw [likeAll]
  | d :: ds, h => by
    simp only [PyData.canLayAll0, Bool.and_eq_true] at h
    rw [likeAll, likeD_refl d h.1, likeAll_refl ds h.2]; rfl
end
theorem depth_ruD (r : List Cl) : (ruD r).depth < 4 := by
  unfold ruD
  simp only [PyData.depth]
  have : PyData.depthAll (r.map clD) ≤ 2 := depthAll_le.mpr fun x hx => by
    obtain ⟨c, hc, rfl⟩ := List.mem_map.mp hx
    rw [depth_clD]; exact Nat.le_refl _
  omega
theorem line_w {c : Cl} (h : okCl c = true) {ρ : DE} {i j : Nat} (hi : ρ[i]? = some (.d (.tuple (strsD c.1)))) (hj : ρ[j]? = some (.d (.str c.2))) {Q : PyData → Prop} {Y : EC} (q : Q (.str (clLine c))) :
    w2 fAdd (w2 fAdd (wIf (wT (w2 fEq (wVar i) (wTup wNil))) (wC (.str "always")) (wJoin (wC (.str ", ")) (wVar i))) (wC (.str ": "))) (wVar j) ρ Q Y := by
  have k := clOk h
  have hsh := good_shaped (good_strs (l := c.1) (fun z hz => test_okS (k.t z hz)) (by have := k.n; omega))
  have hA := clA_len k
  have hd := (deeds_facts c.2 k.d).1
  have hsum : (c.1.map (·.length)).sum + c.1.length * (Str.ofString ", ").length ≤ 16777216 := by
    have h2 : (c.1.map (·.length)).sum ≤ (c.1.map (·.length)).length * 20 := sum_le fun x hx => by
      obtain ⟨z, hz, rfl⟩ := List.mem_map.mp hx
      exact (tests_facts z (k.t z hz)).2.1
    have h3 : (Str.ofString ", ").length = 2 := by decide +kernel
    rw [List.length_map] at h2
    rw [h3]
    have := k.n
    omega
  simp [hi, hj, hsh, eqv_tnil]
  unfold clLine at q
  unfold clA at hA
  by_cases hn : c.1 = []
  · rw [if_pos hn] at q hA
    rw [if_pos (by unfold strsD; rw [hn]; rfl)]
    refine ⟨?_, ?_, q⟩
    · rw [lenOf2, line24]; omega
    · rw [len_cps, app_cps, List.length_append, ← len_cps, ← len_cps, lenOf2, line24]; omega
  · rw [if_neg hn] at q hA
    rw [if_neg (by unfold strsD; simpa using hn)]
    refine ⟨c.1, rfl, hsum, ?_, ?_, q⟩
    · rw [lenOf2, line24]; omega
    · rw [len_cps, app_cps, List.length_append, ← len_cps, ← len_cps, lenOf2, line24]; omega
theorem vc_lawk13 : ∀ N R Y, R (.bool true) → W_lawk13 (rho0 7) N R Y := by
  intro N R Y q
  have L2 : ∀ n : Nat, n ≤ 1000 → n ≤ sizeLine := fun n h => by rw [line24]; omega
  have big : ∀ n : Nat, n ≤ 1000 → n < 2 ^ 1000 := fun n h => Nat.lt_of_le_of_lt h (by decide +kernel)
  unfold W_lawk13
  simp only [wSeq, wFor, wRng, wC]
  refine ⟨_, rfl, by decide, by decide, ?_⟩
  refine forW_from (fun pre ρ => ∃ s0 s2 s3 s4 s5 s6 s7 s8, ρ = [s0, .tp, s2, s3, s4, s5, s6, s7, s8]) ⟨_, _, _, _, _, _, _, _, rfl⟩ ?_ ?_
  · rintro pre d post ρ e ⟨s0, s2, s3, s4, s5, s6, s7, s8, rfl⟩ K hK
    simp [c_rule, c_draw]
    refine fun R1 ok1 l1 => ⟨big 4 (by decide), fun k k0 k4 => ⟨by omega, by omega, ?_⟩⟩
    refine compW_all (fun y => ∃ c, okCl c = true ∧ y = clD c) (fun d hd K hK => ?_) (by rw [rng_len, line24]; simp; omega) (by simp) fun ys hl hy => ?_
    · simp [c_clause]
      exact fun a b h => hK _ ⟨(a, b), h, rfl⟩
    · obtain ⟨R2, rfl, hR2⟩ := cls_of hy
      rw [rng_len, List.length_map] at hl
      simp only [List.length_nil] at hl
      obtain ⟨R1a, R1b⟩ := ruOk ok1
      rw [ruD_eq, fAdd_tup, List.length_map, List.length_map, ← List.map_append]
      refine ⟨L2 _ (by omega), ?_⟩
      have okR : okRu (R1 ++ R2) = true := ruOk_of (by rw [List.length_append]; omega) fun c hc => by
        rcases List.mem_append.mp hc with hc | hc
        · exact R1b c hc
        · exact hR2 c hc
      generalize R1 ++ R2 = S at okR
      obtain ⟨S1, S2⟩ := ruOk okR
      refine ⟨_, rfl, ?_⟩
      refine forW_from (fun pre ρ => ∃ s5 s6 s8, ρ = [s0, .tp, .d d, .d (.tuple (S.map clD)), .ml (strsD ((S.map clLine).take pre.length)), s5, s6, s7, s8]) ⟨_, _, _, rfl⟩ ?_ ?_
      · rintro pre2 d2 post2 ρ e2 ⟨s5', s6', s8', rfl⟩ K2 hK2
        have hd2 : (S.map clD)[pre2.length]? = some d2 := by rw [e2]; simp
        rw [List.getElem?_map] at hd2
        cases hc : S[pre2.length]? with
        | none => rw [hc] at hd2; cases hd2
        | some c =>
          rw [hc] at hd2
          cases hd2
          have ok := S2 c (List.mem_of_getElem? hc)
          have k := clOk ok
          have hlt : pre2.length < S.length := (List.getElem?_eq_some_iff.mp hc).1
          have cl0 : setT (.tup [5, 6]) (clD c) [s0, .tp, .d d, .d (.tuple (S.map clD)), .ml (strsD ((S.map clLine).take pre2.length)), s5', s6', s7, s8'] (fun ρ1 =>
              wAppS 4 (w2 fAdd (w2 fAdd (wIf (wT (w2 fEq (wVar 5) (wTup wNil))) (wC (.str "always")) (wJoin (wC (.str ", ")) (wVar 5))) (wC (.str ": "))) (wVar 6)) ρ1 K2 R Y) := by
            refine ⟨rfl, _, rfl, ?_⟩
            refine line_w ok rfl rfl ⟨_, rfl, ?_, hK2 _ ⟨.d (.tuple (strsD c.1)), .d (.str c.2), s8', ?_⟩⟩
            · unfold strsD
              rw [List.length_map, List.length_take, List.length_map, line24]; omega
            · have hcl : (S.map clLine)[pre2.length]? = some (clLine c) := by rw [List.getElem?_map, hc]; rfl
              rw [List.length_append, List.length_singleton, take_next hcl, strsD_app]
              rfl
          exact cl0
      · rintro ρ ⟨s5', s6', s8', rfl⟩
        rw [List.length_map, List.take_of_length_le (by rw [List.length_map]; exact Nat.le_refl _)]
        have hok := ruText_ok okR
        have hsum : ((S.map clLine).map (·.length)).sum + (S.map clLine).length * (Str.ofString "\n").length ≤ 16777216 := by
          have h4 : ((S.map clLine).map (·.length)).sum ≤ ((S.map clLine).map (·.length)).length * 200 := sum_le fun x hx => by
            obtain ⟨z, hz, rfl⟩ := List.mem_map.mp hx
            obtain ⟨c, hc, rfl⟩ := List.mem_map.mp hz
            exact (clLine_len (clOk (S2 c hc))).1
          have h5 : (Str.ofString "\n").length = 1 := by decide +kernel
          rw [List.length_map, List.length_map] at h4
          rw [h5, List.length_map]
          omega
        have hsh := shaped_str (okS_ok hok)
        have hlk := likeD_refl (ruD S) (okD_lay _ (by have := good_ruD okR; unfold goodD at this; rw [Bool.and_eq_true] at this; exact this.1))
        refine ⟨_, rfl, S.map clLine, rfl, hsum, S, rfl, okR, hsh, hsh, .inl ⟨?_, S, rfl, okR, ruD S, ruD S, rfl, good_ruD okR, good_ruD okR, depth_ruD S, .inr ⟨?_, hK _ ⟨_, _, _, _, _, _, _, _, rfl⟩⟩⟩⟩
        · rw [eqv_ss]; exact decide_eq_true rfl
        · rw [hlk]
  · rintro ρ ⟨s0, s2, s3, s4, s5, s6, s7, s8, rfl⟩
    simp [c_rule_text, c_read_rule, eqv_ss, eqv_tnil]
    have e0 : ruText [] = Str.ofString "" := rfl
    refine ⟨[], rfl, rfl, by rw [e0]; decide +kernel, by decide +kernel, ?_⟩
    rw [if_pos e0]
    exact ⟨[], rfl, rfl, by decide +kernel, by simpa [ruD, eqv_tnil] using q⟩
end DL

namespace DL
open PySem PySem.Spec L2
open PyProof.Rows (envOfC)
/-! ### an own list read and changed by place -/
section
variable {Z : DC → Prop} {X : Cx} {E : XK} {e b : Expr} {w wk : DW} {pos : Pos}
/-- xs[k], xs an own list -/
@[simp] def wMlIx (i : Nat) (w : DW) : DW := fun ρ Q Y => ∃ xs, ρ[i]? = some (.ml xs) ∧ w ρ (fun d => ∃ j x, d = .int j ∧ atI xs j = some x ∧ Q x) Y
theorem pd_mlix (i : Nat) {x : Str} {p0 : Pos} (hv : PE X (.Name x p0) (tVar i)) (hb : PD Z X E b w) (hs : PlainIx b := by exact fun _ _ => rfl) : PD Z X E (.Subscript (.Name x p0) b pos) (wMlIx i w) := by
  refine ⟨PEimp (pe_ix ix_list hv hb.pe hs) fun σ H Q ⟨C, H0, G0, G, ρ, S, xs, e, q⟩ => ?_, fun ρ Q Q' Y Y' k ky ⟨xs, e, q⟩ => ⟨xs, e, hb.mono _ _ _ _ _ (fun d ⟨j, x, h1, h2, q⟩ => ⟨j, x, h1, h2, k _ q⟩) ky q⟩⟩
  obtain ⟨a, vs, p1, p2, p3, p4, p5⟩ := S.ml e
  refine ⟨_, p1, C, H0, G0, G, ρ, S, hb.mono _ _ _ _ _ (fun d q => ?_) idY q⟩
  obtain ⟨j, y, rfl, hy, q⟩ := q
  intro v H1 G1 x1 j1 a1
  cases a1
  have S1 := S.step x1 j1
  obtain ⟨a', vs', r1, r2, r3, r4, r5⟩ := S1.ml e
  rw [p1] at r1
  cases r1
  obtain ⟨u, hu, au⟩ := atI_at r5 hy
  exact ⟨_, _, j, u, rfl, rfl, SqL.of r2, hu, (RQ.step q x1).now x1.sub j1 au⟩
@[simp] def wMlLen (i : Nat) : DW := fun ρ Q _ => ∃ xs, ρ[i]? = some (.ml xs) ∧ Q (.int xs.length)
theorem pd_mllen (i : Nat) {x : Str} {p0 p : Pos} (hm : X.mg "len" = none) (hv : PE X (.Name x p0) (tVar i)) (hg : Gl X "len" := by rfl)
    (he : starEach [.Name x p0] X.env = (false, eval (.Name x p0) X.env) :: starEach [] X.env := by rfl) (hpl : (backTo pos (starEach [] X.env)).any (·.1) = false := by rfl) : PD Z X E (.Call (.Name "len" p) [.Name x p0] [] pos) (wMlLen i) := by
  refine ⟨PEimp (pe_callB call_len_seq hg hm PySem.boot_len (pa_cons hv pa_nil he) (by decide) (by decide) he hpl) fun σ H Q ⟨C, H0, G0, G, ρ, S, xs, e, q⟩ => ?_, fun ρ Q Q' Y Y' k ky ⟨xs, e, q⟩ => ⟨xs, e, k _ q⟩⟩
  obtain ⟨a, vs, p1, p2, p3, p4, p5⟩ := S.ml e
  exact ⟨_, p1, _, _, rfl, .inl (SqL.of p2), by rw [p5.length]; exact q.now S.sub S.j (.int _)⟩
/-- xs[k] = e -/
@[simp] def wMlSet (i : Nat) (w wk : DW) : DWS := fun ρ N _ Y => ∃ xs, ρ[i]? = some (.ml xs) ∧ w ρ (fun d => wk ρ (fun kd => ∃ j m, kd = .int j ∧ ixN xs.length j = some m ∧ N (ρ.set i (.ml (xs.set m d)))) Y) Y
theorem pd1_mlset (i : Nat) {x : Str} {p0 pt : Pos} (h : PD Z X E e w) (hv : PE X (.Name x p0) (tVar i)) (hk : PD Z X E b wk)
    (ha : ∀ v, assign (.Subscript (.Name x p0) b pt) X.env v = (do
      let ov ← holding [v] (eval (.Name x p0) X.env)
      let iv ← holding [v, ov] (eval b X.env)
      standAt pt
      holding [v, ov, iv] (setItem ov iv v)
      release [v, ov, iv] []) := by intro _; rfl)
    (hs : swapsWithSole [.Subscript (.Name x p0) b pt] e pos.line X.env = pure false := by rfl) (hw : swappedStores [.Subscript (.Name x p0) b pt] e X.env = pure none := by rfl) (h1 : (assignEach [.Subscript (.Name x p0) b pt] X.env).map (·.2) = [assign (.Subscript (.Name x p0) b pt) X.env] := by rfl) :
    PD1 Z X E (.Assign [.Subscript (.Name x p0) b pt] e pos) (wMlSet i w wk) := by
  refine ⟨PSimp (ps_asg h.pe (pg_sub hv hk.pe set_list ha) hs hw h1) fun D σ H ⟨C, H0, G0, G, ρ, S, xs, e1, q⟩ => ?_, fun ρ N N' R R' Y Y' k kr ky ⟨xs, e1, q⟩ => ⟨xs, e1, h.mono _ _ _ _ _ (fun d q => hk.mono _ _ _ _ _ (fun kd ⟨j, m, h1, h2, q⟩ => ⟨j, m, h1, h2, k _ q⟩) ky q) ky q⟩⟩
  obtain ⟨a, vs, p1, p2, p3, p4, p5⟩ := S.ml e1
  refine ⟨C, H0, G0, G, ρ, S, h.mono _ _ _ _ _ (fun d q => ?_) (RX.step S.ext) q⟩
  intro v H1 G1 x1 j1 a1
  have S1 := S.step x1 j1
  refine ⟨_, p1, C, H0, G0, G1, ρ, S1, hk.mono _ _ _ _ _ (fun kd q => ?_) (RX.step S1.ext) q⟩
  obtain ⟨j, m, rfl, hm, q⟩ := q
  intro u H2 G2 x2 j2 a2
  cases a2
  have S2 := S1.step x2 j2
  obtain ⟨a', vs', r1, r2, r3, r4, r5⟩ := S2.ml e1
  rw [p1] at r1
  cases r1
  refine ⟨_, _, j, m, rfl, rfl, r2, by rw [r5.length]; exact hm, ?_⟩
  exact RN.now q (S2.chgMl e1 p1 (r5.set m (a1.same x2.gs))) (fun b o e => x2.gs b o (x1.gs b o e))
/-- xs.pop(k); xs.insert(k, e) -/
@[simp] def wMlPop (i : Nat) (w : DW) : DWS := fun ρ N _ Y => ∃ xs, ρ[i]? = some (.ml xs) ∧ w ρ (fun kd => ∃ (j : Int) (m : Nat), kd = .int j ∧ -(2 ^ 63) ≤ j ∧ j < 2 ^ 63 ∧ seqIndex? j xs.length = some m ∧ m < xs.length ∧ N (ρ.set i (.ml (xs.eraseIdx m)))) Y
theorem pd1_mlpop (i : Nat) {x : Str} {p0 apos cpos : Pos} (h : PD Z X E e w) (hv : PE X (.Name x p0) (tVar i)) (hs1 : starEach (e :: []) X.env = (false, eval e X.env) :: starEach [] X.env := by rfl)
    (hbase : attributeBase (.Name x p0) "pop" X.env (eval (.Name x p0) X.env) = eval (.Name x p0) X.env := by rfl)
    (hfew : ((backTo cpos (starEach (e :: []) X.env)).all (fun x => !x.1) && (backToKw cpos (keywordEach [] X.env)).all (fun x => x.1.isSome)
      && decide ((e :: ([] : List Expr)).length + ([] : List Keyword).length + (if ([] : List Keyword).isEmpty then 0 else 1) < 30)) = true := by rfl)
    (hline : (apos.endLine == cpos.line) = true := by rfl) (hplain : (backTo cpos (starEach [] X.env)).any (·.1) = false := by rfl) (hs : swapsWith (.Call (.Attribute (.Name x p0) "pop" apos) [e] [] cpos) none pos.line X.env = pure false := by rfl) :
    PD1 Z X E (.Expr (.Call (.Attribute (.Name x p0) "pop" apos) [e] [] cpos) pos) (wMlPop i w) := by
  refine ⟨PSimp (ps_expr (pe_bm PySem.F.plainAttrs_list PySem.F.slot_list_pop PySem.F.type_list_pop mt_popAt hv (pa_cons h.pe pa_nil hs1) hbase hfew hline hs1 hplain) hs) fun D σ H ⟨C, H0, G0, G, ρ, S, xs, e0, q⟩ => ?_, fun ρ N N' R R' Y Y' k kr ky ⟨xs, e0, q⟩ => ⟨xs, e0, h.mono _ _ _ _ _ (fun d ⟨j, m, h1, h2, h3, h4, h5, q⟩ => ⟨j, m, h1, h2, h3, h4, h5, k _ q⟩) ky q⟩⟩
  obtain ⟨a, vs, p1, p2, p3, p4, p5⟩ := S.ml e0
  refine ⟨_, p1, .inl ⟨rfl, _, SqL.of p2⟩, C, H0, G0, G, ρ, S, h.mono _ _ _ _ _ (fun d q => ?_) (RX.step S.ext) q⟩
  obtain ⟨j, m, rfl, h1, h2, h3, h4, q⟩ := q
  intro v H1 G1 x1 j1 a1
  cases a1
  have S1 := S.step x1 j1
  obtain ⟨a', vs', r1, r2, r3, r4, r5⟩ := S1.ml e0
  rw [p1] at r1
  cases r1
  have hlt : m < vs'.length := by rw [r5.length]; exact h4
  refine ⟨_, _, j, m, vs'[m], rfl, rfl, r2, h1, h2, by rw [r5.length]; exact h3, by simp [hlt], ?_⟩
  exact RN.now q (S1.chgMl e0 p1 (r5.eraseIdx m)) x1.gs
@[simp] def wMlIns (i : Nat) (wk w : DW) : DWS := fun ρ N _ Y => ∃ xs, ρ[i]? = some (.ml xs) ∧ wk ρ (fun kd => w ρ (fun d => ∃ (j : Int), kd = .int j ∧ xs.length < sizeLine ∧ 0 ≤ j ∧ j < 2 ^ 63 ∧ N (ρ.set i (.ml (xs.take j.toNat ++ [d] ++ xs.drop j.toNat)))) Y) Y
theorem pd1_mlins (i : Nat) {x : Str} {p0 apos cpos : Pos} (hk : PD Z X E b wk) (h : PD Z X E e w) (hv : PE X (.Name x p0) (tVar i)) (hs0 : starEach [b, e] X.env = (false, eval b X.env) :: starEach [e] X.env := by rfl) (hs1 : starEach (e :: []) X.env = (false, eval e X.env) :: starEach [] X.env := by rfl)
    (hbase : attributeBase (.Name x p0) "insert" X.env (eval (.Name x p0) X.env) = eval (.Name x p0) X.env := by rfl)
    (hfew : ((backTo cpos (starEach (b :: [e]) X.env)).all (fun x => !x.1) && (backToKw cpos (keywordEach [] X.env)).all (fun x => x.1.isSome)
      && decide ((b :: ([e] : List Expr)).length + ([] : List Keyword).length + (if ([] : List Keyword).isEmpty then 0 else 1) < 30)) = true := by rfl)
    (hline : (apos.endLine == cpos.line) = true := by rfl) (hplain : (backTo cpos (starEach [e] X.env)).any (·.1) = false := by rfl) (hs : swapsWith (.Call (.Attribute (.Name x p0) "insert" apos) [b, e] [] cpos) none pos.line X.env = pure false := by rfl) :
    PD1 Z X E (.Expr (.Call (.Attribute (.Name x p0) "insert" apos) [b, e] [] cpos) pos) (wMlIns i wk w) := by
  refine ⟨PSimp (ps_expr (pe_bm PySem.F.plainAttrs_list PySem.F.slot_list_insert PySem.F.type_list_insert mt_insert hv (pa_cons hk.pe (pa_cons h.pe pa_nil hs1) hs0) hbase hfew hline hs0 hplain) hs) fun D σ H ⟨C, H0, G0, G, ρ, S, xs, e0, q⟩ => ?_, fun ρ N N' R R' Y Y' k kr ky ⟨xs, e0, q⟩ => ⟨xs, e0, hk.mono _ _ _ _ _ (fun kd q => h.mono _ _ _ _ _ (fun d ⟨j, h1, h2, h3, h4, q⟩ => ⟨j, h1, h2, h3, h4, k _ q⟩) ky q) ky q⟩⟩
  obtain ⟨a, vs, p1, p2, p3, p4, p5⟩ := S.ml e0
  refine ⟨_, p1, .inl ⟨rfl, _, SqL.of p2⟩, C, H0, G0, G, ρ, S, hk.mono _ _ _ _ _ (fun kd q => ?_) (RX.step S.ext) q⟩
  intro kv H1 G1 x1 j1 a1
  have S1 := S.step x1 j1
  refine ⟨C, H0, G0, G1, ρ, S1, h.mono _ _ _ _ _ (fun d q => ?_) (RX.step S1.ext) q⟩
  obtain ⟨j, rfl, h1, h2, h3, q⟩ := q
  intro v H2 G2 x2 j2 a2
  cases a1
  have S2 := S1.step x2 j2
  obtain ⟨a', vs', r1, r2, r3, r4, r5⟩ := S2.ml e0
  rw [p1] at r1
  cases r1
  refine ⟨_, _, j, v, rfl, rfl, r2, by rw [r5.length]; exact h1, h2, h3, ?_⟩
  exact RN.now q (S2.chgMl e0 p1 (((r5.take _).append (.one a2)).append (r5.drop _))) (fun b o e => x2.gs b o (x1.gs b o e))
/-- e[::-1] as a new list -/
@[simp] def wRevF (wa : DW) : DAW := fun ρ Q Y => wa ρ (fun d => ∃ ds, d = .list ds ∧ Q ds.reverse) Y
theorem pf_rev {a : Expr} {wa : DW} {k : Nat} {p1 p2 p3 : Pos} (ha : PD Z X E a wa) : PF Z X E (.Subscript a (.Slice none none (some (.UnaryOp .USub (.Constant (.int 1) k p1) p2)) p3) pos) (wRevF wa) := by
  refine ⟨PEimp (pe_revL ha.pe) fun σ H Q ⟨C, H0, G0, G, ρ, S, q⟩ => ?_, fun ρ Q Q' Y Y' k ky q => ha.mono _ _ _ _ _ (fun d ⟨ds, e, q⟩ => ⟨ds, e, k _ q⟩) ky q⟩
  refine ⟨C, H0, G0, G, ρ, S, ha.mono _ _ _ _ _ (fun d q => ?_) idY q⟩
  obtain ⟨ds, rfl, q⟩ := q
  intro v H1 G1 x1 j1 a1
  cases a1 with
  | lst h t => exact ⟨_, _, rfl, SqL.of (x1.sub _ _ h), fun p hp => RF.new (RF.step q x1) x1.sub j1 t.rev p hp⟩
end
end DL

namespace DL
open PySem PySem.Spec L2
theorem fd_noT {P : Program} {w : World} {K : PySem.W.Frag} {mg : Str → Option Value} {base : Heap} {x qual : Str} {st : Stmt} {ps : List Str} {k : Nat} {c : FNC} (D : Def K mg x qual st ps) (h : ∀ ds Q Y, ¬ c ds Q Y) : FD P w K mg base CX0 x ps k (spT K mg c) := by
  obtain ⟨f, fd, F, hm, hb⟩ := D.ex
  exact ⟨f, fd, ⟨fun vs H Q E ⟨_, _, _, _, _, _, _, _, _, _, _, q⟩ => (h _ _ _ q).elim, fun A outer s H args us vs Q E hr h0 hb r ⟨_, _, _, _, _, _, _, _, _, _, _, q⟩ => (h _ _ _ q).elim⟩, hm, F.kp, hb⟩
end DL

namespace DL
open PySem PySem.Spec L2
/-! ### data with all lengths below a bound -/
mutual
def okB (b : Nat) : PyData → Bool
  | .str z => PyData.strOk z && decide (z.length ≤ b)
  | .list xs => okBs b xs && decide (xs.length ≤ b)
  | .tuple xs => okBs b xs && decide (xs.length ≤ b)
  | .dict _ => false
  | _ => true
def okBs (b : Nat) : List PyData → Bool
  | [] => true
  | x :: xs => okB b x && okBs b xs
end
theorem okBs_mem {b : Nat} : ∀ {xs : List PyData}, okBs b xs = true ↔ ∀ x ∈ xs, okB b x = true
  | [] => by simp [okBs]
  | x :: xs => by
    rw [okBs, Bool.and_eq_true, okBs_mem (xs := xs)]
    simp
theorem okB_list {b : Nat} {xs : List PyData} : okB b (.list xs) = true ↔ (∀ x ∈ xs, okB b x = true) ∧ xs.length ≤ b := by
  rw [okB, Bool.and_eq_true, decide_eq_true_eq, okBs_mem]
theorem okB_tuple {b : Nat} {xs : List PyData} : okB b (.tuple xs) = true ↔ (∀ x ∈ xs, okB b x = true) ∧ xs.length ≤ b := by
  rw [okB, Bool.and_eq_true, decide_eq_true_eq, okBs_mem]
theorem okB_str {b : Nat} {z : Str} : okB b (.str z) = true ↔ PyData.strOk z = true ∧ z.length ≤ b := by
  rw [okB, Bool.and_eq_true, decide_eq_true_eq]
mutual
theorem okB_mono {b c : Nat} (h : b ≤ c) : ∀ d : PyData, okB b d = true → okB c d = true
  | .none, _ => by simp only [okB]
  | .bool _, _ => by simp only [okB]
  | .int _, _ => by simp only [okB]
  | .str z, e => okB_str.mpr ⟨(okB_str.mp e).1, Nat.le_trans (okB_str.mp e).2 h⟩
  | .list xs, e => by
    simp only [okB, Bool.and_eq_true, decide_eq_true_eq] at e ⊢
    exact ⟨okBs_mono h xs e.1, by omega⟩
  | .tuple xs, e => by
    simp only [okB, Bool.and_eq_true, decide_eq_true_eq] at e ⊢
    exact ⟨okBs_mono h xs e.1, by omega⟩
  | .dict _, e => by simp [okB] at e
theorem okBs_mono {b c : Nat} (h : b ≤ c) : ∀ xs : List PyData, okBs b xs = true → okBs c xs = true
  | [], _ => rfl
  | x :: xs, e => by
    rw [okBs, Bool.and_eq_true] at e ⊢
    exact ⟨okB_mono h x e.1, okBs_mono h xs e.2⟩
end
mutual
theorem okB_okD {b : Nat} (h : b ≤ 50000) : ∀ d : PyData, okB b d = true → okD d = true
  | .none, _ => by simp only [okD]
  | .bool _, _ => by simp only [okD]
  | .int _, _ => by simp only [okD]
  | .str z, e => by
    rw [okD]
    exact okS_of (okB_str.mp e).1 (Nat.le_trans (okB_str.mp e).2 h)
  | .list xs, e => by
    simp only [okB, okD, Bool.and_eq_true, decide_eq_true_eq] at e ⊢
    exact ⟨okBs_okDs h xs e.1, by omega⟩
  | .tuple xs, e => by
    simp only [okB, okD, Bool.and_eq_true, decide_eq_true_eq] at e ⊢
    exact ⟨okBs_okDs h xs e.1, by omega⟩
  | .dict _, e => by simp [okB] at e
theorem okBs_okDs {b : Nat} (h : b ≤ 50000) : ∀ xs : List PyData, okBs b xs = true → okDs xs = true
  | [], _ => rfl
  | x :: xs, e => by
    rw [okBs, Bool.and_eq_true] at e
    rw [okDs, Bool.and_eq_true]
    exact ⟨okB_okD h x e.1, okBs_okDs h xs e.2⟩
end
theorem okB_good {b : Nat} {d : PyData} (h : b ≤ 50000) (e : okB b d = true) (hd : d.depth ≤ 60) : goodD d = true := goodD_of (okB_okD h d e) hd
def c_whole : FNC := fun ds Q _ => ∃ d, ds = [d] ∧ Q (.bool (isiD .int d && !isiD .bool d))
theorem mo_law_whole : MoF c_whole := fun ds Q Q' Y Y' k ky ⟨d, e, q⟩ => ⟨d, e, k _ q⟩
def c_any (n : Nat) : FNC := fun ds Q _ => ∃ m : Int, ds = [.int m] ∧ 0 ≤ m ∧ m < n ∧ ∀ d, okB 10 d = true → d.depth ≤ m.toNat + 1 → Q d
theorem mo_law_any (n : Nat) : MoF (c_any n) := fun ds Q Q' Y Y' k ky ⟨m, e, h, h2, q⟩ => ⟨m, e, h, h2, fun d a b => k _ (q d a b)⟩
def c_spoilt (n : Nat) : FNC := fun ds Q _ => ∃ d, ds = [d] ∧ d.depth < n ∧ okB 1000 d = true ∧ ∀ e, okB 1004 e = true → e.depth ≤ d.depth + 4 → Q e
theorem mo_law_spoilt (n : Nat) : MoF (c_spoilt n) := fun ds Q Q' Y Y' k ky ⟨m, e, h, h2, q⟩ => ⟨m, e, h, h2, fun d a b => k _ (q d a b)⟩
abbrev mo_law_test_so := mo_is_test
abbrev mo_law_right := mo_is_rule
end DL

namespace DL
open PySem PySem.Spec L2
open PyProof.Rows (envOfC)
abbrev N_law_whole : List Str := ["item"]
def W_law_whole  : DWS := (wRet (wAndV (wIsi .int (wVar 0)) (wNotV (wIsi .bool (wVar 0)))))
abbrev N_law_any : List Str := ["tape", "deep", "course", "some", "k"]
def W_law_any (n : Nat) : DWS := (wSeq (wSet 2 (wFnT 0 c_draw (wCons (wC (.int 13)) wNil)))
  (wSeq (wIfS (wAnd (wT (w2 fLt (wVar 2) (wC (.int 4)))) (wT (w2 fGt (wVar 1) (wC (.int 0))))) (wSeq (wNewD 3 (wLc (.one 4) wYes (wFnT 0 (c_any n) (wCons (w2 fSub (wVar 1) (wC (.int 1))) wNil)) [4] (wRng (wFnT 0 c_draw (wCons (wC (.int 4)) wNil)))))
  (wRet (w2 fIx (wLst (wCons (wVar 3) (wCons (wCall fTuple (wCons (wVar 3) wNil)) (wCons (wCall fTuple (wCons (wVar 3) wNil)) (wCons (wCall fTuple (wCons (wVar 3) wNil)) wNil))))) (wVar 2)))) wNx)
  (wSeq (wIfS (wT (w2 fLt (wVar 2) (wC (.int 8)))) (wRet (w2 fIx (wLst (wCons (w2 fSub (wFnT 0 c_draw (wCons (wC (.int 12)) wNil)) (wC (.int 2))) (wCons (wFnT 0 c_draw (wCons (w2 fPow (wC (.int 10)) (wC (.int 12))) wNil)) (wCons (wC (.int 0)) (wCons (wC (.int 3)) wNil))))) (wCall fMax (wCons (wC (.int 0)) (wCons (w2 fSub (wVar 2) (wC (.int 4))) wNil))))) wNx)
  (wSeq (wSet 3 (wLst (wCons (wC (.str "")) (wCons (wC (.str "open")) (wCons (wC (.str "own")) (wCons (wC (.str "house")) (wCons (wC (.str "changed")) (wCons (wC (.str "none")) (wCons (wC (.str "fresh")) wNil)))))))))
  (wRet (w2 fIx (wLst (wCons (wC (.bool true)) (wCons (wC (.bool false)) (wCons (wC .none) (wCons (w2 fIx (wVar 3) (wFnT 0 c_draw (wCons (wC (.int 7)) wNil))) (wCons (wTup (wCons (wC (.int 1)) (wCons (wC (.int 2)) wNil))) wNil)))))) (w2 fSub (wVar 2) (wC (.int 8)))))))))
abbrev N_law_spoilt : List Str := ["tape", "item", "k", "rest", "course", "at"]
def W_law_spoilt (n : Nat) : DWS := (wSeq (wIfS (wAnd (wT (wIsi2 .tuple .list (wVar 1))) (wAnd (wT (w2 fGt (wCall fLen (wCons (wVar 1) wNil)) (wC (.int 0)))) (wT (w2 fGt (wFnT 0 c_draw (wCons (wC (.int 7)) wNil)) (wC (.int 0)))))) (wSeq (wSet 2 (wFnT 0 c_draw (wCons (wCall fLen (wCons (wVar 1) wNil)) wNil)))
  (wSeq (wNewM 3 (wListF (wCons (wVar 1) wNil)))
  (wSeq (wSet 4 (wFnT 0 c_draw (wCons (wC (.int 12)) wNil)))
  (wSeq (wIfS (wT (w2 fLt (wVar 4) (wC (.int 8)))) (wMlSet 3 (wFnT 0 (c_spoilt n) (wCons (wMlIx 3 (wVar 2)) wNil)) (wVar 2)) (wIfS (wT (w2 fEq (wVar 4) (wC (.int 8)))) (wMlPop 3 (wVar 2)) (wIfS (wT (w2 fEq (wVar 4) (wC (.int 9)))) (wMlIns 3 (wVar 2) (wMlIx 3 (wFnT 0 c_draw (wCons (wMlLen 3) wNil)))) (wIfS (wT (w2 fEq (wVar 4) (wC (.int 10)))) (wFrz 3 (wNewM 3 (wRevF (wVar 3)))) (wMlIns 3 (wVar 2) (wFnT 0 (c_any 4) (wCons (wC (.int 1)) wNil)))))))
  (wFrz 3 (wRet (wIf (wT (wIsi .tuple (wVar 1))) (wCall fTuple (wCons (wVar 3) wNil)) (wVar 3)))))))) wNx)
  (wSeq (wIfS (wAnd (wT (wFn c_whole (wCons (wVar 1) wNil))) (wT (w2 fGt (wFnT 0 c_draw (wCons (wC (.int 6)) wNil)) (wC (.int 0))))) (wRet (w2 fAdd (wVar 1) (w2 fIx (wLst (wCons (wC (.int 1)) (wCons (wNeg (wC (.int 1))) (wCons (wC (.int 2)) (wCons (wNeg (wC (.int 2))) (wCons (wC (.int 9)) (wCons (wC (.int 1000)) wNil))))))) (wFnT 0 c_draw (wCons (wC (.int 6)) wNil))))) wNx)
  (wSeq (wIfS (wAnd (wT (wIsi .str (wVar 1))) (wT (w2 fGt (wFnT 0 c_draw (wCons (wC (.int 3)) wNil)) (wC (.int 0))))) (wSeq (wSet 5 (wFnT 0 c_draw (wCons (w2 fAdd (wCall fLen (wCons (wVar 1) wNil)) (wC (.int 1))) wNil)))
  (wRet (w2 fAdd (w2 fAdd (wSl (wVar 1) wNo (wPart (wVar 5))) (w2 fIx (wLst (wCons (wC (.str " ")) (wCons (wC (.str "z")) (wCons (wC (.str "A")) (wCons (wC (.str "(")) (wCons (wC (.str "abcd")) (wCons (wC (.str "")) wNil))))))) (wFnT 0 c_draw (wCons (wC (.int 6)) wNil)))) (wSl (wVar 1) (wPart (wVar 5)) wNo)))) wNx)
  (wSeq (wIfS (wAnd (wT (wIsi2 .tuple .list (wVar 1))) (wT (w2 fEq (wFnT 0 c_draw (wCons (wC (.int 2)) wNil)) (wC (.int 0))))) (wRet (wIf (wT (wIsi .tuple (wVar 1))) (wCall fList (wCons (wVar 1) wNil)) (wCall fTuple (wCons (wVar 1) wNil)))) wNx)
  (wRet (wFnT 0 (c_any 4) (wCons (wC (.int 2)) wNil)))))))
abbrev N_law_test_so : List Str := ["value", "words_so", "word"]
def W_law_test_so  : DWS := (wSeq (wSet 1 (w2 fAdd (wFn c_tests wNil) (wOfF (wLc (.one 2) wYes (w2 fAdd (wC (.str "no ")) (wVar 2)) [2] (wItL (wFn c_tests wNil))))))
  (wRet (wAndV (wIsi .str (wVar 0)) (w2 (fIn false) (wVar 0) (wVar 1)))))
abbrev N_law_right : List Str := ["value", "clause", "test"]
def W_law_right  : DWS := (wSeq (wIfS (wOr (wNot (wT (wIsi .tuple (wVar 0)))) (wT (w2 fGt (wCall fLen (wCons (wVar 0) wNil)) (wC (.int 8))))) (wRet (wC (.bool false))) wNx)
  (wSeq (wFor (.one 1) (wSeq (wIfS (wOr (wNot (wT (wIsi .tuple (wVar 1)))) (wOr (wT (w2 fNe (wCall fLen (wCons (wVar 1) wNil)) (wC (.int 2)))) (wNot (wT (wIsi .tuple (w2 fIx (wVar 1) (wC (.int 0)))))))) (wRet (wC (.bool false))) wNx)
  (wSeq (wIfS (wOr (wT (w2 fGt (wCall fLen (wCons (w2 fIx (wVar 1) (wC (.int 0))) wNil)) (wC (.int 3)))) (wT (w2 fNe (wOfF (wLc (.one 2) (wNot (wT (wFn c_is_test (wCons (wVar 2) wNil)))) (wVar 2) [2] (wItT (w2 fIx (wVar 1) (wC (.int 0)))))) (wLst wNil)))) (wRet (wC (.bool false))) wNx)
  (wIfS (wOr (wNot (wT (wIsi .str (w2 fIx (wVar 1) (wC (.int 1)))))) (wT (w2 (fIn true) (w2 fIx (wVar 1) (wC (.int 1))) (wFn c_deeds wNil)))) (wRet (wC (.bool false))) wNx))) (wItT (wVar 0)))
  (wRet (wC (.bool true)))))
abbrev N_lawk01 : List Str := ["script", "tape", "turn", "rule", "things", "thing", "k"]
def W_lawk01  : DWS := (wSeq (wFor (.one 2) (wSeq (wSet 3 (wFnT 1 c_rule (wCons (wC (.int 5)) wNil)))
  (wSeq (wSet 4 (wLst (wCons (wVar 3) (wCons (wCall fList (wCons (wVar 3) wNil)) (wCons (w2 fAdd (wVar 3) (wTup (wCons (wTup (wCons (w2 fRep (wTup (wCons (wC (.str "fresh")) wNil)) (wC (.int 4))) (wCons (wC (.str "own")) wNil))) wNil))) (wCons (w2 fAdd (wVar 3) (wTup (wCons (wTup (wCons (wC (.str "fresh")) (wCons (wC (.str "own")) wNil))) wNil))) (wCons (wTup (wCons (wTup (wCons (wTup (wCons (wC (.str "no ")) wNil)) (wCons (wC (.str "own")) wNil))) wNil)) wNil)))))))
  (wSeq (wSet 4 (w2 fAdd (wVar 4) (wLst (wCons (wTup (wCons (wTup (wCons (wTup (wCons (wC (.str "no no fresh")) wNil)) (wCons (wC (.str "own")) wNil))) wNil)) (wCons (w2 fRep (wTup (wCons (wTup (wCons (wTup wNil) (wCons (wC (.str "open")) wNil))) wNil)) (wC (.int 8))) (wCons (w2 fRep (wTup (wCons (wTup (wCons (wTup wNil) (wCons (wC (.str "open")) wNil))) wNil)) (wC (.int 9))) (wCons (wTup (wCons (wTup (wCons (wTup wNil) (wCons (wC (.str "meet")) wNil))) wNil)) wNil)))))))
  (wFor (.one 5) (wIfS (wNot (wT (wFn (c_like 1) (wCons (wFn c_is_rule (wCons (wVar 5) wNil)) (wCons (wFn c_is_rule (wCons (wVar 5) wNil)) wNil))))) (wRet (wC (.bool false))) wNx) (wItL (w2 fAdd (w2 fAdd (wVar 4) (wOfF (wLc (.one 6) wYes (wFnT 1 (c_spoilt 4) (wCons (wVar 3) wNil)) [6] (wRng (wC (.int 10)))))) (wLst (wCons (wFnT 1 (c_any 4) (wCons (wC (.int 3)) wNil)) (wCons (wC .none) (wCons (wTup wNil) wNil)))))))))) (wRng (wC (.int 10))))
  (wRet (wC (.bool true))))
end DL

namespace DL
open PySem PySem.Spec L2
theorem isi_or (d : PyData) : (isiD .tuple d || isiD .list d) = seqD d := by cases d <;> rfl
theorem vc_law_whole : ∀ ds Q Y, c_whole ds Q Y → ds.length = ["item"].length ∧ W_law_whole (startD N_law_whole ds) (fun _ => Q .none) Q Y := by
  rintro ds Q Y ⟨d, rfl, q⟩
  refine ⟨rfl, ?_⟩
  unfold W_law_whole
  cases d <;> simpa using q
theorem big1000 (n : Nat) (h : n ≤ 1000000000000) : n < 2 ^ 1000 := Nat.lt_of_le_of_lt h (by decide +kernel)
def noW : PyData → PyData
  | .str z => .str (Str.ofString "no " ++ z)
  | _ => .none
theorem vc_law_test_so : ∀ ds Q Y, c_is_test ds Q Y → ds.length = ["value"].length ∧ W_law_test_so (startD N_law_test_so ds) (fun _ => Q .none) Q Y := by
  rintro ds Q Y ⟨d, rfl, g, q⟩
  refine ⟨rfl, ?_⟩
  unfold W_law_test_so
  simp [c_tests]
  refine compW_fm (fun _ => true) noW (fun d hd Q Y q => q) (fun d hd _ Q Y q => ?_) (by rw [line24]; decide) ?_
  · obtain ⟨z, hz, rfl⟩ := List.mem_map.mp hd
    have hl : z.length ≤ 20 := by
      have : ∀ z ∈ testsL, z.length ≤ 20 := by decide +kernel
      exact this z hz
    simp
    refine ⟨?_, q⟩
    have : (Str.ofString "no ").length = 3 := by decide +kernel
    rw [line24]; omega
  · have e : strsD testsL ++ ([] ++ ((strsD testsL).filter fun _ => true).map noW) = strsD testsAll := by
      rw [List.nil_append, List.filter_eq_self.mpr (fun _ _ => rfl)]
      unfold strsD testsAll
      rw [List.map_append, List.map_map, List.map_map]
      rfl
    have hlen : ((strsD testsL).length + ([] ++ ((strsD testsL).filter fun _ => true).map noW).length) ≤ sizeLine := by
      rw [line24]; simp [strsD, testsL]
    rw [← List.any_append, e]
    have hf : (strsD testsAll).all flatD = true := flat_strs _
    rw [← e, List.all_append, Bool.and_eq_true, List.all_eq_true, List.all_eq_true] at hf
    refine ⟨hlen, ?_⟩
    cases d with
    | str z =>
      rw [isiD_str_str, if_pos rfl, any_strs]
      refine ⟨rfl, hf, ?_⟩
      have q : Q (.bool (isTestS z)) := q
      have : isTestS z = decide (z ∈ testsAll) := by
        rw [Bool.eq_iff_iff, decide_eq_true_eq]
        exact ⟨isTest_mem, fun h => (tests_facts z h).1⟩
      rw [this] at q
      exact q
    | _ => simpa [isTest] using q
theorem vc_law_right : ∀ ds Q Y, c_is_rule ds Q Y → ds.length = ["value"].length ∧ W_law_right (startD N_law_right ds) (fun _ => Q .none) Q Y := by
  rintro ds Q Y ⟨d, rfl, g, q⟩
  refine ⟨rfl, ?_⟩
  unfold W_law_right
  cases d with
  | tuple xs =>
    obtain ⟨gi, gl⟩ := good_tup g
    rw [isRule_tup] at q
    by_cases h3 : 8 < xs.length
    · rw [decide_eq_false (by omega)] at q
      have h3' : (8 : Int) < xs.length := by omega
      simpa [h3'] using q
    · have h3' : ¬ (8 : Int) < xs.length := by omega
      rw [decide_eq_true (by omega), Bool.true_and] at q
      simp [h3']
      refine forW_from (fun pre ρ => pre.all isClause = true ∧ ∃ s1 s2, ρ = [.d (.tuple xs), s1, s2]) ⟨rfl, _, _, rfl⟩ ?_ ?_
      · rintro pre d post ρ e ⟨hp, s1, s2, rfl⟩ K hK
        have gd := gi d (by rw [e]; simp)
        have bad : isClause d = false → Q (.bool false) := fun h => by
          have : xs.all isClause = false := by rw [e, List.all_append, List.all_cons, h]; simp
          rwa [this] at q
        have ok : isClause d = true → ∀ s1 s2, K [.d (.tuple xs), s1, s2] := fun h s1 s2 => hK _ ⟨by rw [List.all_append, hp]; simp [h], _, _, rfl⟩
        cases d with
        | tuple ys =>
          obtain ⟨yi, yl⟩ := good_tup gd
          match ys, yi, yl, bad, ok with
          | [], _, _, bad, _ => simpa [eqv_ii] using bad rfl
          | [a], _, _, bad, _ => simpa [eqv_ii] using bad (by cases a <;> rfl)
          | a :: b :: c :: r, _, _, bad, _ =>
            have n2 : ¬ ((r.length : Int) + 1 + 1 + 1 = 2) := by omega
            have := bad (by cases a <;> rfl)
            simpa [eqv_ii, n2] using this
          | [a, b], yi, _, bad, ok =>
            cases a with
            | tuple ts =>
              obtain ⟨ti, tl⟩ := good_tup (yi (.tuple ts) List.mem_cons_self)
              rw [isClause_pair] at bad ok
              by_cases t3 : 3 < ts.length
              · rw [decide_eq_false (by omega)] at bad
                have t3' : (3 : Int) < ts.length := by omega
                simpa [eqv_ii, atI, ixN, t3'] using bad rfl
              · have t3' : ¬ (3 : Int) < ts.length := by omega
                rw [decide_eq_true (by omega), Bool.true_and] at bad ok
                simp [eqv_ii, atI, ixN, t3']
                refine compW_fm (fun d => !isTest d) (fun d => d) (fun d hd Q Y q => ?_) (fun d hd _ Q Y q => ?_) (by rw [line24]; simp; omega) ?_
                · simp [c_is_test, ti d hd]
                  simpa using q
                · simpa using q
                · simp only [List.nil_append, List.map_id']
                  refine ⟨shaped_items fun x hx => ti x ((List.mem_filter.mp hx).1), ?_⟩
                  rw [eqv_lnil, filter_all]
                  by_cases ha : ts.all isTest = true
                  · rw [ha] at bad ok ⊢
                    rw [Bool.true_and] at bad ok
                    cases b with
                    | str z =>
                      by_cases hz : z ∈ deedsL
                      · have := ok (by simp [isDeed, inL, hz])
                        simpa [any_strs, flat_strs, c_deeds, hz] using this _ _
                      · have := bad (by simp [isDeed, inL, hz])
                        simpa [any_strs, flat_strs, c_deeds, hz] using this
                    | _ => simpa using bad rfl
                  · simp only [Bool.not_eq_true] at ha
                    rw [ha] at bad ⊢
                    simpa using bad rfl
            | _ => simpa [eqv_ii, atI, ixN] using bad rfl
        | _ => simpa using bad rfl
      · rintro ρ ⟨hp, s1, s2, rfl⟩
        rw [hp] at q
        exact q
  | _ => simpa [isRule] using q
theorem at_all {l : List PyData} {P : PyData → Prop} (h : ∀ d ∈ l, P d) {k : Int} (k0 : 0 ≤ k) (k1 : k < (l.length : Nat)) : ∃ d, atI l k = some d ∧ P d := by
  obtain ⟨n, rfl⟩ : ∃ n : Nat, k = (n : Int) := ⟨k.toNat, (Int.toNat_of_nonneg k0).symm⟩
  have hn : n < l.length := by omega
  exact ⟨l[n], atI_nat (by simp [hn]), h _ (List.getElem_mem hn)⟩
theorem word7 : ∀ d ∈ [PyData.str (Str.ofString ""), PyData.str (Str.ofString "open"), PyData.str (Str.ofString "own"), PyData.str (Str.ofString "house"), PyData.str (Str.ofString "changed"), PyData.str (Str.ofString "none"), PyData.str (Str.ofString "fresh")], okB 10 d = true ∧ d.depth ≤ 0 := by
  simp only [List.mem_cons, List.not_mem_nil, or_false, forall_eq_or_imp, forall_eq]
  decide +kernel
theorem vc_law_any (n : Nat) : ∀ ds Q Y, c_any (n + 1) ds Q Y → ds.length + 1 = ["tape", "deep"].length ∧ W_law_any n (startT N_law_any ds) (fun _ => Q .none) Q Y := by
  rintro ds Q Y ⟨m, rfl, m0, mn, q⟩
  refine ⟨rfl, ?_⟩
  have sc : ∀ d, okB 10 d = true → d.depth ≤ 1 → Q d := fun d h1 h2 => q d h1 (by omega)
  unfold W_law_any
  simp [c_draw]
  refine ⟨big1000 13 (by omega), fun k k0 k13 => ?_⟩
  have hs : ∀ n : Nat, n ≤ 1000 → n ≤ sizeLine := fun n h => by rw [line24]; omega
  have A : 8 ≤ k → 7 ≤ sizeLine ∧ 7 < 2 ^ 1000 ∧ ∀ (r : Int), 0 ≤ r → r < 7 → ∃ d, atI [PyData.str (Str.ofString ""), PyData.str (Str.ofString "open"), PyData.str (Str.ofString "own"), PyData.str (Str.ofString "house"), PyData.str (Str.ofString "changed"), PyData.str (Str.ofString "none"), PyData.str (Str.ofString "fresh")] r = some d ∧
      2 ≤ sizeLine ∧ 5 ≤ sizeLine ∧ ∃ d_1, atI [PyData.bool true, PyData.bool false, PyData.none, d, PyData.tuple [PyData.int 1, PyData.int 2]] (k - 8) = some d_1 ∧ Q d_1 := fun h8 =>
    ⟨hs 7 (by omega), big1000 7 (by omega), fun r r0 r7 => at_all (P := fun d => 2 ≤ sizeLine ∧ 5 ≤ sizeLine ∧ ∃ d_1, atI [PyData.bool true, PyData.bool false, PyData.none, d, PyData.tuple [PyData.int 1, PyData.int 2]] (k - 8) = some d_1 ∧ Q d_1) (fun d hd => ⟨hs 2 (by omega), hs 5 (by omega), at_all (fun e he => by
      have hd' := word7 d hd
      simp only [List.mem_cons, List.not_mem_nil, or_false] at he
      rcases he with rfl | rfl | rfl | rfl | rfl
      · exact sc _ (by decide) (by decide)
      · exact sc _ (by decide) (by decide)
      · exact sc _ (by decide) (by decide)
      · exact sc _ hd'.1 (by omega)
      · exact sc _ (by decide) (by decide)) (by omega) (by simp; omega)⟩) r0 (by simp; omega)⟩
  have B : k < 8 → 12 < 2 ^ 1000 ∧ ∀ (r : Int), 0 ≤ r → r < 12 → CPow 10 12 ∧ 1000000000000 < 2 ^ 1000 ∧ ∀ (r_1 : Int), 0 ≤ r_1 → r_1 < 1000000000000 → 4 ≤ sizeLine ∧
      ∃ d, atI [PyData.int (r - 2), PyData.int r_1, PyData.int 0, PyData.int 3] (if 4 < k then k - 4 else 0) = some d ∧ Q d := fun h8 =>
    ⟨big1000 12 (by omega), fun r _ _ => ⟨by unfold CPow; decide, big1000 _ (by omega), fun r1 _ _ => ⟨hs 4 (by omega), at_all (fun e he => by
      simp only [List.mem_cons, List.not_mem_nil, or_false] at he
      rcases he with rfl | rfl | rfl | rfl <;> exact sc _ (by simp only [okB]) (by simp only [PyData.depth]; omega)) (by split <;> omega) (by simp; split <;> omega)⟩⟩⟩
  have AB := fun h : 4 ≤ k ∨ k < 4 => (Classical.em (8 ≤ k)).imp (fun h => And.intro h (A h)) (fun h => And.intro (show k < 8 by omega) (B (by omega)))
  by_cases h4 : k < 4
  · refine .inr ⟨h4, ?_⟩
    by_cases hm : m ≤ 0
    · exact .inl ⟨hm, AB (.inr h4)⟩
    · refine .inr ⟨by omega, big1000 4 (by omega), fun r r0 r4 => ⟨by omega, by omega, ?_⟩⟩
      refine compW_all (fun d => okB 10 d = true ∧ d.depth ≤ m.toNat) (fun d hd K hK => ?_) (by rw [rng_len, line24]; simp; omega) (by simp) fun ys hl hy => ?_
      · simp [c_any]
        exact ⟨by omega, by omega, fun d h1 h2 => hK d ⟨h1, by omega⟩⟩
      · rw [rng_len] at hl
        have l4 : ys.length ≤ 10 := by rw [hl]; simp; omega
        refine ⟨hs 4 (by omega), at_all (fun e he => ?_) k0 (by simp; omega)⟩
        have hd : PyData.depthAll ys ≤ m.toNat := depthAll_le.mpr fun x hx => (hy x hx).2
        simp only [List.mem_cons, List.not_mem_nil, or_false] at he
        have o1 : okB 10 (.list ys) = true := okB_list.mpr ⟨fun x hx => (hy x hx).1, l4⟩
        have o2 : okB 10 (.tuple ys) = true := okB_tuple.mpr ⟨fun x hx => (hy x hx).1, l4⟩
        rcases he with rfl | rfl | rfl | rfl
        · exact q _ o1 (by simp only [PyData.depth]; omega)
        · exact q _ o2 (by simp only [PyData.depth]; omega)
        · exact q _ o2 (by simp only [PyData.depth]; omega)
        · exact q _ o2 (by simp only [PyData.depth]; omega)
  · exact .inl ⟨by omega, AB (.inl (by omega))⟩

theorem ixnat {n j : Nat} (hj : j < n) : ixN n (j : Int) = some j := by
  unfold ixN
  rw [if_pos (by omega), if_pos (by omega)]
  rfl
theorem six : ∀ d ∈ [PyData.str (Str.ofString " "), PyData.str (Str.ofString "z"), PyData.str (Str.ofString "A"), PyData.str (Str.ofString "("), PyData.str (Str.ofString "abcd"), PyData.str (Str.ofString "")], ∃ y, d = .str y ∧ PyData.strOk y = true ∧ y.length ≤ 4 := by
  intro d hd
  simp only [List.mem_cons, List.not_mem_nil, or_false] at hd
  rcases hd with rfl | rfl | rfl | rfl | rfl | rfl <;> exact ⟨_, rfl, by decide +kernel, by decide +kernel⟩
theorem vc_law_spoilt (n : Nat) : ∀ ds Q Y, c_spoilt (n + 1) ds Q Y → ds.length + 1 = ["tape", "item"].length ∧ W_law_spoilt n (startT N_law_spoilt ds) (fun _ => Q .none) Q Y := by
  rintro ds Q Y ⟨d, rfl, hd, hb, q⟩
  refine ⟨rfl, ?_⟩
  have any2 : ∀ e, okB 10 e = true → e.depth ≤ 3 → Q e := fun e h1 h2 => q e (okB_mono (by decide) e h1) (by omega)
  have last : c_any 4 [.int 2] Q Y := ⟨2, rfl, by decide, by decide, fun d h1 h2 => any2 d h1 h2⟩
  unfold W_law_spoilt
  have b7 := big1000 7 (by omega)
  have b6 := big1000 6 (by omega)
  have b3 := big1000 3 (by omega)
  have b2 := big1000 2 (by omega)
  have b12 := big1000 12 (by omega)
  have s6 : 6 ≤ sizeLine := by rw [line24]; omega
  cases d with
  | str z =>
    obtain ⟨zo, zl⟩ := okB_str.mp hb
    have hl : z.length ≤ sizeLine := by rw [line24]; omega
    simp [c_draw, c_whole, last, -Nat.reducePow, b7, b6, b3, b2, b12, s6]
    intro r r0 r3
    by_cases hr : r ≤ 0
    · exact .inl hr
    refine .inr ⟨by omega, hl, big1000 _ (by omega), fun k k0 kl => ⟨hl, fun j j0 j6 => at_all (fun e he => ?_) j0 (by simp; omega)⟩⟩
    obtain ⟨m, rfl⟩ : ∃ m : Nat, k = (m : Int) := ⟨k.toNat, (Int.toNat_of_nonneg k0).symm⟩
    obtain ⟨y, rfl, yo, yl⟩ := six e he
    have e1 := cut_join z m
    have ey : z.length = (cutS z none (some (m : Int))).length + (cutS z (some (m : Int)) none).length := by
      have := congrArg (fun t : Str => t.cps.toList.length) e1
      simp only [app_cps, List.length_append, ← len_cps] at this
      exact this.symm
    have ok1 := cutS_ok none (some (m : Int)) zo
    have ok2 := cutS_ok (some (m : Int)) none zo
    have L := fun a b : Str => show (a ++ b).length = a.length + b.length by rw [len_cps, app_cps, List.length_append, ← len_cps, ← len_cps]
    rw [fAdd_str]
    refine ⟨by rw [line24]; omega, hl, ?_⟩
    rw [fAdd_str]
    refine ⟨by rw [L, line24]; omega, q _ (okB_str.mpr ⟨?_, by rw [L, L]; omega⟩) (by simp only [PyData.depth]; omega)⟩
    refine strOk_mem.mpr fun c hc => ?_
    rw [app_cps, app_cps] at hc
    rcases List.mem_append.mp hc with hc | hc
    · rcases List.mem_append.mp hc with hc | hc
      · exact strOk_mem.mp ok1 c hc
      · exact strOk_mem.mp yo c hc
    · exact strOk_mem.mp ok2 c hc
  | int i =>
    simp [c_draw, c_whole, last, c_spoilt, -Nat.reducePow, b7, b6, b3, b2, b12, s6, eqv_ii]
    intro r r0 r6
    by_cases hr : r ≤ 0
    · exact .inl hr
    refine .inr ⟨by omega, fun k k0 k6 => at_all (fun e he => ?_) k0 (by simp; omega)⟩
    simp only [List.mem_cons, List.not_mem_nil, or_false] at he
    rcases he with rfl | rfl | rfl | rfl | rfl | rfl <;> exact q _ (by simp only [okB]) (by simp only [PyData.depth]; omega)
  | tuple xs =>
    obtain ⟨xi, xl⟩ := okB_tuple.mp hb
    have xd : PyData.depthAll xs ≤ n := by simp only [PyData.depth] at hd; omega
    have xdd := depthAll_le.mp (Nat.le_refl (PyData.depthAll xs))
    have q2 : ∀ ys : List PyData, (∀ y ∈ ys, okB 1004 y = true ∧ y.depth ≤ PyData.depthAll xs + 4) → ys.length ≤ 1004 → Q (.tuple ys) ∧ Q (.list ys) := fun ys hy hl => by
      have hdy : PyData.depthAll ys ≤ PyData.depthAll xs + 4 := depthAll_le.mpr fun y h => (hy y h).2
      exact ⟨q _ (okB_tuple.mpr ⟨fun y h => (hy y h).1, hl⟩) (by simp only [PyData.depth]; omega), q _ (okB_list.mpr ⟨fun y h => (hy y h).1, hl⟩) (by simp only [PyData.depth]; omega)⟩
    have xi' : ∀ y ∈ xs, okB 1004 y = true ∧ y.depth ≤ PyData.depthAll xs + 4 := fun y h => ⟨okB_mono (by decide) y (xi y h), Nat.le_trans (xdd y h) (by omega)⟩
    have ins : ∀ (k : Nat) (x : PyData), okB 1004 x = true ∧ x.depth ≤ PyData.depthAll xs + 4 → Q (.tuple (xs.take k ++ x :: xs.drop k)) := fun k x hx => (q2 _ (fun y h => by
      rcases List.mem_append.mp h with h | h
      · exact xi' y (List.mem_of_mem_take h)
      · rcases List.mem_cons.mp h with rfl | h
        · exact hx
        · exact xi' y (List.mem_of_mem_drop h)) (by rw [List.length_append, List.length_cons, List.length_take, List.length_drop]; omega)).1
    have hlen : xs.length < sizeLine := by rw [line24]; omega
    simp [c_draw, c_whole, last, c_spoilt, -Nat.reducePow, b7, b6, b3, b2, b12, s6, eqv_ii]
    have same : ∀ r : Int, 0 ≤ r → r < 2 → r = 0 → Q (.list xs) := fun _ _ _ _ => (q2 xs xi' (by omega)).2
    by_cases hn : xs = []
    · exact .inl ⟨hn, same⟩
    have hpos : 0 < xs.length := List.length_pos_iff.mpr hn
    refine .inr ⟨hpos, fun r r0 r7 => ?_⟩
    by_cases hr : r ≤ 0
    · exact .inl ⟨hr, same⟩
    refine .inr ⟨by omega, hpos, big1000 _ (by omega), fun k k0 kl o o0 o12 => ?_⟩
    obtain ⟨m, rfl⟩ : ∃ m : Nat, k = (m : Int) := ⟨k.toNat, (Int.toNat_of_nonneg k0).symm⟩
    have hm : m < xs.length := by omega
    have hat : atI xs (m : Int) = some xs[m] := atI_nat (by simp [hm])
    have hmem := List.getElem_mem hm
    by_cases h8 : 8 ≤ o
    · refine .inl ⟨h8, ?_⟩
      split
      · refine ⟨by omega, by omega, m, (ixN_seq (ixnat hm)).1, hm, (q2 _ (fun y h => xi' y (List.mem_of_mem_eraseIdx h)) (by rw [List.length_eraseIdx]; split <;> omega)).1⟩
      · split
        · refine ⟨hpos, big1000 _ (by omega), fun r2 r20 r2l => ?_⟩
          obtain ⟨m2, rfl⟩ : ∃ m : Nat, r2 = (m : Int) := ⟨r2.toNat, (Int.toNat_of_nonneg r20).symm⟩
          have hm2 : m2 < xs.length := by omega
          exact ⟨xs[m2], atI_nat (by simp [hm2]), hlen, k0, by omega, ins _ _ (xi' _ (List.getElem_mem hm2))⟩
        · split
          · exact (q2 _ (fun y h => xi' y (List.mem_reverse.mp h)) (by rw [List.length_reverse]; omega)).1
          · exact ⟨1, rfl, by decide, by decide, fun e h1 h2 => ⟨hlen, k0, by omega, ins _ _ ⟨okB_mono (by decide) e h1, by
              have : (1 : Int).toNat = 1 := rfl
              omega⟩⟩⟩
    · refine .inr ⟨by omega, _, hat, ?_, xi _ hmem, fun e h1 h2 => ⟨m, ixnat hm, ?_⟩⟩
      · have := xdd _ hmem
        simp only [PyData.depth] at hd
        omega
      · refine (q2 _ (fun y h => ?_) (by rw [List.length_set]; omega)).1
        rcases List.mem_or_eq_of_mem_set h with h | rfl
        · exact xi' y h
        · have := xdd _ hmem
          exact ⟨h1, by omega⟩
  | list xs =>
    obtain ⟨xi, xl⟩ := okB_list.mp hb
    have xd : PyData.depthAll xs ≤ n := by simp only [PyData.depth] at hd; omega
    have xdd := depthAll_le.mp (Nat.le_refl (PyData.depthAll xs))
    have q2 : ∀ ys : List PyData, (∀ y ∈ ys, okB 1004 y = true ∧ y.depth ≤ PyData.depthAll xs + 4) → ys.length ≤ 1004 → Q (.tuple ys) ∧ Q (.list ys) := fun ys hy hl => by
      have hdy : PyData.depthAll ys ≤ PyData.depthAll xs + 4 := depthAll_le.mpr fun y h => (hy y h).2
      exact ⟨q _ (okB_tuple.mpr ⟨fun y h => (hy y h).1, hl⟩) (by simp only [PyData.depth]; omega), q _ (okB_list.mpr ⟨fun y h => (hy y h).1, hl⟩) (by simp only [PyData.depth]; omega)⟩
    have xi' : ∀ y ∈ xs, okB 1004 y = true ∧ y.depth ≤ PyData.depthAll xs + 4 := fun y h => ⟨okB_mono (by decide) y (xi y h), Nat.le_trans (xdd y h) (by omega)⟩
    have ins : ∀ (k : Nat) (x : PyData), okB 1004 x = true ∧ x.depth ≤ PyData.depthAll xs + 4 → Q (.list (xs.take k ++ x :: xs.drop k)) := fun k x hx => (q2 _ (fun y h => by
      rcases List.mem_append.mp h with h | h
      · exact xi' y (List.mem_of_mem_take h)
      · rcases List.mem_cons.mp h with rfl | h
        · exact hx
        · exact xi' y (List.mem_of_mem_drop h)) (by rw [List.length_append, List.length_cons, List.length_take, List.length_drop]; omega)).2
    have hlen : xs.length < sizeLine := by rw [line24]; omega
    simp [c_draw, c_whole, last, c_spoilt, -Nat.reducePow, b7, b6, b3, b2, b12, s6, eqv_ii]
    have same : ∀ r : Int, 0 ≤ r → r < 2 → r = 0 → Q (.tuple xs) := fun _ _ _ _ => (q2 xs xi' (by omega)).1
    by_cases hn : xs = []
    · exact .inl ⟨hn, same⟩
    have hpos : 0 < xs.length := List.length_pos_iff.mpr hn
    refine .inr ⟨hpos, fun r r0 r7 => ?_⟩
    by_cases hr : r ≤ 0
    · exact .inl ⟨hr, same⟩
    refine .inr ⟨by omega, hpos, big1000 _ (by omega), fun k k0 kl o o0 o12 => ?_⟩
    obtain ⟨m, rfl⟩ : ∃ m : Nat, k = (m : Int) := ⟨k.toNat, (Int.toNat_of_nonneg k0).symm⟩
    have hm : m < xs.length := by omega
    have hat : atI xs (m : Int) = some xs[m] := atI_nat (by simp [hm])
    have hmem := List.getElem_mem hm
    by_cases h8 : 8 ≤ o
    · refine .inl ⟨h8, ?_⟩
      split
      · refine ⟨by omega, by omega, m, (ixN_seq (ixnat hm)).1, hm, (q2 _ (fun y h => xi' y (List.mem_of_mem_eraseIdx h)) (by rw [List.length_eraseIdx]; split <;> omega)).2⟩
      · split
        · refine ⟨hpos, big1000 _ (by omega), fun r2 r20 r2l => ?_⟩
          obtain ⟨m2, rfl⟩ : ∃ m : Nat, r2 = (m : Int) := ⟨r2.toNat, (Int.toNat_of_nonneg r20).symm⟩
          have hm2 : m2 < xs.length := by omega
          exact ⟨xs[m2], atI_nat (by simp [hm2]), hlen, k0, by omega, ins _ _ (xi' _ (List.getElem_mem hm2))⟩
        · split
          · exact (q2 _ (fun y h => xi' y (List.mem_reverse.mp h)) (by rw [List.length_reverse]; omega)).2
          · exact ⟨1, rfl, by decide, by decide, fun e h1 h2 => ⟨hlen, k0, by omega, ins _ _ ⟨okB_mono (by decide) e h1, by
              have : (1 : Int).toNat = 1 := rfl
              omega⟩⟩⟩
    · refine .inr ⟨by omega, _, hat, ?_, xi _ hmem, fun e h1 h2 => ⟨m, ixnat hm, ?_⟩⟩
      · have := xdd _ hmem
        simp only [PyData.depth] at hd
        omega
      · refine (q2 _ (fun y h => ?_) (by rw [List.length_set]; omega)).2
        rcases List.mem_or_eq_of_mem_set h with h | rfl
        · exact xi' y h
        · have := xdd _ hmem
          exact ⟨h1, by omega⟩
  | dict xs => simp [okB] at hb
  | bool b =>
    simp [c_draw, c_whole, last, c_spoilt, -Nat.reducePow, b7, b6, b3, b2, b12, s6, eqv_ii]
  | none =>
    simp [c_draw, c_whole, last, c_spoilt, -Nat.reducePow, b7, b6, b3, b2, b12, s6, eqv_ii]
end DL

namespace DL
open PySem PySem.Spec L2
def t1D : PyData := .tuple [.tuple [.str "fresh", .str "fresh", .str "fresh", .str "fresh"], .str "own"]
def t2D : PyData := .tuple [.str "fresh", .str "own"]
def t3D : PyData := .tuple [.tuple [.tuple [.str "no "], .str "own"]]
def t4D : PyData := .tuple [.tuple [.tuple [.str "no no fresh"], .str "own"]]
def oD : PyData := .tuple [.tuple [], .str "open"]
def t5D : PyData := .tuple [oD, oD, oD, oD, oD, oD, oD, oD]
def t6D : PyData := .tuple [oD, oD, oD, oD, oD, oD, oD, oD, oD]
def t7D : PyData := .tuple [.tuple [.tuple [], .str "meet"]]
section
variable {ρ : DE} {R1 : List Cl} {Q : PyData → Prop} {Y : EC}
theorem w_ru (h : ρ[3]? = some (.d (ruD R1))) (q : Q (ruD R1)) : wVar 3 ρ Q Y := by
  simp only [wVar, h]; exact q
theorem w_ruL (h : ρ[3]? = some (.d (ruD R1))) (q : Q (.list (R1.map clD))) : wCall fList (wCons (wVar 3) wNil) ρ Q Y := by
  simp only [wCall, wCons, wVar, wNil, h]; exact q
theorem w_a1 (h : ρ[3]? = some (.d (ruD R1))) (hl : R1.length ≤ 5) (q : Q (.tuple (R1.map clD ++ [t1D]))) : (w2 fAdd (wVar 3) (wTup (wCons (wTup (wCons (w2 fRep (wTup (wCons (wC (.str "fresh")) wNil)) (wC (.int 4))) (wCons (wC (.str "own")) wNil))) wNil))) ρ Q Y := by
  simp [line24, h, ruD_eq]
  exact ⟨by omega, q⟩
theorem w_a2 (h : ρ[3]? = some (.d (ruD R1))) (hl : R1.length ≤ 5) (q : Q (.tuple (R1.map clD ++ [t2D]))) : (w2 fAdd (wVar 3) (wTup (wCons (wTup (wCons (wC (.str "fresh")) (wCons (wC (.str "own")) wNil))) wNil))) ρ Q Y := by
  simp [line24, h, ruD_eq]
  exact ⟨by omega, q⟩
theorem w_a3 (q : Q t3D) : (wTup (wCons (wTup (wCons (wTup (wCons (wC (.str "no ")) wNil)) (wCons (wC (.str "own")) wNil))) wNil)) ρ Q Y := by
  simp [line24]
  exact q
theorem w_a4 (q : Q t4D) : (wTup (wCons (wTup (wCons (wTup (wCons (wC (.str "no no fresh")) wNil)) (wCons (wC (.str "own")) wNil))) wNil)) ρ Q Y := by
  simp [line24]
  exact q
theorem w_a5 (q : Q t5D) : (w2 fRep (wTup (wCons (wTup (wCons (wTup wNil) (wCons (wC (.str "open")) wNil))) wNil)) (wC (.int 8))) ρ Q Y := by
  simp [line24]
  exact q
theorem w_a6 (q : Q t6D) : (w2 fRep (wTup (wCons (wTup (wCons (wTup wNil) (wCons (wC (.str "open")) wNil))) wNil)) (wC (.int 9))) ρ Q Y := by
  simp [line24]
  exact q
theorem w_a7 (q : Q t7D) : (wTup (wCons (wTup (wCons (wTup wNil) (wCons (wC (.str "meet")) wNil))) wNil)) ρ Q Y := by
  simp [line24]
  exact q
end
def thA (R1 : List Cl) : List PyData := [ruD R1, .list (R1.map clD), .tuple (R1.map clD ++ [t1D]), .tuple (R1.map clD ++ [t2D]), t3D]
def thB : List PyData := [t4D, t5D, t6D, t7D]
theorem okB_ruD {R1 : List Cl} (h : okRu R1 = true) : (∀ x ∈ R1.map clD, okB 1000 x = true ∧ x.depth ≤ 2) := fun x hx => by
  obtain ⟨c, hc, rfl⟩ := List.mem_map.mp hx
  have k := clOk ((ruOk h).2 c hc)
  refine ⟨?_, by rw [depth_clD]; decide⟩
  unfold clD
  refine okB_tuple.mpr ⟨fun y hy => ?_, by simp⟩
  simp only [List.mem_cons, List.not_mem_nil, or_false] at hy
  rcases hy with rfl | rfl
  · refine okB_tuple.mpr ⟨fun z hz => ?_, by unfold strsD; rw [List.length_map]; have := k.n; omega⟩
    obtain ⟨t, ht, rfl⟩ := List.mem_map.mp hz
    have f := tests_facts t (k.t t ht)
    exact okB_str.mpr ⟨f.2.2.1, by omega⟩
  · have f := deeds_facts c.2 k.d
    exact okB_str.mpr ⟨f.2.1, by omega⟩
section
variable {ρ : DE} {R1 : List Cl} {Q : PyData → Prop} {Y : EC}
theorem e_A (h : ρ[3]? = some (.d (ruD R1))) (hl : R1.length ≤ 5) (q : Q (.list (thA R1))) : (wLst (wCons (wVar 3) (wCons (wCall fList (wCons (wVar 3) wNil)) (wCons (w2 fAdd (wVar 3) (wTup (wCons (wTup (wCons (w2 fRep (wTup (wCons (wC (.str "fresh")) wNil)) (wC (.int 4))) (wCons (wC (.str "own")) wNil))) wNil))) (wCons (w2 fAdd (wVar 3) (wTup (wCons (wTup (wCons (wC (.str "fresh")) (wCons (wC (.str "own")) wNil))) wNil))) (wCons (wTup (wCons (wTup (wCons (wTup (wCons (wC (.str "no ")) wNil)) (wCons (wC (.str "own")) wNil))) wNil)) wNil)))))) ρ Q Y := by
  simp [line24, h, ruD_eq]
  exact ⟨by omega, q⟩
theorem e_B {xs : List PyData} (h : ρ[4]? = some (.d (.list xs))) (hl : xs.length ≤ 5) (q : Q (.list (xs ++ thB))) : (w2 fAdd (wVar 4) (wLst (wCons (wTup (wCons (wTup (wCons (wTup (wCons (wC (.str "no no fresh")) wNil)) (wCons (wC (.str "own")) wNil))) wNil)) (wCons (w2 fRep (wTup (wCons (wTup (wCons (wTup wNil) (wCons (wC (.str "open")) wNil))) wNil)) (wC (.int 8))) (wCons (w2 fRep (wTup (wCons (wTup (wCons (wTup wNil) (wCons (wC (.str "open")) wNil))) wNil)) (wC (.int 9))) (wCons (wTup (wCons (wTup (wCons (wTup wNil) (wCons (wC (.str "meet")) wNil))) wNil)) wNil)))))) ρ Q Y := by
  simp [line24, h]
  exact ⟨by omega, q⟩
theorem e_C {xs : List PyData} {Q : List PyData → Prop} (h1 : ρ[1]? = some .tp) (h : ρ[3]? = some (.d (ruD R1))) (h4 : ρ[4]? = some (.d (.list xs))) (ok : okRu R1 = true) (hl : xs.length = 9) (hg : ∀ x ∈ xs, goodD x = true) (q : ∀ ys : List PyData, (∀ y ∈ ys, goodD y = true) → ys.length = 22 → Q ys) :
    (wItL (w2 fAdd (w2 fAdd (wVar 4) (wOfF (wLc (.one 6) wYes (wFnT 1 (c_spoilt 4) (wCons (wVar 3) wNil)) [6] (wRng (wC (.int 10)))))) (wLst (wCons (wFnT 1 (c_any 4) (wCons (wC (.int 3)) wNil)) (wCons (wC .none) (wCons (wTup wNil) wNil)))))) ρ Q Y := by
  simp only [wItL, w2, wVar, wOfF, wLc, wRng, wC, h4]
  refine ⟨_, rfl, by decide, by decide, ?_⟩
  refine compW_all (fun y => goodD y = true) (fun d hd K hK => ?_) (by rw [rng_len, line24]; decide) (by simp) fun ys hy hy2 => ?_
  · have i1 : (List.set (wipeD ρ [6]) 6 (.d d))[1]? = some .tp := by
      rw [List.getElem?_set_ne (by decide)]
      show (ρ.set 6 .un)[1]? = _
      rw [List.getElem?_set_ne (by decide)]; exact h1
    have i3 : (List.set (wipeD ρ [6]) 6 (.d d))[3]? = some (.d (ruD R1)) := by
      rw [List.getElem?_set_ne (by decide)]
      show (ρ.set 6 .un)[3]? = _
      rw [List.getElem?_set_ne (by decide)]; exact h
    refine ⟨i1, ?_⟩
    simp only [wCons, wVar, i3, wNil]
    refine ⟨_, rfl, depth_ruD R1, okB_tuple.mpr ⟨fun x hx => (okB_ruD ok x hx).1, ?_⟩, fun e o1 o2 => hK e (okB_good (by decide) o1 ?_)⟩
    · rw [List.length_map]; have := (ruOk ok).1; omega
    · have := depth_ruD R1; omega
  · rw [rng_len] at hy
    rw [fAdd_lst]
    have hy' : ys.length = 10 := hy
    refine ⟨by rw [line24]; omega, ?_⟩
    refine ⟨h1, 3, rfl, by decide, by decide, fun e o1 o2 => ⟨by rw [line24]; decide, (by rw [line24]; simp : ([e, .none, .tuple []] : List PyData).length ≤ sizeLine), ?_⟩⟩
    show fAdd (.list (xs ++ ys)) (.list [e, .none, .tuple []]) (fun d => ∃ ds, d = .list ds ∧ Q ds)
    rw [fAdd_lst]
    refine ⟨by rw [List.length_append, line24]; simp; omega, _, rfl, q _ (fun y hy3 => ?_) (by rw [List.length_append, List.length_append]; simp; omega)⟩
    rcases List.mem_append.mp hy3 with hy3 | hy3
    · rcases List.mem_append.mp hy3 with hy3 | hy3
      · exact hg y hy3
      · exact hy2 y hy3
    · simp only [List.mem_cons, List.not_mem_nil, or_false] at hy3
      rcases hy3 with rfl | rfl | rfl
      · exact okB_good (by decide) o1 (by have : (3 : Int).toNat = 3 := rfl; omega)
      · exact goodD_of rfl (by decide)
      · exact goodD_of rfl (by decide)
end
theorem goodBl (b : Bool) : goodD (.bool b) = true := goodD_of rfl (by simp only [PyData.depth]; decide)
theorem likeBl (b : Bool) : likeD (.bool b) (.bool b) = true := likeD_refl _ (by simp only [PyData.canLay0])
theorem good_th {R1 : List Cl} (ok : okRu R1 = true) : ∀ x ∈ thA R1 ++ thB, goodD x = true := by
  have h := okB_ruD ok
  have hl := (ruOk ok).1
  have T1 : okB 1000 t1D = true ∧ t1D.depth ≤ 2 := by decide +kernel
  have T2 : okB 1000 t2D = true ∧ t2D.depth ≤ 2 := by decide +kernel
  have T3 : goodD t3D = true ∧ ∀ x ∈ thB, goodD x = true := by decide +kernel
  have two : ∀ l : List PyData, (∀ x ∈ l, okB 1000 x = true ∧ x.depth ≤ 2) → l.length ≤ 1000 → goodD (.tuple l) = true ∧ goodD (.list l) = true := fun l h1 h2 => by
    have hd : PyData.depthAll l ≤ 2 := depthAll_le.mpr fun x hx => (h1 x hx).2
    exact ⟨okB_good (b := 1000) (by decide) (okB_tuple.mpr ⟨fun x hx => (h1 x hx).1, h2⟩) (by simp only [PyData.depth]; omega), okB_good (b := 1000) (by decide) (okB_list.mpr ⟨fun x hx => (h1 x hx).1, h2⟩) (by simp only [PyData.depth]; omega)⟩
  have app : ∀ t : PyData, okB 1000 t = true ∧ t.depth ≤ 2 → goodD (.tuple (R1.map clD ++ [t])) = true := fun t ht => (two _ (fun x hx => by
    rcases List.mem_append.mp hx with hx | hx
    · exact h x hx
    · rw [List.mem_singleton.mp hx]; exact ht) (by rw [List.length_append, List.length_map]; simp; omega)).1
  intro x hx
  rcases List.mem_append.mp hx with hx | hx
  · unfold thA at hx
    simp only [List.mem_cons, List.not_mem_nil, or_false] at hx
    rcases hx with rfl | rfl | rfl | rfl | rfl
    · exact (two _ h (by rw [List.length_map]; omega)).1
    · exact (two _ h (by rw [List.length_map]; omega)).2
    · exact app _ T1
    · exact app _ T2
    · exact T3.1
  · exact T3.2 x hx
theorem vc_lawk01 : ∀ N R Y, R (.bool true) → W_lawk01 (rho0 5) N R Y := by
  intro N R Y q
  have hz : ∀ n : Nat, n ≤ 2000 → n ≤ sizeLine := fun n h => by rw [line24]; omega
  unfold W_lawk01
  refine ⟨_, rfl, by decide, by decide, ?_⟩
  refine forW_from (fun pre ρ => ∃ s0 s2 s3 s4 s5 s6, ρ = [s0, .tp, s2, s3, s4, s5, s6]) ⟨_, _, _, _, _, _, rfl⟩ ?_ ?_
  · rintro pre d post ρ e ⟨s0, s2, s3, s4, s5, s6, rfl⟩ K hK
    refine ⟨rfl, 5, rfl, by decide, by decide, fun R1 ok1 l1 => ?_⟩
    have l1' : R1.length ≤ 5 := by omega
    simp only [wSeq, wSet]
    refine e_A (R1 := R1) rfl l1' ?_
    refine e_B (xs := thA R1) rfl (Nat.le_refl 5) ?_
    refine e_C (R1 := R1) (xs := thA R1 ++ thB) rfl rfl rfl ok1 rfl (good_th ok1) fun ys hy hl => ?_
    refine forW_from (fun pre ρ => ∃ s4 s5 s6, ρ = [s0, .tp, .d d, .d (ruD R1), s4, s5, s6]) ⟨_, _, _, rfl⟩ ?_ ?_
    · rintro pre2 d2 post2 ρ e2 ⟨s4', s5', s6', rfl⟩ K2 hK2
      have g2 := hy d2 (by rw [e2]; simp)
      simp [c_is_rule, c_like, g2, goodBl, likeBl, PyData.depth]
      refine ⟨_, _, ⟨rfl, rfl⟩, goodBl _, goodBl _, by simp only [PyData.depth], ?_⟩
      rw [if_pos (likeBl _)]
      exact hK2 _ ⟨_, _, _, rfl⟩
    · rintro ρ ⟨s4', s5', s6', rfl⟩
      exact hK _ ⟨_, _, _, _, _, _, rfl⟩
  · rintro ρ ⟨s0, s2, s3, s4, s5, s6, rfl⟩
    exact q
end DL

namespace DL
open PySem PySem.Spec L2
open PyProof.Rows (envOfC)
section
variable {Z : DC → Prop} {X : Cx} {E : XK} {a b e : Expr} {wa wb : DW} {pos : Pos}
/-! ### further new lists -/
@[simp] def wSplitF (wa wb : DW) : DAW := fun ρ Q Y => wa ρ (fun x => ∃ z, x = .str z ∧ wb ρ (fun y => ∃ s, y = .str s ∧ (s.length == 0) = false ∧ z.length + 2 ≤ sizeLine ∧ Q (strsD (Txt.split z s))) Y) Y
theorem pf_split {apos : Pos} (ha : PD Z X E a wa) (hb : PD Z X E e wb) (hs : starEach [e] X.env = [(false, eval e X.env)] := by rfl) (hbase : attributeBase a "split" X.env (eval a X.env) = eval a X.env := by rfl) (hline : (apos.endLine == pos.line) = true := by rfl) :
    PF Z X E (.Call (.Attribute a "split" apos) [e] [] pos) (wSplitF wa wb) := by
  refine ⟨PEimp (pe_split ha.pe hb.pe hs hbase hline) fun σ H Q ⟨C, H0, G0, G, ρ, S, q⟩ => ?_, fun ρ Q Q' Y Y' k ky q => ha.mono _ _ _ _ _ (fun x ⟨z, e1, q⟩ => ⟨z, e1, hb.mono _ _ _ _ _ (fun y ⟨s, e2, h1, h2, q⟩ => ⟨s, e2, h1, h2, k _ q⟩) ky q⟩) ky q⟩
  refine ⟨C, H0, G0, G, ρ, S, ha.mono _ _ _ _ _ (fun x q => ?_) idY q⟩
  obtain ⟨z, rfl, q⟩ := q
  intro v H1 G1 x1 j1 a1
  cases a1
  refine ⟨⟨z, rfl⟩, C, H0, G0, G1, ρ, S.step x1 j1, hb.mono _ _ _ _ _ (fun y q => ?_) (RX.step x1) q⟩
  obtain ⟨s, rfl, h1, h2, q⟩ := q
  intro u H2 G2 x2 j2 a2
  cases a2
  exact ⟨z, s, rfl, rfl, h1, h2, fun p hp => RF.new (RF.step (RF.step q x1) x2) x2.sub j2 (strs_at _) p hp⟩
@[simp] def wAddF (wa wb : DW) : DAW := fun ρ Q Y => wa ρ (fun x => wb ρ (fun y => ∃ xs ys, x = .list xs ∧ y = .list ys ∧ xs.length + ys.length ≤ sizeLine ∧ Q (xs ++ ys)) Y) Y
theorem pf_add (ha : PD Z X E a wa) (hb : PD Z X E b wb) : PF Z X E (.BinOp a .Add b pos) (wAddF wa wb) := by
  refine ⟨PEimp (pe_op op_cat ha.pe hb.pe) fun σ H Q ⟨C, H0, G0, G, ρ, S, q⟩ => ?_, fun ρ Q Q' Y Y' k ky q => ha.mono _ _ _ _ _ (fun x q => hb.mono _ _ _ _ _ (fun y ⟨xs, ys, e1, e2, h, q⟩ => ⟨xs, ys, e1, e2, h, k _ q⟩) ky q) ky q⟩
  refine ⟨C, H0, G0, G, ρ, S, ha.mono _ _ _ _ _ (fun x q => ?_) idY q⟩
  intro v H1 G1 x1 j1 a1
  refine ⟨C, H0, G0, G1, ρ, S.step x1 j1, hb.mono _ _ _ _ _ (fun y q => ?_) (RX.step x1) q⟩
  intro u H2 G2 x2 j2 a2
  obtain ⟨xs, ys, rfl, rfl, h, q⟩ := q
  have a1' := a1.same x2.gs
  cases a1' with
  | lst e1 t1 => cases a2 with
    | lst e2 t2 => exact ⟨_, _, _, _, rfl, rfl, x2.sub _ _ e1, x2.sub _ _ e2, by rw [t1.length, t2.length]; exact h, fun p hp => RF.new (RF.step (RF.step q x1) x2) x2.sub j2 (t1.append t2) p hp⟩
/-! ### two names at once -/
theorem pd1_parL {i j : Nat} {x y : Str} {wA : DAW} {px py pt pt2 : Pos} {kt k2 : Nat} (hc : X.calm = true) (h : PDA Z X E [a, b] wA) (hN : X.N.Nodup) (hi : X.N[i]? = some x := by rfl) (hj : X.N[j]? = some y := by rfl) (hij : i ≠ j := by decide)
    (hx : X.env.scope.names.lookup x = some .local := by rfl) (hy : X.env.scope.names.lookup y = some .local := by rfl)
    (hw : swappedStores [.Tuple [.Name x px, .Name y py] kt pt] (.Tuple [a, b] k2 pt2) X.env = pure (some [x, y]) := by rfl)
    (hs : swapsWithSole [.Tuple [.Name x px, .Name y py] kt pt] (.Tuple [a, b] k2 pt2) pos.line X.env = pure false := by rfl) :
    PD1 Z X E (.Assign [.Tuple [.Name x px, .Name y py] kt pt] (.Tuple [a, b] k2 pt2) pos) (wPar i j wA) :=
  pd1_par (x := x) (y := y) (px := px) (py := py) (pt := pt) (kt := kt) (k2 := k2) (pt2 := pt2) hc h hN hi hj hij fun ta hp => ps_par hc hN hi hj hij hx hy hp hw hs
/-- the first one a new list -/
@[simp] def wParM (i j : Nat) (wF : DAW) (w : DW) : DWS := fun ρ N _ Y => wF ρ (fun ds => w ρ (fun d => N ((ρ.set j (.d d)).set i (.ml ds))) Y) Y
theorem pd1_parM {i j : Nat} {x y : Str} {wF : DAW} {px py pt pt2 : Pos} {kt k2 : Nat} (hc : X.calm = true) (ha : PF Z X E a wF) (hb : PD Z X E b wb) (hN : X.N.Nodup) (hi : X.N[i]? = some x := by rfl) (hj : X.N[j]? = some y := by rfl) (hij : i ≠ j := by decide)
    (hx : X.env.scope.names.lookup x = some .local := by rfl) (hy : X.env.scope.names.lookup y = some .local := by rfl)
    (hw : swappedStores [.Tuple [.Name x px, .Name y py] kt pt] (.Tuple [a, b] k2 pt2) X.env = pure (some [x, y]) := by rfl)
    (hs : swapsWithSole [.Tuple [.Name x px, .Name y py] kt pt] (.Tuple [a, b] k2 pt2) pos.line X.env = pure false := by rfl)
    (he1 : starEach [a, b] X.env = (false, eval a X.env) :: starEach [b] X.env := by rfl) (he2 : starEach [b] X.env = (false, eval b X.env) :: starEach [] X.env := by rfl) :
    PD1 Z X E (.Assign [.Tuple [.Name x px, .Name y py] kt pt] (.Tuple [a, b] k2 pt2) pos) (wParM i j wF wb) := by
  refine ⟨PSimp (ps_par hc hN hi hj hij hx hy (pa_cons ha.pe (pa_cons hb.pe pa_nil he2) he1) hw hs) fun D σ H ⟨C, H0, G0, G, ρ, S, q⟩ => ?_, fun ρ N N' R R' Y Y' k kr ky q => ha.mono _ _ _ _ _ (fun ds q => hb.mono _ _ _ _ _ (fun d q => k _ q) ky q) ky q⟩
  refine ⟨C, H0, G0, G, ρ, S, ha.mono _ _ _ _ _ (fun ds q => ?_) (RX.step S.ext) q⟩
  intro p vs H1 G1 x1 j1 hn gn hp t
  have S1 := S.step x1 j1
  refine ⟨C, H0, G0, G1, ρ, S1, hb.mono _ _ _ _ _ (fun d q => ?_) (RX.step S1.ext) q⟩
  intro v H2 G2 x2 j2 a2
  have h0 : H0 p = none := by
    cases z : H0 p with
    | none => rfl
    | some o =>
      obtain ⟨o', e'⟩ := S.ext.there p o z
      rw [hn] at e'; cases e'
  have hp2 : H2 p = some (.lst vs) := x2.same p _ (C.nM S.f0 h0) hp
  have gn2 : G2 p = none := x2.sep p _ hp gn
  have S2 := (S1.step x2 j2).set (i := j) a2
  refine ⟨_, _, rfl, ?_⟩
  have e2 : ((σ.set i (some (V.ref p))).set j (some v)) = ((σ.set j (some v)).set i (some (V.ref p))) := List.set_comm _ _ hij
  rw [e2]
  refine RN.now q (S2.setMl hp2 gn2 h0 (t.same x2.gs) fun l xs _ e1 e3 => ?_) fun b o z => x2.gs b o (x1.gs b o z)
  have hl : j ≠ l := fun z => by
    subst z
    have hlt : j < ρ.length := by
      have := (List.getElem?_eq_some_iff.mp e1).1
      simpa using this
    rw [List.getElem?_set_self hlt] at e1
    cases e1
  rw [List.getElem?_set_ne hl] at e1 e3
  obtain ⟨b', us, q1, q2, _⟩ := S.ml e1
  rw [e3] at q1
  cases q1
  rw [hn] at q2; cases q2
end

/-! ### defs that let errors out -/
abbrev TkE (X : Cx) (E : XK) : Prop := Takes X (fun cls d _ H => E cls d H)
section
variable {P : Program} {w : World} {K : PySem.W.Frag} {mg : Str → Option Value} {base : Heap}
theorem fn_pureX {x qual : Str} {st : Stmt} {f : Addr} {fd : FuncData} {N ps : List Str} {k : Nat} {c : FNC} {W : DWS} (F : Fun K x qual st f fd) (S : FnScope N ps (defScope st))
    (vc : ∀ ds Q Y, c ds Q Y → ds.length = ps.length ∧ W (startD N ds) (fun _ => Q .none) Q Y)
    (body : ∀ (cdv : Value) (A : Around) (outer : List Env) (s : Shared) (H : Hp) (E : XK), Room k (A.deeper (envOfC qual (defScope st) s.heap.objs.size f cdv)) → PDs (fun _ => True) (cxOf (L2.CX P w) P w K mg base N qual (defScope st) f cdv A outer s H E) E (defBody st) W) : FnOk P w K mg base (L2.CX P w) (k + 1) f fd ps (spP K mg c) := by
  refine F.okX S (fun vs H Q E ⟨G, ds, s, a, q⟩ => by rw [a.length]; exact (vc _ _ _ q).1) fun cdv A outer s0 H vs Q E hr h => ⟨tWS _ _ E W, (body cdv A outer s0 H E hr).ps, ?_⟩
  obtain ⟨G, ds, s, a, q⟩ := h
  refine ⟨pureC, H, G, G, _, ds_start s a trivial, (body cdv A outer s0 H E hr).mono _ _ _ _ _ _ _ (fun ρ' q => ?_) (fun _ h => h) idY (vc _ _ _ q).2⟩
  intro σ' H' G' S' g'
  exact q .non H' G' S'.ext S'.j .non
end

/-! ### an own error with one field, whose __init__ asks its base's -/
/-- what __init__ keeps -/
def spInit (C : Addr) (f : Str) : Sp := fun vs H Q _ => ∃ (a : Addr) (v : V), vs = [.ref a, v] ∧ H a = some (exo a C none) ∧ ∀ dx, H dx = none → dx ≠ a → Q .non (upd (upd H dx (exd dx [(f, v)])) a (exo a C (some dx)))
/-- what the top has written of the class nm at C and of its base at B -/
structure FErr (P : Program) (w : World) (K : PySem.W.Frag) (mg : Str → Option Value) (base : Heap) (nm f : Str) (k : Nat) (C : Addr) : Prop where
  gC : mg nm = some (.ref C)
  ox : OexC K C
  ga : PySem.W.findIn K (.ref C) "__getattribute__" = some (some (.builtin "BaseException.__getattribute__"))
  gg : PySem.W.findIn K (.ref C) "__getattr__" = some none
  noN : PySem.W.findIn K (.ref C) f = some none
  hdC : PySem.W.hasDictIn K C = true
  te : PySem.W.exmOne K (.ref C) (.ref C) = some true
  init : ∃ (fI : Addr) (fd : FuncData), PySem.W.findIn K (.ref C) "__init__" = some (some (.ref fI)) ∧ PySem.W.typeIn K (.ref fI) = some (.type "function") ∧ FnOk P w K mg base CX0 k fI fd ["self", f] (spInit C f) ∧ Binds K fd ["self", f] []
/-- B.__init__(self, ..), B an own class without own __init__ -/
structure BInit (K : PySem.W.Frag) (mg : Str → Option Value) (B : Str) : Prop where
  ex : ∃ (b : Addr) (mc : Value), mg B = some (.ref b) ∧ PySem.W.readsIn K b mc = true ∧ PySem.W.specialIn K (.ref b) "__getattribute__" = some (some (.builtin "type.__getattribute__")) ∧ PySem.W.findCls K (.ref b) mc "__init__" = some (.val (.builtin "ValueError.__init__"))
/-- an error of the class at S is what «except S» names -/
theorem exm_self {K : PySem.W.Frag} {S : Addr} (h1 : PySem.W.subIn K (.ref S) (.type "BaseException") = some true) (h2 : PySem.W.isClsIn K S = true) (h3 : PySem.W.typeIn K (.ref S) = some (.type "type")) (h4 : PySem.W.subIn K (.ref S) (.ref S) = some true) :
    PySem.W.exmOne K (.ref S) (.ref S) = some true := by
  have e1 : (PySem.W.subIn K (.ref S) (.type "BaseException") == some true) = true := by rw [h1] <;> rfl
  have e2 : ((PySem.W.clsIn K S).isSome && PySem.W.typeIn K (.ref S) == some (.type "type")) = true := by
    have h2' : (PySem.W.clsIn K S).isSome = true := h2
    rw [h2', h3] <;> rfl
  show (if (PySem.W.subIn K (.ref S) (.type "BaseException") == some true) = true then (if ((PySem.W.clsIn K S).isSome && PySem.W.typeIn K (.ref S) == some (.type "type")) = true then PySem.W.subIn K (.ref S) (.ref S) else none) else none) = some true
  rw [if_pos e1, if_pos e2]
  exact h4
/-- the body of a class statement -/
def clsBody : Stmt → List Stmt
  | .ClassDef _ _ _ body .. => body
  | _ => []
section
variable {Z : DC → Prop} {X : Cx} {E : XK} {e : Expr} {es : List Expr} {ta : TA} {B nm f : Str} {p p1 p2 pos pos2 : Pos} {w : DW} {k : Nat} {C : Addr}
theorem pe_binit {pl : Sem Bool} (T : BInit X.K X.mg B) (hg : Gl X B) (ha : PA X (e :: es) ta)
    (hc : eval (.Call (.Attribute (.Name B p1) "__init__" p2) (e :: es) [] pos) X.env = (do
      let ov ← eval (.Name B p1) X.env
      standAt p2.atName
      let (f, first) ← holding [ov] (getMethod ov "__init__" pl)
      callWith pos f first (backTo pos (starEach (e :: es) X.env)) (backToKw pos (keywordEach [] X.env))) := by rfl)
    (he : starEach (e :: es) X.env = (false, eval e X.env) :: starEach es X.env := by rfl) (hpl : (backTo pos (starEach es X.env)).any (·.1) = false := by rfl) (hdb : (B == ("__debug__" : Str)) = false := by decide) :
    PE X (.Call (.Attribute (.Name B p1) "__init__" p2) (e :: es) [] pos) (tVeI X.K ta) := by
  obtain ⟨b, mc, hm, hr, hga, hf⟩ := T.ex
  refine ⟨fun pins s σ H Q I h => ?_⟩
  refine PySem.W.methodCall_KW (ld_glob I hg hm ?_ hdb) hc
  refine PySem.W.method_cls I.kIn hga (PySem.W.cls_value I.kIn hr hf (by decide +kernel) ?_)
  show wpAny _ _ (callWith pos (Value.builtin "ValueError.__init__") [] (backTo pos (starEach (e :: es) X.env)) []) _ _ _
  refine PyProof.Rows.callWith_method1 (thn (ha.run pos pins _ σ H _ (I.tok _) h) fun us s1 ⟨vs, H1, I1, r1, a, C, ws, ev, hl, T, ea, q⟩ => ?_) he hpl
  subst ev
  cases r1 with
  | @cons _ u0 _ ur ra rw' =>
    obtain rfl : u0 = Value.ref a := ra
    have hlen : ur.length ≤ sizeLine := by
      rw [← Paired.length rw', sizeLine_eq]
      omega
    exact oinit_ok T I1 ea hlen fun s' J => ⟨.non, H1, J, rfl, q⟩
/-- raise nm(e) -/
@[simp] def wRaiseF (nm f : Str) (w : DW) : DWS := fun ρ _ _ Y => w ρ (fun d => Y (.field nm f d)) Y
theorem pd1_raiseF (T : FErr X.prog X.w X.K X.mg X.base nm f k C) (hc : X.calm = true) (hr : Room (k + 1) X.A) (tk : TkE X E) (h : PD Z X E e w) (hg : Gl X nm := by rfl)
    (hdb : (nm == ("__debug__" : Str)) = false := by decide) (he : starEach (e :: []) X.env = (false, eval e X.env) :: starEach [] X.env := by rfl) (hpl : (backTo pos (starEach [] X.env)).any (·.1) = false := by rfl) :
    PD1 Z X E (.Raise (some (.Call (.Name nm p) [e] [] pos)) none pos2) (wRaiseF nm f w) := by
  obtain ⟨fI, fd, iC, tI, F1, hb⟩ := T.init
  refine ⟨PSimp (ps_raise hc tk (pmk_oex T.ox iC tI F1 hr hb .nil passA hg T.gC (pa_cons h.pe pa_nil he) hdb he hpl)) fun D σ H ⟨C0, H0, G0, G, ρ, S, q⟩ => ?_, fun ρ N N' R R' Y Y' k kr ky q => h.mono _ _ _ _ _ (fun d q => ky _ q) ky q⟩
  refine ⟨C0, H0, G0, G, ρ, S, h.mono _ _ _ _ _ (fun d q => ?_) (RX.step S.ext) q⟩
  intro v H1 G1 x1 j1 a1
  have S1 := S.step x1 j1
  refine ⟨by show 1 ≤ 1000; decide, fun a ha => ?_⟩
  refine ⟨a, v, rfl, upd_same, fun dx hd hda => ⟨rfl, dx, [(f, v)], upd_same, by rw [upd_ne hda, upd_same], ?_, ?_⟩⟩
  · rwa [upd_ne hda] at hd
  · have hd1 : H1 dx = none := by rwa [upd_ne hda] at hd
    have eH : upd (del (upd (upd (upd H1 a (exo a C none)) dx (exd dx [(f, v)])) a (exo a C (some dx))) a) dx (.xd [(f, v)]) = upd H1 dx (.xd [(f, v)]) := by
      funext b
      by_cases hb : b = dx
      · rw [hb, upd_same, upd_same]
      · rw [upd_ne hb, upd_ne hb]
        by_cases hb2 : b = a
        · rw [hb2, del_same, ha]
        · rw [del_ne hb2, upd_ne hb2, upd_ne hb, upd_ne hb2]
    rw [eH]
    have g1 : G1 dx = none := by
      cases z : G1 dx with
      | none => rfl
      | some o => rw [x1.sub _ _ z] at hd1; cases hd1
    have h0 : H0 dx = none := by
      cases z : H0 dx with
      | none => rfl
      | some o =>
        obtain ⟨o', e'⟩ := S1.ext.there dx o z
        rw [hd1] at e'; cases e'
    exact q C dx v _ G1 T.gC (S1.ext.trans (Ext.newM x1.sub hd1)) (C0.jnew hd1 j1) upd_same h0 g1 a1
/-- a def that may let errors out, called where it lets none out -/
@[simp] def wFnN (c : FNC) (wA : DAW) : DW := fun ρ Q Y => wA ρ (fun ds => c ds Q (fun _ => False)) Y
theorem passN {X : Cx} : Passes (L2.CX X.prog X.w) X (fun _ _ _ => False) := fun _ _ _ _ _ _ _ ⟨_, _, _, _, _, _, _, _, _, _, _, _, h⟩ => h.elim
theorem RX.no {C : DC} {K : PySem.W.Frag} {mg : Str → Option Value} {G H : Hp} {E : XK} : ∀ y : ExD, False → RX K mg C G H E y := fun _ h => h.elim
theorem pd_callN {x : Str} {ps : List Str} {c : FNC} {wA : DAW} {k : Nat} (D : FD X.prog X.w X.K X.mg X.base (L2.CX X.prog X.w) x ps k (spP X.K X.mg c)) (mc : MoF c) (hr : Room k X.A) (ha : PDA Z X E (e :: es) wA) (hg : Gl X x := by rfl)
    (hdb : (x == ("__debug__" : Str)) = false := by decide) (he : starEach (e :: es) X.env = (false, eval e X.env) :: starEach es X.env := by rfl) (hpl : (backTo pos (starEach es X.env)).any (·.1) = false := by rfl) :
    PD Z X E (.Call (.Name x p) (e :: es) [] pos) (wFnN c wA) := by
  obtain ⟨f, fd, F, hm, hk, hb⟩ := D.ex
  refine ⟨PEimp (pe_call F hr hg hm hk hb .nil passN ha.pa hdb he hpl) fun σ H Q ⟨C, H0, G0, G, ρ, S, q⟩ => ?_, fun ρ Q Q' Y Y' k ky q => ha.mono _ _ _ _ _ (fun ds q => mc _ _ _ _ _ k (fun _ h => h) q) ky q⟩
  refine ⟨C, H0, G0, G, ρ, S, ha.mono _ _ _ _ _ (fun ds q => ?_) idY q⟩
  intro vs H1 G1 x1 j1 a1
  refine ⟨G1, ds, x1.sub, by rw [List.append_nil]; exact a1, mc _ _ _ _ _ (fun d q => (RQ.step q x1).pure j1) (fun y q => q.elim) q⟩
/-- e.f, e the error that the suite holds -/
def tByF (f : Str) (C : Addr) (a : Addr) (cls : Value) (d : Option Addr) (te : TE) : TE := fun σ H Q => te σ H fun x H1 => x = .ref a ∧ cls = .ref C ∧ ∃ (dd : Addr) (v : V), d = some dd ∧ H1 dd = some (.xd [(f, v)]) ∧ Q v H1
theorem pe_byF {a : Addr} {oe : Obj} {cls : Value} {d : Option Addr} {pn : List (Addr × Obj)} {e : Expr} {te : TE} {pos : Pos} (T : FErr X.prog X.w X.K X.mg X.base nm f k C) (hz : Zc cls d oe) (hf : ∃ vs, oe.data = .fields vs) (he : PE (X.suite a ((a, oe) :: pn)) e te)
    (hb : attributeBase e f X.env (eval e X.env) = eval e X.env := by rfl) :
    PE (X.suite a ((a, oe) :: pn)) (.Attribute e f pos) (tByF f C a cls d te) := by
  refine ⟨fun pins s σ H Q I h => ?_⟩
  refine attr_of hb (thn (he.run pins s σ H _ I h) fun u s1 hh => ?_)
  obtain ⟨x, H1, I1, rx, ex, ec, dd, v, ed, ea, q⟩ := hh
  subst ex
  obtain rfl : u = Value.ref a := rx
  subst ec
  subst ed
  obtain ⟨ha, _⟩ := I1.pin (a, oe) (List.mem_append_left _ List.mem_cons_self)
  obtain ⟨vs, hd⟩ := hf
  have hx : ObjOk X.prog X.w H1 s1.heap dd (.xd [(f, v)]) := I1.hok dd _ ea
  obtain ⟨mA, hns, hr⟩ := hx
  obtain ⟨od, ho, hl⟩ := lookIn_ns hns
  have l : List.lookup f [(f, v)] = some v := by simp [List.lookup]
  obtain ⟨u, hu, ru⟩ := RelO.some_of (v := v) (o := mA f) (by rw [← l]; exact hr f)
  have J : PySem.W.InstAt s1.heap a oe C (some od) := ⟨ha, hz.1, by unfold PySem.W.notCls; rw [hd] <;> rfl, by rw [hz.2]; exact ho⟩
  exact HandSPX.exc_get I1.kIn J T.ga T.gg T.ox.exC (PySem.W.findObj_own T.hdC T.noN rfl (by rw [hl, hu])) (handed_of ru) ⟨v, H1, I1.tok _, ru, q⟩
end
end DL

namespace DL
open PySem PySem.Spec L2
def lineOk (z : Str) : Bool := match lineRead z with
  | .none => false
  | _ => true
def rdL : Nat → List Str → Sum Nat (List PyData)
  | _, [] => .inr []
  | n, l :: ls => if lineOk l = false ∨ n = 8 then .inl (n + 1) else match rdL (n + 1) ls with
    | .inl m => .inl m
    | .inr cs => .inr (lineRead l :: cs)
def linesOf (z : Str) : List Str := if z = ("" : Str) then [] else Txt.split z "\n"
/-- what is read: the line that is wrong, or the rule -/
def rdX : PyData → Sum Nat PyData
  | .str z => match rdL 0 (linesOf z) with
    | .inl m => .inl m
    | .inr cs => .inr (.tuple cs)
  | _ => .inl 0
def toldD (r : Sum Nat PyData) : PyData := match r with
  | .inl n => .int n
  | .inr t => t
def dueD (r : Sum Nat PyData) : PyData := match r with
  | .inl n => .int n
  | .inr _ => .none
def c_readX : FNC := fun ds Q Y => ∃ d, ds = [d] ∧ goodD d = true ∧ (∀ n, rdX d = .inl n → Y (.field "InvalidText" "line" (.int n))) ∧ ∀ t, rdX d = .inr t → Q t
theorem mo_readX : MoF c_readX := fun ds Q Q' Y Y' k ky ⟨d, e, h, q, r⟩ => ⟨d, e, h, fun n z => ky _ (q n z), fun t z => k _ (r t z)⟩
def c_told : FNC := fun ds Q _ => ∃ d, ds = [d] ∧ goodD d = true ∧ Q (toldD (rdX d))
theorem mo_law_told : MoF c_told := fun ds Q Q' Y Y' k ky ⟨d, e, h, q⟩ => ⟨d, e, h, k _ q⟩
def c_due : FNC := fun ds Q _ => ∃ d, ds = [d] ∧ goodD d = true ∧ Q (dueD (rdX d))
theorem mo_law_due : MoF c_due := fun ds Q Q' Y Y' k ky ⟨d, e, h, q⟩ => ⟨d, e, h, k _ q⟩
def c_line_so : FNC := fun ds Q _ => ∃ z, ds = [.str z] ∧ okS z = true ∧ Q (.bool (lineOk z))
theorem mo_law_line_so : MoF c_line_so := fun ds Q Q' Y Y' k ky ⟨d, e, h, q⟩ => ⟨d, e, h, k _ q⟩
def c_bent : FNC := fun ds Q _ => ∃ z, ds = [.str z] ∧ PyData.strOk z = true ∧ z.length ≤ 2000 ∧ ∀ y, okS y = true → Q (.str y)
theorem mo_law_bent : MoF c_bent := fun ds Q Q' Y Y' k ky ⟨d, e, h, h2, q⟩ => ⟨d, e, h, h2, fun y a => k _ (q y a)⟩
theorem told_read {ds : List PyData} {Q : PyData → Prop} {Y : EC} (h : c_told ds Q Y) : c_readX ds Q fun y => ∃ d, y = .field "InvalidText" "line" d ∧ Q d := by
  obtain ⟨d, e, g, q⟩ := h
  exact ⟨d, e, g, fun n z => ⟨_, rfl, by rw [z] at q; exact q⟩, fun t z => by rw [z] at q; exact q⟩
/-! ### glued again -/
theorem spl_ne {S : List Nat} : ∀ (L acc : List Nat) (k : Nat), TL.spl S k acc L ≠ []
  | [], acc, k => by rw [TL.spl_nil]; simp
  | c :: L, acc, 0 => by
    show (if TL.pre S (c :: L) = true then acc :: TL.spl S (S.length - 1) [] L else TL.spl S 0 (acc ++ [c]) L) ≠ []
    split
    · simp
    · exact spl_ne L _ 0
  | c :: L, acc, k + 1 => spl_ne L acc k
theorem joinL_spl {S : List Nat} (hS : S ≠ []) : ∀ (n : Nat) (L acc : List Nat), L.length ≤ n → TL.joinL S (TL.spl S 0 acc L) = acc ++ L
  | _, [], acc, _ => by rw [TL.spl_nil]; simp [TL.joinL]
  | 0, c :: r, acc, h => by simp at h
  | n + 1, c :: r, acc, h => by
    simp only [List.length_cons] at h
    by_cases hp : TL.pre S (c :: r) = true
    · rw [TL.spl_hit hp, TL.spl_pass]
      have hne := spl_ne (S := S) (r.drop (S.length - 1)) [] 0
      have ih := joinL_spl hS n (r.drop (S.length - 1)) [] (by rw [List.length_drop]; omega)
      cases hq : TL.spl S 0 [] (r.drop (S.length - 1)) with
      | nil => exact absurd hq hne
      | cons q qs =>
        rw [hq] at ih
        show acc ++ (S ++ TL.joinL S (q :: qs)) = acc ++ (c :: r)
        rw [ih, List.nil_append]
        congr 1
        unfold TL.pre at hp
        have e := eq_of_beq hp
        cases S with
        | nil => exact absurd rfl hS
        | cons s S' =>
          have e2 := List.take_append_drop (s :: S').length (c :: r)
          rw [e] at e2
          exact e2
    · rw [TL.spl_miss (by simpa using hp)]
      rw [joinL_spl hS n r (acc ++ [c]) (by omega)]
      simp
theorem join_split (z y : Str) (hy : TL.tl y ≠ []) (hk : y.cps.all (· < 256) = true) : Txt.join y (Txt.split z y) = z := by
  apply TL.ext_tl
  rw [TL.join_eq, TL.tl_join, TL.split_spl z y hy (TL.kind_ok hk), joinL_spl hy _ _ _ (Nat.le_refl _), List.nil_append]
theorem split_ne (z y : Str) (hy : TL.tl y ≠ []) (hk : y.cps.all (· < 256) = true) : Txt.split z y ≠ [] := fun e => by
  have h := TL.split_spl z y hy (TL.kind_ok hk)
  rw [e] at h
  exact spl_ne _ _ _ h.symm
end DL

namespace DL
open PySem PySem.Spec L2
open PyProof.Rows (envOfC)
abbrev N_read_ruleX : List Str := ["value", "clauses", "at", "line", "clause"]
def W_read_ruleX  : DWS := (wSeq (wIfS (wNot (wT (wIsi .str (wVar 0)))) (wRaiseF "InvalidText" "line" (wC (.int 0))) wNx)
  (wSeq (wNewM 1 (wLstF wNil))
  (wSeq (wFor (.tup [2, 3]) (wSeq (wSet 4 (wFn c_line_read (wCons (wVar 3) wNil)))
  (wSeq (wIfS (wOr (wT (wIsN false (wVar 4))) (wT (w2 fEq (wVar 2) (wC (.int 8))))) (wRaiseF "InvalidText" "line" (w2 fAdd (wVar 2) (wC (.int 1)))) wNx)
  (wAppS 1 (wVar 4)))) (wEnum (wIf (wT (w2 fNe (wVar 0) (wC (.str "")))) (wSplit (wVar 0) (wC (.str "\n"))) (wLst wNil))))
  (wFrz 1 (wRet (wCall fTuple (wCons (wVar 1) wNil)))))))
abbrev N_law_line_so : List Str := ["line", "parts", "words_so", "tests", "word"]
def W_law_line_so  : DWS := (wSeq (wSetT (.tup [1, 2]) (wTup (wCons (wSplit (wVar 0) (wC (.str ": "))) (wCons (w2 fAdd (wFn c_tests wNil) (wOfF (wLc (.one 4) wYes (w2 fAdd (wC (.str "no ")) (wVar 4)) [4] (wItL (wFn c_tests wNil))))) wNil))))
  (wSeq (wIfS (wOr (wT (w2 fNe (wCall fLen (wCons (wVar 1) wNil)) (wC (.int 2)))) (wT (w2 (fIn true) (w2 fIx (wVar 1) (wC (.int 1))) (wFn c_deeds wNil)))) (wRet (wC (.bool false))) wNx)
  (wSeq (wSet 3 (wIf (wT (w2 fEq (w2 fIx (wVar 1) (wC (.int 0))) (wC (.str "always")))) (wLst wNil) (wSplit (w2 fIx (wVar 1) (wC (.int 0))) (wC (.str ", ")))))
  (wRet (wAndV (w2 fLe (wCall fLen (wCons (wVar 3) wNil)) (wC (.int 3))) (w2 fEq (wOfF (wLc (.one 4) (wT (w2 (fIn true) (wVar 4) (wVar 2))) (wVar 4) [4] (wItL (wVar 3)))) (wLst wNil)))))))
abbrev N_law_due : List Str := ["value", "lines", "bad", "at"]
def W_law_due  : DWS := (wSeq (wIfS (wNot (wT (wIsi .str (wVar 0)))) (wRet (wC (.int 0))) wNx)
  (wSeq (wSet 1 (wIf (wT (w2 fNe (wVar 0) (wC (.str "")))) (wSplit (wVar 0) (wC (.str "\n"))) (wLst wNil)))
  (wSeq (wNewD 2 (wLc (.one 3) (wOr (wT (w2 fEq (wVar 3) (wC (.int 8)))) (wNot (wT (wFn c_line_so (wCons (w2 fIx (wVar 1) (wVar 3)) wNil))))) (w2 fAdd (wVar 3) (wC (.int 1))) [3] (wRng (wCall fLen (wCons (wVar 1) wNil)))))
  (wRet (wIf (wT (w2 fNe (wVar 2) (wLst wNil))) (w2 fIx (wVar 2) (wC (.int 0))) (wC .none))))))
abbrev N_law_bent : List Str := ["tape", "text", "lines", "course", "at", "some", "begin"]
def W_law_bent  : DWS := (wSeq (wParM 2 3 (wSplitF (wVar 1) (wC (.str "\n"))) (wFnT 0 c_draw (wCons (wC (.int 6)) wNil)))
  (wSeq (wSet 4 (wFnT 0 c_draw (wCons (wMlLen 2) wNil)))
  (wSeq (wIfS (wT (w2 fEq (wVar 3) (wC (.int 0)))) (wFrz 2 (wNewM 2 (wAddF (wSl (wVar 2) wNo (wPart (wVar 4))) (wSl (wVar 2) (wPart (w2 fAdd (wVar 4) (wC (.int 1)))) wNo)))) (wIfS (wT (w2 fEq (wVar 3) (wC (.int 1)))) (wFrz 2 (wNewM 2 (wAddF (w2 fAdd (wSl (wVar 2) wNo (wPart (wVar 4))) (w2 fRep (wLst (wCons (wFnT 0 c_of (wCons (wVar 2) wNil)) wNil)) (wFnT 0 c_of (wCons (wLst (wCons (wC (.int 1)) (wCons (wC (.int 2)) (wCons (wC (.int 8)) wNil)))) wNil)))) (wSl (wVar 2) (wPart (wVar 4)) wNo)))) (wIfS (wT (w2 fEq (wVar 3) (wC (.int 2)))) (wSeq (wSet 5 (wLst (wCons (wC (.str "")) (wCons (wC (.str "always: open")) (wCons (wC (.str "fresh: own")) (wCons (wC (.str "fresh:own")) (wCons (wC (.str "always, fresh: own")) (wCons (wC (.str "no own open: leave")) (wCons (wC (.str "own: own")) wNil)))))))))
  (wMlSet 2 (wFnT 0 c_of (wCons (wVar 5) wNil)) (wVar 4))) (wIfS (wT (w2 fEq (wVar 3) (wC (.int 3)))) (wMlSet 2 (w2 fAdd (wFnT 0 c_of (wCons (wLst (wCons (wC (.str "no ")) (wCons (wC (.str "fresh, ")) (wCons (wC (.str "changed, ")) (wCons (wC (.str ", ")) wNil))))) wNil)) (wMlIx 2 (wVar 4))) (wVar 4)) (wSeq (wSet 6 (wFnT 0 c_draw (wCons (w2 fAdd (wCall fLen (wCons (wVar 1) wNil)) (wC (.int 1))) wNil)))
  (wRet (w2 fAdd (w2 fAdd (wSl (wVar 1) wNo (wPart (wVar 6))) (wFnT 0 c_of (wCons (wLst (wCons (wC (.str "")) (wCons (wC (.str " ")) (wCons (wC (.str ":")) (wCons (wC (.str ",")) (wCons (wC (.str "\n")) (wCons (wC (.str "n")) wNil))))))) wNil))) (wSl (wVar 1) (wPart (w2 fAdd (wVar 6) (wFnT 0 c_draw (wCons (wC (.int 2)) wNil)))) wNo))))))))
  (wFrz 2 (wRet (wJoin (wC (.str "\n")) (wVar 2)))))))
abbrev N_lawk14 : List Str := ["script", "tape", "turn", "text", "k", "bent", "told", "due"]
def W_lawk14  : DWS := (wSeq (wFor (.one 2) (wSeq (wSet 3 (wFn c_rule_text (wCons (wFnT 1 c_rule (wCons (wC (.int 5)) wNil)) wNil)))
  (wSeq (wFor (.one 4) (wSeq (wSet 5 (wFnT 1 c_bent (wCons (wVar 3) wNil)))
  (wSeq (wPar 6 7 (wCons (wFn c_told (wCons (wVar 5) wNil)) (wCons (wFn c_due (wCons (wVar 5) wNil)) wNil)))
  (wSeq (wIfS (wAnd (wT (wIsN true (wVar 7))) (wNot (wT (wFn (c_like 1) (wCons (wVar 6) (wCons (wVar 7) wNil)))))) (wRet (wC (.bool false))) wNx)
  (wIfS (wAnd (wT (wIsN false (wVar 7))) (wOr (wNot (wT (wFn c_is_rule (wCons (wVar 6) wNil)))) (wT (w2 fNe (wFn c_rule_text (wCons (wVar 6) wNil)) (wVar 5))))) (wRet (wC (.bool false))) wNx)))) (wRng (wC (.int 7))))
  (wSeq (wIfS (wOr (wT (w2 fNe (wFn c_told (wCons (wLst (wCons (wVar 3) wNil)) wNil)) (wC (.int 0)))) (wT (w2 fNe (wFn c_told (wCons (wC .none) wNil)) (wC (.int 0))))) (wRet (wC (.bool false))) wNx)
  (wIfS (wAnd (wT (w2 fNe (wVar 3) (wC (.str "")))) (wT (w2 fNe (wFn c_told (wCons (w2 fAdd (wVar 3) (wC (.str "\nfresh"))) wNil)) (w2 fAdd (wCall fLen (wCons (wFnN c_readX (wCons (wVar 3) wNil)) wNil)) (wC (.int 1)))))) (wRet (wC (.bool false))) wNx)))) (wRng (wC (.int 8))))
  (wRet (w2 fEq (wFn c_told (wCons (wJoin (wC (.str "\n")) (w2 fRep (wLst (wCons (wC (.str "always: own")) wNil)) (wC (.int 9)))) wNil)) (wC (.int 9)))))
end DL

namespace DL
open PySem PySem.Spec L2
theorem noneD_line (l : Str) : noneD (lineRead l) = !lineOk l := by
  unfold lineOk
  cases lineRead l <;> rfl
abbrev wbR : DWS := (wSeq (wSet 4 (wFn c_line_read (wCons (wVar 3) wNil)))
  (wSeq (wIfS (wOr (wT (wIsN false (wVar 4))) (wT (w2 fEq (wVar 2) (wC (.int 8))))) (wRaiseF "InvalidText" "line" (w2 fAdd (wVar 2) (wC (.int 1)))) wNx)
  (wAppS 1 (wVar 4))))
theorem loopR {x : SV} {N : DE → Prop} {R : PyData → Prop} {Y : EC} : ∀ (ls : List Str) (n : Nat) (acc : List PyData) (s2 s3 s4 : SV), (∀ l ∈ ls, okS l = true) → acc.length ≤ n → n + ls.length ≤ 60000 →
    (∀ m, rdL n ls = .inl m → Y (.field "InvalidText" "line" (.int m))) → (∀ cs, rdL n ls = .inr cs → ∀ s2 s3 s4, N [x, .ml (acc ++ cs), s2, s3, s4]) →
    forW (.tup [2, 3]) wbR (enumD n (strsD ls)) [x, .ml acc, s2, s3, s4] N R Y
  | [], n, acc, s2, s3, s4, _, _, _, _, q => by
    have := q [] rfl s2 s3 s4
    rw [List.append_nil] at this
    exact this
  | l :: ls, n, acc, s2, s3, s4, ok, h1, h2, qe, q => by
    rw [List.length_cons] at h2
    have e : strsD (l :: ls) = .str l :: strsD ls := rfl
    rw [e, enumD]
    have hl := ok l List.mem_cons_self
    have fin : setT (.tup [2, 3]) (.tuple [.int (n : Int), .str l]) [x, .ml acc, s2, s3, s4] (fun ρ1 => wbR ρ1 (fun ρ2 => forW (.tup [2, 3]) wbR (enumD (n + 1) (strsD ls)) ρ2 N R Y) R Y) := by
      simp [-forW, c_line_read, hl, noneD_line, eqv_ii]
      have cont : lineOk l = true → ¬ n = 8 → acc.length < sizeLine ∧ forW (.tup [2, 3]) wbR (enumD (n + 1) (strsD ls)) [x, .ml (acc ++ [lineRead l]), .d (.int n), .d (.str l), .d (lineRead l)] N R Y := fun c1 c2 =>
        ⟨by rw [line24]; omega, loopR ls (n + 1) (acc ++ [lineRead l]) _ _ _ (fun l' h => ok l' (List.mem_cons_of_mem _ h)) (by rw [List.length_append, List.length_singleton]; omega) (by omega) (fun m hm => qe m (by
          rw [rdL, if_neg (by simp [c1, c2]), hm])) fun cs hc s2 s3 s4 => by
            have := q (lineRead l :: cs) (by rw [rdL, if_neg (by simp [c1, c2]), hc]) s2 s3 s4
            rwa [List.append_assoc]⟩
      have bad : lineOk l = false ∨ n = 8 → Y (.field "InvalidText" "line" (.int ((n : Int) + 1))) := fun c => by
        have := qe (n + 1) (by rw [rdL, if_pos c])
        simpa using this
      by_cases c1 : lineOk l = true
      · by_cases c2 : n = 8
        · have := bad (.inr c2)
          subst c2
          simpa [c1] using this
        · have c2' : ¬ (n : Int) = 8 := by omega
          have := cont c1 c2
          simpa [-forW, c1, c2'] using this
      · have c1' : lineOk l = false := by simpa using c1
        have := bad (.inl c1')
        simpa [c1'] using this
    exact fin
theorem lines_ok {z : Str} (h : okS z = true) : (∀ l ∈ linesOf z, okS l = true) ∧ (linesOf z).length ≤ 50001 := by
  unfold linesOf
  split
  · simp
  · exact split_ok (y := ("\n" : Str)) h (by decide +kernel) (by decide +kernel)
theorem vc_read_ruleX : ∀ ds Q Y, c_readX ds Q Y → ds.length = ["value"].length ∧ W_read_ruleX (startD N_read_ruleX ds) (fun _ => Q .none) Q Y := by
  rintro ds Q Y ⟨d, rfl, g, qe, qr⟩
  refine ⟨rfl, ?_⟩
  unfold W_read_ruleX
  cases d with
  | str z =>
    have hok := good_str g
    obtain ⟨l1, l2⟩ := lines_ok hok
    have hz := okS_len hok
    have body : forW (.tup [2, 3]) wbR (enumD 0 (strsD (linesOf z))) [.d (.str z), .ml [], .un, .un, .un]
      (fun ρ => ∃ ds, ρ[1]? = some (.ml ds) ∧ wRet (wCall fTuple (wCons (wVar 1) wNil)) (ρ.set 1 (.d (.list ds))) (fun _ => Q .none) Q Y) Q Y := by
      refine loopR _ 0 [] _ _ _ l1 (Nat.le_refl _) (by omega) (fun m hm => qe m ?_) (fun cs hc s2 s3 s4 => ?_)
      · unfold rdX; simp only [hm]
      · refine ⟨_, rfl, ?_⟩
        have := qr (.tuple cs) (by unfold rdX; simp only [hc])
        simpa using this
    unfold linesOf at body
    simp [-forW, shaped_str (okS_ok hok), sh_empty, eqv_ss]
    by_cases he : z = Str.ofString ""
    · left
      refine ⟨he, ?_⟩
      rw [if_pos he] at body
      simpa [-forW, strsD] using body
    · right
      refine ⟨he, no_len.2.2, by rw [line24]; omega, ?_⟩
      rw [if_neg he] at body
      simpa [-forW] using body
  | _ => simpa using qe 0 rfl
end DL

namespace DL
open PySem PySem.Spec L2
theorem words_w {ρ : DE} {i : Nat} (hi : i < ρ.length) {Q : PyData → Prop} {Y : EC} (q : Q (.list (strsD testsAll))) :
    (w2 fAdd (wFn c_tests wNil) (wOfF (wLc (.one i) wYes (w2 fAdd (wC (.str "no ")) (wVar i)) [i] (wItL (wFn c_tests wNil))))) ρ Q Y := by
  simp only [w2, wFn, wNil, c_tests, wOfF, wLc, wItL]
  refine ⟨trivial, trivial, _, rfl, ?_⟩
  refine compW_fm (fun _ => true) noW (fun d hd Q Y q => q) (fun d hd _ Q Y q => ?_) (by rw [line24]; decide) ?_
  · obtain ⟨z, hz, rfl⟩ := List.mem_map.mp hd
    have hl : z.length ≤ 20 := by
      have : ∀ z ∈ testsL, z.length ≤ 20 := by decide +kernel
      exact this z hz
    have hv : (List.set (wipeD ρ [i]) i (.d (.str z)))[i]? = some (.d (.str z)) := by rw [List.getElem?_set_self (by simpa using hi)]
    show wVar i _ (fun y => fAdd (.str (Str.ofString "no ")) y Q) Y
    unfold wVar
    rw [hv]
    show fAdd (.str (Str.ofString "no ")) (.str z) Q
    rw [fAdd_str]
    refine ⟨?_, q⟩
    have : (Str.ofString "no ").length = 3 := by decide +kernel
    rw [line24]; omega
  · have e : strsD testsL ++ ([] ++ ((strsD testsL).filter fun _ => true).map noW) = strsD testsAll := by
      rw [List.nil_append, List.filter_eq_self.mpr (fun _ _ => rfl)]
      unfold strsD testsAll
      rw [List.map_append, List.map_map, List.map_map]
      rfl
    rw [fAdd_lst, e]
    refine ⟨?_, q⟩
    rw [line24]; simp [strsD, testsL]
theorem isTestS_all (z : Str) : isTestS z = decide (z ∈ testsAll) := by
  rw [Bool.eq_iff_iff, decide_eq_true_eq]
  exact ⟨isTest_mem, fun h => (tests_facts z h).1⟩
theorem vc_law_line_so : ∀ ds Q Y, c_line_so ds Q Y → ds.length = ["line"].length ∧ W_law_line_so (startD N_law_line_so ds) (fun _ => Q .none) Q Y := by
  rintro ds Q Y ⟨z, rfl, h, q⟩
  refine ⟨rfl, ?_⟩
  unfold W_law_line_so
  have hz := okS_len h
  obtain ⟨sp1, sp2⟩ := split_ok (y := (": " : Str)) h (by decide +kernel) (by decide +kernel)
  simp only [wSeq, wSetT, wTup, wCons, wSplit, startD, List.map_cons, List.map_nil, List.length_cons, List.length_nil]
  refine ⟨z, rfl, _, rfl, by simpa using no_len.1, by rw [line24]; omega, ?_⟩
  refine words_w (by simp) ?_
  simp
  unfold lineOk lineRead at q
  generalize Txt.split z (Str.ofString ": ") = ps at *
  refine ⟨line2, ?_⟩
  match ps, sp1, q with
  | [], _, q => simpa [eqv_ii, strsD] using q
  | [a], _, q => simpa [eqv_ii, strsD] using q
  | a :: b :: c :: r, _, q =>
    have n2 : ¬ ((r.length : Int) + 1 + 1 + 1 = 2) := by omega
    simpa [eqv_ii, strsD, n2] using q
  | [a, b], sp1, q =>
    have ha := sp1 a (by simp)
    have hb := sp1 b (by simp)
    obtain ⟨sq1, sq2⟩ := split_ok (y := (", " : Str)) ha (by decide +kernel) (by decide +kernel)
    have q' : Q (.bool (isClause (.tuple [.tuple (if a = Str.ofString "always" then [] else strsD (Txt.split a (Str.ofString ", "))), .str b]))) := by
      by_cases hc : isClause (.tuple [.tuple (if a = Str.ofString "always" then [] else strsD (Txt.split a (Str.ofString ", "))), .str b]) = true
      · simp only [hc, if_true] at q
        rw [hc]; exact q
      · simp only [hc, if_false] at q
        have : isClause (.tuple [.tuple (if a = Str.ofString "always" then [] else strsD (Txt.split a (Str.ofString ", "))), .str b]) = false := by simpa using hc
        rw [this]; exact q
    clear q
    simp [eqv_ii, strsD, atI, ixN, c_deeds, shaped_str (okS_ok ha), sh_always, eqv_ss]
    rw [isClause_pair] at q'
    by_cases hd : b ∈ deedsL
    · refine .inl ⟨hd, ?_⟩
      have hdd : isDeed (.str b) = true := by simp [isDeed, inL, hd]
      rw [hdd, Bool.and_true] at q'
      by_cases hal : a = Str.ofString "always"
      · rw [if_pos hal] at q' ⊢
        rw [eqv_lnil]
        exact q'
      · rw [if_neg hal] at q' ⊢
        generalize Txt.split a (Str.ofString ", ") = ts at *
        refine ⟨no_len.2.1, by have := okS_len ha; rw [line24]; omega, ?_⟩
        have hlen : (strsD ts).length = ts.length := by unfold strsD; rw [List.length_map]
        by_cases h3 : ts.length ≤ 3
        · refine .inr ⟨by omega, ?_⟩
          rw [hlen, decide_eq_true h3, Bool.true_and] at q'
          refine compW_fm (fun d => !isTest d) (fun d => d) (fun d hd Q Y q => ?_) (fun d hd _ Q Y q => ?_) (by rw [line24]; simp; omega) ?_
          · obtain ⟨t, ht, rfl⟩ := List.mem_map.mp hd
            have e1 : (!isTest (.str t)) = !((strsD testsAll).any fun e => PyData.eqv e (.str t)) := by rw [any_strs, ← isTestS_all]; rfl
            rw [e1] at q
            refine ⟨rfl, flat_strs testsAll, _, rfl, q⟩
          · exact q
          · rw [List.nil_append, List.map_id']
            refine ⟨shaped_items fun x hx => ?_, ?_⟩
            · obtain ⟨t, ht, rfl⟩ := List.mem_map.mp (List.mem_filter.mp hx).1
              exact goodD_of (by rw [okD]; exact sq1 t ht) (by simp only [PyData.depth]; decide)
            · rw [eqv_lnil, filter_all]
              exact q'
        · refine .inl ⟨by omega, ?_⟩
          rw [hlen, decide_eq_false h3, Bool.false_and] at q'
          exact q'
    · have hdd : isDeed (.str b) = false := by simp [isDeed, inL, hd]
      rw [hdd, Bool.and_false] at q'
      exact .inr ⟨fun x hx e => hd (e ▸ hx), q'⟩
end DL

namespace DL
open PySem PySem.Spec L2
def badP (lines : List Str) : PyData → Bool
  | .int k => decide (k = 8) || !lineOk (lines.getD k.toNat (""))
  | _ => false
def incD : PyData → PyData
  | .int k => .int (k + 1)
  | _ => .none
theorem rng_cons (n k : Nat) : rngD (n : Int) (k + 1) = .int n :: rngD ((n + 1 : Nat) : Int) k := by
  unfold rngD
  rw [List.range_succ_eq_map, List.map_cons, List.map_map]
  congr 1
  refine List.map_congr_left fun j _ => ?_
  show PyData.int _ = PyData.int _
  congr 1
  show (n : Int) + ((j + 1 : Nat) : Int) = ((n + 1 : Nat) : Int) + (j : Int)
  omega
theorem bad_head (lines : List Str) : ∀ (ls : List Str) (n : Nat), lines.drop n = ls → match rdL n ls with
    | .inl m => ∃ r, ((rngD (n : Int) ls.length).filter (badP lines)).map incD = .int m :: r
    | .inr _ => ((rngD (n : Int) ls.length).filter (badP lines)).map incD = []
  | [], n, _ => by simp [rdL, rngD]
  | l :: ls, n, h => by
    have hl : lines.getD n "" = l := by
      have : (lines.drop n)[0]? = some l := by rw [h]; rfl
      rw [List.getElem?_drop] at this
      rw [List.getD_eq_getElem?_getD]
      simp at this
      rw [this]; rfl
    have h2 : lines.drop (n + 1) = ls := by
      rw [← List.drop_drop, h]; rfl
    have ih := bad_head lines ls (n + 1) h2
    rw [List.length_cons, rng_cons]
    have hp : badP lines (.int n) = (decide (n = 8) || !lineOk l) := by
      show (decide ((n : Int) = 8) || !lineOk (lines.getD (n : Int).toNat "")) = _
      rw [show ((n : Int)).toNat = n from rfl, hl]
      congr 1
      simp; omega
    by_cases c : lineOk l = false ∨ n = 8
    · have hp2 : badP lines (.int n) = true := by
        rw [hp]
        rcases c with c | c <;> simp [c]
      rw [rdL, if_pos c]
      refine ⟨((rngD ((n + 1 : Nat) : Int) ls.length).filter (badP lines)).map incD, ?_⟩
      rw [List.filter_cons_of_pos hp2, List.map_cons]
      rfl
    · have hp2 : ¬ badP lines (.int n) = true := by
        rw [hp]
        simp only [not_or] at c
        simp [c.1, c.2]
      rw [rdL, if_neg c, List.filter_cons_of_neg hp2]
      cases hr : rdL (n + 1) ls with
      | inl m =>
        rw [hr] at ih
        exact ih
      | inr cs =>
        rw [hr] at ih
        exact ih
theorem vc_law_due : ∀ ds Q Y, c_due ds Q Y → ds.length = ["value"].length ∧ W_law_due (startD N_law_due ds) (fun _ => Q .none) Q Y := by
  rintro ds Q Y ⟨d, rfl, g, q⟩
  refine ⟨rfl, ?_⟩
  unfold W_law_due
  cases d with
  | str z =>
    have hok := good_str g
    obtain ⟨l1, l2⟩ := lines_ok hok
    have hz := okS_len hok
    have main : ∀ lines : List Str, lines = linesOf z → compW (.one 3) (wOr (wT (w2 fEq (wVar 3) (wC (.int 8)))) (wNot (wT (wFn c_line_so (wCons (w2 fIx (wVar 1) (wVar 3)) wNil))))) (w2 fAdd (wVar 3) (wC (.int 1)))
        [.d (.str z), .d (.list (strsD lines)), .un, .un] (rngD 0 lines.length) [] (fun ds => SeqAt.shaped (.list ds) = true ∧ (ds = [] ∧ Q .none ∨ ¬ ds = [] ∧ ∃ d, atI ds 0 = some d ∧ Q d)) := by
      intro lines el
      rw [← el] at l1 l2
      refine compW_fm (badP lines) incD (fun d hd Q Y q => ?_) (fun d hd _ Q Y q => ?_) (by rw [rng_len, line24]; simp; omega) ?_
      · obtain ⟨k, hk, rfl⟩ := rng_int hd
        rw [Int.zero_add] at q ⊢
        have hat : atI (strsD lines) (k : Int) = some (.str lines[k]) := atI_nat (by unfold strsD; simp [hk])
        have e : badP lines (.int k) = (decide ((k : Int) = 8) || !lineOk lines[k]) := by
          show (decide ((k : Int) = 8) || !lineOk (lines.getD (k : Int).toNat "")) = _
          rw [show ((k : Int)).toNat = k from rfl, List.getD_eq_getElem?_getD, List.getElem?_eq_getElem hk]
          rfl
        rw [e] at q
        simp [eqv_ii, c_line_so, hat, l1 _ (List.getElem_mem hk)]
        by_cases h8 : (k : Int) = 8
        · have h8' : k = 8 := by omega
          simpa [h8, h8'] using q
        · simpa [h8] using q
      · obtain ⟨k, hk, rfl⟩ := rng_int hd
        simpa [incD] using q
      · rw [List.nil_append]
        refine ⟨shaped_items fun x hx => ?_, ?_⟩
        · obtain ⟨y, hy, rfl⟩ := List.mem_map.mp hx
          obtain ⟨k, hk, rfl⟩ := rng_int (List.mem_filter.mp hy).1
          exact goodD_of (by simp only [incD, okD]) (by simp only [incD, PyData.depth]; decide)
        · have bh := bad_head lines lines 0 rfl
          have q : Q (dueD (match rdL 0 lines with | .inl m => .inl m | .inr cs => .inr (.tuple cs))) := by rw [el]; exact q
          cases hr : rdL 0 lines with
          | inl m =>
            rw [hr] at bh q
            obtain ⟨r, hr2⟩ := bh
            have hr3 : ((rngD 0 lines.length).filter (badP lines)).map incD = .int m :: r := hr2
            rw [hr3]
            exact .inr ⟨by simp, .int m, atI_nat (j := 0) (by simp), q⟩
          | inr cs =>
            rw [hr] at bh q
            have hr3 : ((rngD 0 lines.length).filter (badP lines)).map incD = [] := bh
            rw [hr3]
            exact .inl ⟨rfl, q⟩
    simp [shaped_str (okS_ok hok), sh_empty, eqv_ss, eqv_lnil]
    by_cases he : z = Str.ofString ""
    · left
      refine ⟨he, ?_⟩
      have := main [] (by unfold linesOf; rw [if_pos he])
      exact this
    · right
      refine ⟨he, no_len.2.2, by rw [line24]; omega, ?_⟩
      have := main _ (by unfold linesOf; rw [if_neg he])
      have hl2 : (Txt.split z (Str.ofString "\n")).length ≤ 50001 := by
        unfold linesOf at l2; rwa [if_neg he] at l2
      have hlen : (strsD (Txt.split z (Str.ofString "\n"))).length = (Txt.split z (Str.ofString "\n")).length := by unfold strsD; rw [List.length_map]
      rw [hlen]
      exact ⟨by omega, this⟩
  | _ =>
    have q' : Q (.int 0) := q
    simpa using q'
end DL

namespace DL
open PySem PySem.Spec L2
/-- the length of all pieces -/
def totL (l : List Str) : Nat := (l.map (·.length)).sum
theorem totL_app (a b : List Str) : totL (a ++ b) = totL a + totL b := by unfold totL; rw [List.map_append, List.sum_append]
theorem totL_cons (x : Str) (b : List Str) : totL (x :: b) = x.length + totL b := rfl
theorem totL_take : ∀ (l : List Str) (n : Nat), totL (l.take n) ≤ totL l
  | [], n => by simp
  | x :: l, 0 => Nat.zero_le _
  | x :: l, n + 1 => by rw [List.take_succ_cons, totL_cons, totL_cons]; have := totL_take l n; omega
theorem totL_drop : ∀ (l : List Str) (n : Nat), totL (l.drop n) ≤ totL l
  | [], n => by simp
  | x :: l, 0 => Nat.le_refl _
  | x :: l, n + 1 => by rw [List.drop_succ_cons, totL_cons]; have := totL_drop l n; omega
theorem totL_cut (l : List Str) (lo hi : Option Int) : totL (cutG l lo hi) ≤ totL l := Nat.le_trans (totL_take _ _) (totL_drop _ _)
theorem totL_set : ∀ (l : List Str) (n : Nat) (w : Str), totL (l.set n w) ≤ totL l + w.length
  | [], n, w => by simp [totL]
  | x :: l, 0, w => by rw [List.set_cons_zero, totL_cons, totL_cons]; omega
  | x :: l, n + 1, w => by rw [List.set_cons_succ, totL_cons, totL_cons]; have := totL_set l n w; omega
theorem totL_mem : ∀ {l : List Str} {x : Str}, x ∈ l → x.length ≤ totL l
  | x :: l, y, h => by
    rw [totL_cons]
    rcases List.mem_cons.mp h with rfl | h
    · omega
    · have := totL_mem h; omega
theorem joinL_len (c : Nat) : ∀ l : List (List Nat), l ≠ [] → (TL.joinL [c] l).length + 1 = (l.map (·.length)).sum + l.length
  | [p], _ => by simp [TL.joinL]
  | p :: q :: r, _ => by
    have ih := joinL_len c (q :: r) (by simp)
    show (p ++ ([c] ++ TL.joinL [c] (q :: r))).length + 1 = _
    rw [List.length_append, List.length_append, List.map_cons, List.sum_cons, List.length_cons]
    have e3 : (p :: q :: r).length = (q :: r).length + 1 := rfl
    rw [e3]
    show p.length + (1 + _) + 1 = _
    omega
theorem lines_tot (z : Str) : totL (Txt.split z "\n") + (Txt.split z "\n").length = z.length + 1 := by
  have h := TL.split_spl z "\n" (by decide +kernel) (TL.kind_ok (by decide +kernel))
  have hj := joinL_spl (S := TL.tl "\n") (by decide +kernel) _ (TL.tl z) [] (Nat.le_refl _)
  rw [← h, List.nil_append] at hj
  have hne : (Txt.split z "\n").map TL.tl ≠ [] := by rw [h]; exact spl_ne _ _ _
  have hl := joinL_len 10 _ hne
  have e10 : TL.tl "\n" = [10] := by decide +kernel
  rw [e10] at hj
  rw [hj, List.length_map, List.map_map] at hl
  have e : ((Txt.split z "\n").map ((fun x => x.length) ∘ TL.tl)).sum = totL (Txt.split z "\n") := by
    unfold totL
    congr 1
  rw [e] at hl
  rw [TL.len_tl z]
  exact hl.symm
theorem strOk_app {a b : Str} (ha : PyData.strOk a = true) (hb : PyData.strOk b = true) : PyData.strOk (a ++ b) = true := strOk_mem.mpr fun c hc => by
  rw [app_cps] at hc
  rcases List.mem_append.mp hc with hc | hc
  · exact strOk_mem.mp ha c hc
  · exact strOk_mem.mp hb c hc
theorem len_app (a b : Str) : (a ++ b).length = a.length + b.length := by rw [len_cps, app_cps, List.length_append, ← len_cps, ← len_cps]
theorem strsD_cut (ps : List Str) (lo hi : Option Int) : cutD (strsD ps) lo hi = strsD (cutG ps lo hi) := cutD_map _ _ _ _
theorem nl_len : (Str.ofString "\n").length = 1 := by decide +kernel
theorem vc_law_bent : ∀ ds Q Y, c_bent ds Q Y → ds.length + 1 = ["tape", "text"].length ∧ W_law_bent (startT N_law_bent ds) (fun _ => Q .none) Q Y := by
  rintro ds Q Y ⟨z, rfl, zo, zl, q⟩
  refine ⟨rfl, ?_⟩
  have ht := lines_tot z
  have hne := split_ne z "\n" (by decide +kernel) (by decide +kernel)
  have hok : ∀ p ∈ Txt.split z (Str.ofString "\n"), PyData.strOk p = true := fun p hp => okS_ok ((split_ok (y := ("\n" : Str)) (okS_of zo (by omega)) (by decide +kernel) (by decide +kernel)).1 p hp)
  unfold W_law_bent
  have b6 := big1000 6 (by omega)
  have b2 := big1000 2 (by omega)
  simp [c_draw, c_of, -Nat.reducePow, b6, b2, eqv_ii]
  refine ⟨no_len.2.2, by rw [line24]; omega, ?_⟩
  generalize Txt.split z (Str.ofString "\n") = ps at *
  intro o o0 o6
  have hpl : 0 < ps.length := List.length_pos_iff.mpr hne
  have pT : totL ps ≤ 2001 := by omega
  have pL : ps.length ≤ 2001 := by omega
  have L := fun n (h : n ≤ 100000) => show n ≤ sizeLine by rw [line24]; omega
  have sl : (strsD ps).length = ps.length := by unfold strsD; rw [List.length_map]
  have jl : ∀ ys : List Str, (Txt.join (Str.ofString "\n") ys).length ≤ totL ys + ys.length := fun ys => by
    have := join_len (Str.ofString "\n") ys
    rw [nl_len, Nat.mul_one] at this
    exact this
  have fin : ∀ (D : List PyData) (ys : List Str), D = strsD ys → (∀ y ∈ ys, PyData.strOk y = true) → totL ys ≤ 40000 → ys.length ≤ 5000 →
      ∃ ys, fSeqStrs (.list D) = some (strsD ys) ∧ (List.map (fun x => x.length) ys).sum + ys.length * (Str.ofString "\n").length ≤ 16777216 ∧ Q (.str (Txt.join (Str.ofString "\n") ys)) := fun D ys e h1 h2 h3 => by
    refine ⟨ys, by rw [e]; rfl, ?_, q _ (okS_of (strOk_mem.mpr fun c hc => ?_) ?_)⟩
    · rw [nl_len]
      have h2' : (List.map (fun x => x.length) ys).sum ≤ 40000 := h2
      omega
    · rcases join_mem hc with hc | ⟨p, hp, hc⟩
      · have : ∀ k ∈ (Str.ofString "\n").cps.toList, k < 0x110000 := by decide +kernel
        exact this c hc
      · exact strOk_mem.mp (h1 p hp) c hc
    · have := jl ys; omega
  have setf : ∀ (w : Str) (m : Nat), PyData.strOk w = true → w.length ≤ 5000 → ∃ ys, fSeqStrs (.list ((strsD ps).set m (.str w))) = some (strsD ys) ∧ (List.map (fun x => x.length) ys).sum + ys.length * (Str.ofString "\n").length ≤ 16777216 ∧ Q (.str (Txt.join (Str.ofString "\n") ys)) := fun w m h1 h2 => by
    refine fin _ (ps.set m w) (by unfold strsD; rw [List.map_set]) (fun y hy => ?_) ?_ (by rw [List.length_set]; omega)
    · rcases List.mem_or_eq_of_mem_set hy with h | rfl
      · exact hok y h
      · exact h1
    · have := totL_set ps m w; omega
  refine ⟨by rw [sl]; exact hpl, big1000 _ (by rw [sl]; omega), fun r r0 rl => ?_⟩
  rw [sl] at rl
  obtain ⟨m, rfl⟩ : ∃ m : Nat, r = (m : Int) := ⟨r.toNat, (Int.toNat_of_nonneg r0).symm⟩
  have hm : m < ps.length := by omega
  have hix : ixN (strsD ps).length (m : Int) = some m := ixnat (by rw [sl]; exact hm)
  have hat : atI (strsD ps) (m : Int) = some (.str ps[m]) := atI_nat (by unfold strsD; simp [hm])
  have cl := fun lo hi => cutG_len ps lo hi
  have ct := fun lo hi => totL_cut ps lo hi
  have cm : ∀ lo hi, ∀ y ∈ cutG ps lo hi, PyData.strOk y = true := fun lo hi y hy => hok y (cutG_mem hy)
  have dl : ∀ l : List Str, (strsD l).length = l.length := fun l => by unfold strsD; rw [List.length_map]
  simp only [strsD_cut, dl]
  split
  · refine ⟨L _ (by have := cl none (some (m : Int)); have := cl (some ((m : Int) + 1)) none; omega), fin _ (cutG ps none (some (m : Int)) ++ cutG ps (some ((m : Int) + 1)) none) (strsD_app _ _).symm (fun y hy => ?_) ?_ ?_⟩
    · rcases List.mem_append.mp hy with hy | hy
      · exact cm _ _ y hy
      · exact cm _ _ y hy
    · rw [totL_app]; have := ct none (some (m : Int)); have := ct (some ((m : Int) + 1)) none; omega
    · rw [List.length_append]; have := cl none (some (m : Int)); have := cl (some ((m : Int) + 1)) none; omega
  have c1 := cl none (some (m : Int))
  have c2 := cl (some (m : Int)) none
  have t1 := ct none (some (m : Int))
  have t2 := ct (some (m : Int)) none
  split
  · refine ⟨fun e => hne (by cases ps with | nil => rfl | cons a b => cases e), by omega, fun d hd => ?_⟩
    obtain ⟨x, hx, rfl⟩ := List.mem_map.mp hd
    have xl := totL_mem hx
    have xo := hok x hx
    have rep : ∀ (k : Nat) (D : List PyData), k ≤ 8 → D = strsD (cutG ps none (some (m : Int)) ++ (List.replicate k x ++ cutG ps (some (m : Int)) none)) → ∃ ys, fSeqStrs (.list D) = some (strsD ys) ∧ (List.map (fun x => x.length) ys).sum + ys.length * (Str.ofString "\n").length ≤ 16777216 ∧ Q (.str (Txt.join (Str.ofString "\n") ys)) := fun k D hk e => by
      refine fin D _ e (fun y hy => ?_) ?_ ?_
      · rcases List.mem_append.mp hy with hy | hy
        · exact cm _ _ y hy
        · rcases List.mem_append.mp hy with hy | hy
          · rw [(List.mem_replicate.mp hy).2]; exact xo
          · exact cm _ _ y hy
      · have e2 : ∀ k : Nat, totL (List.replicate k x) = k * x.length := fun k => by
          induction k with
          | zero => simp [totL]
          | succ k ih => rw [List.replicate_succ, totL_cons, ih, Nat.succ_mul]; omega
        rw [totL_app, totL_app, e2]
        have : k * x.length ≤ 8 * 2001 := Nat.mul_le_mul hk (by omega)
        omega
      · rw [List.length_append, List.length_append, List.length_replicate]; omega
    refine ⟨L _ (by omega), L _ (by omega), ⟨L _ (by omega), L _ (by omega), L _ (by omega), rep 1 _ (by decide) (by simp [strsD, List.replicate])⟩, ⟨L _ (by omega), L _ (by omega), L _ (by omega), rep 2 _ (by decide) (by simp [strsD, List.replicate])⟩, ?_⟩
    first
      | exact ⟨L _ (by omega), L _ (by omega), L _ (by omega), rep 8 _ (by decide) (by simp [strsD, List.replicate])⟩
  split
  · have one : ∀ w : Str, PyData.strOk w = true → w.length ≤ 50 → ∃ x, ixN ps.length (m : Int) = some x ∧ ∃ ys, fSeqStrs (.list ((strsD ps).set x (.str w))) = some (strsD ys) ∧ (List.map (fun x => x.length) ys).sum + ys.length * (Str.ofString "\n").length ≤ 16777216 ∧ Q (.str (Txt.join (Str.ofString "\n") ys)) := fun w h1 h2 =>
      ⟨m, ixnat hm, setf w m h1 (by omega)⟩
    refine ⟨L _ (by omega), ?_⟩
    repeat' apply And.intro
    all_goals exact one _ (by decide +kernel) (by decide +kernel)
  split
  · have pre : ∀ w : Str, PyData.strOk w = true → w.length ≤ 20 → ∃ x, atI (strsD ps) (m : Int) = some x ∧ fAdd (.str w) x fun d => ∃ x, ixN ps.length (m : Int) = some x ∧ ∃ ys, fSeqStrs (.list ((strsD ps).set x d)) = some (strsD ys) ∧ (List.map (fun x => x.length) ys).sum + ys.length * (Str.ofString "\n").length ≤ 16777216 ∧ Q (.str (Txt.join (Str.ofString "\n") ys)) := fun w h1 h2 => by
      have ml := totL_mem (List.getElem_mem hm)
      refine ⟨_, hat, ?_⟩
      rw [fAdd_str]
      refine ⟨L _ (by omega), m, ixnat hm, setf _ _ (strOk_app h1 (hok _ (List.getElem_mem hm))) (by rw [len_app]; omega)⟩
    exact ⟨L _ (by omega), pre _ (by decide +kernel) (by decide +kernel), pre _ (by decide +kernel) (by decide +kernel), pre _ (by decide +kernel) (by decide +kernel), pre _ (by decide +kernel) (by decide +kernel)⟩
  · refine ⟨L _ (by omega), big1000 _ (by omega), fun k k0 kl => ⟨L _ (by omega), L _ (by omega), ?_⟩⟩
    have one : ∀ w : Str, PyData.strOk w = true → w.length ≤ 20 → (cutS z none (some k)).length + w.length ≤ sizeLine ∧ ∀ (r_1 : Int), 0 ≤ r_1 → r_1 < 2 → z.length ≤ sizeLine ∧ (cutS z none (some k) ++ w).length + (cutS z (some (k + r_1)) none).length ≤ sizeLine ∧
        Q (.str (cutS z none (some k) ++ w ++ cutS z (some (k + r_1)) none)) := fun w h1 h2 => by
      have l1 := cutS_length z none (some k)
      refine ⟨L _ (by omega), fun r1 _ _ => ?_⟩
      have l2 := cutS_length z (some (k + r1)) none
      refine ⟨L _ (by omega), L _ (by rw [len_app]; omega), q _ (okS_of (strOk_app (strOk_app (cutS_ok _ _ zo) h1) (cutS_ok _ _ zo)) (by rw [len_app, len_app]; omega))⟩
    exact ⟨one _ (by decide +kernel) (by decide +kernel), one _ (by decide +kernel) (by decide +kernel), one _ (by decide +kernel) (by decide +kernel), one _ (by decide +kernel) (by decide +kernel), one _ (by decide +kernel) (by decide +kernel), one _ (by decide +kernel) (by decide +kernel)⟩
end DL

namespace DL
open PySem PySem.Spec L2
theorem line_back {l : Str} (h : lineOk l = true) : ∃ c, okCl c = true ∧ lineRead l = clD c ∧ clLine c = l := by
  have j := join_split l (": " : Str) (by decide +kernel) (by decide +kernel)
  have key : ∀ ps : List Str, ps = Txt.split l (": " : Str) → ∃ c, okCl c = true ∧ lineRead l = clD c ∧ clLine c = l := by
    intro ps e
    rw [← e] at j
    unfold lineOk at h
    unfold lineRead at h ⊢
    rw [← e] at h ⊢
    match ps, j, h with
    | [], _, h => cases h
    | [a], _, h => cases h
    | a :: b :: c :: r, _, h => cases h
    | [a, b], j, h =>
      rw [join_two] at j
      have hc : isClause (.tuple [.tuple (if a = ("always" : Str) then [] else strsD (Txt.split a ", ")), .str b]) = true := by
        by_cases hc : isClause (.tuple [.tuple (if a = ("always" : Str) then [] else strsD (Txt.split a ", ")), .str b]) = true
        · exact hc
        · simp only [hc, if_false] at h
          cases h
      simp only [hc, if_true]
      by_cases ha : a = ("always" : Str)
      · refine ⟨([], b), ?_, ?_, ?_⟩
        · rw [if_pos ha] at hc
          rw [← isClause_clD]; exact hc
        · rw [if_pos ha]; rfl
        · unfold clLine
          rw [if_pos rfl, ← ha]
          exact j
      · refine ⟨(Txt.split a ", ", b), ?_, ?_, ?_⟩
        · rw [if_neg ha] at hc
          rw [← isClause_clD]; exact hc
        · rw [if_neg ha]; rfl
        · unfold clLine
          rw [if_neg (split_ne a ", " (by decide +kernel) (by decide +kernel)), join_split a ", " (by decide +kernel) (by decide +kernel)]
          exact j
  exact key _ rfl
theorem rd_back : ∀ (ls : List Str) (n : Nat) (cs : List PyData), n ≤ 8 → rdL n ls = .inr cs → ∃ R : List Cl, (∀ c ∈ R, okCl c = true) ∧ cs = R.map clD ∧ R.map clLine = ls ∧ n + R.length ≤ 8
  | [], n, cs, hn, h => by
    rw [rdL] at h
    cases h
    exact ⟨[], by simp, rfl, rfl, by simpa using hn⟩
  | l :: ls, n, cs, hn, h => by
    rw [rdL] at h
    by_cases c : lineOk l = false ∨ n = 8
    · rw [if_pos c] at h; cases h
    · rw [if_neg c] at h
      simp only [not_or, Bool.not_eq_false] at c
      cases hr : rdL (n + 1) ls with
      | inl m => rw [hr] at h; cases h
      | inr cs' =>
        rw [hr] at h
        cases h
        obtain ⟨R, h1, h2, h3, h4⟩ := rd_back ls (n + 1) cs' (by omega) hr
        obtain ⟨k, k1, k2, k3⟩ := line_back c.1
        refine ⟨k :: R, fun x hx => ?_, by rw [List.map_cons, k2, h2], by rw [List.map_cons, k3, h3], by rw [List.length_cons]; omega⟩
        rcases List.mem_cons.mp hx with rfl | hx
        · exact k1
        · exact h1 x hx
theorem rdX_back {y : Str} {t : PyData} (h : rdX (.str y) = .inr t) : ∃ R, okRu R = true ∧ t = ruD R ∧ ruText R = y := by
  unfold rdX at h
  cases hr : rdL 0 (linesOf y) with
  | inl m => simp only [hr] at h; cases h
  | inr cs =>
    simp only [hr] at h
    cases h
    obtain ⟨R, h1, h2, h3, h4⟩ := rd_back _ 0 cs (by decide) hr
    refine ⟨R, ruOk_of (by omega) h1, by rw [h2]; rfl, ?_⟩
    unfold ruText
    rw [h3]
    unfold linesOf
    by_cases hy : y = ("" : Str)
    · rw [if_pos hy, hy]; rfl
    · rw [if_neg hy, join_split y "\n" (by decide +kernel) (by decide +kernel)]
theorem lineOk_cl {c : Cl} (h : okCl c = true) : lineOk (clLine c) = true := by
  unfold lineOk
  rw [lineRead_cl h]
  rfl
theorem rd_cls : ∀ (R : List Cl) (n : Nat), (∀ c ∈ R, okCl c = true) → n + R.length ≤ 8 → rdL n (R.map clLine) = .inr (R.map clD)
  | [], n, _, _ => rfl
  | c :: R, n, h, hn => by
    rw [List.length_cons] at hn
    have hc := h c List.mem_cons_self
    rw [List.map_cons, rdL, if_neg (by rw [lineOk_cl hc]; simp; omega), rd_cls R (n + 1) (fun c' h' => h c' (List.mem_cons_of_mem _ h')) (by omega), lineRead_cl hc]
    rfl
theorem rd_end : ∀ (R : List Cl) (n : Nat) (l : Str), (∀ c ∈ R, okCl c = true) → n + R.length ≤ 8 → (lineOk l = false ∨ n + R.length = 8) → rdL n (R.map clLine ++ [l]) = .inl (n + R.length + 1)
  | [], n, l, _, _, hl => by
    show rdL n [l] = _
    rw [rdL, if_pos (by simpa using hl)]
    rfl
  | c :: R, n, l, h, hn, hl => by
    rw [List.length_cons] at hn hl
    have hc := h c List.mem_cons_self
    rw [List.map_cons, List.cons_append, rdL, if_neg (by rw [lineOk_cl hc]; simp; omega), rd_end R (n + 1) l (fun c' h' => h c' (List.mem_cons_of_mem _ h')) (by omega) (by
      rcases hl with hl | hl
      · exact .inl hl
      · exact .inr (by omega)), List.length_cons]
    show Sum.inl _ = Sum.inl _
    congr 1
    omega
theorem linesOf_ru {R : List Cl} (h : okRu R = true) : linesOf (ruText R) = R.map clLine := by
  have := ruText_lines h
  unfold linesOf
  by_cases e : ruText R = ("" : Str)
  · rw [if_pos e]; rw [if_neg (by simpa using e)] at this; exact this
  · rw [if_neg e]; rw [if_pos e] at this; exact this
theorem rdX_ru {R : List Cl} (h : okRu R = true) : rdX (.str (ruText R)) = .inr (ruD R) := by
  unfold rdX
  obtain ⟨h1, h2⟩ := ruOk h
  simp only [linesOf_ru h, rd_cls R 0 h2 (by omega)]
  rfl
theorem joinL_app (S x : List Nat) : ∀ A : List (List Nat), A ≠ [] → TL.joinL S (A ++ [x]) = TL.joinL S A ++ (S ++ x)
  | [p], _ => rfl
  | p :: q :: r, _ => by
    have ih := joinL_app S x (q :: r) (by simp)
    show p ++ (S ++ TL.joinL S ((q :: r) ++ [x])) = (p ++ (S ++ TL.joinL S (q :: r))) ++ (S ++ x)
    rw [ih]
    simp
theorem rdX_end {R : List Cl} {y l : Str} (h : okRu R = true) (hR : R ≠ []) (hl : 10 ∉ l.cps.toList) (hy : TL.tl y = TL.tl (ruText R) ++ (TL.tl "\n" ++ TL.tl l)) (hb : lineOk l = false ∨ R.length = 8) : rdX (.str y) = .inl (R.length + 1) := by
  obtain ⟨h1, h2⟩ := ruOk h
  have ey : y = Txt.join "\n" (R.map clLine ++ [l]) := by
    apply TL.ext_tl
    rw [hy, TL.join_eq, TL.tl_join, List.map_append]
    show _ = TL.joinL (TL.tl "\n") ((R.map clLine).map TL.tl ++ [TL.tl l])
    rw [joinL_app _ _ _ (by simpa using hR), ← TL.tl_join, ← TL.join_eq]
    rfl
  have sp : Txt.split y ("\n" : Str) = R.map clLine ++ [l] := by
    rw [ey]
    refine TL.split_join (s := 10) (S := []) rfl (by decide +kernel) (by simp) fun p hp => ?_
    rcases List.mem_append.mp hp with hp | hp
    · obtain ⟨c, hc, rfl⟩ := List.mem_map.mp hp
      exact fun hk => (clLine_mem (clOk (h2 c hc)) hk).1 rfl
    · rw [List.mem_singleton.mp hp]; exact hl
  have ne : y ≠ ("" : Str) := fun e => by
    rw [e] at hy
    have e1 : TL.tl ("" : Str) = [] := by decide +kernel
    have e2 : TL.tl ("\n" : Str) = [10] := by decide +kernel
    rw [e1, e2] at hy
    have := congrArg List.length hy
    simp at this
  have el : linesOf y = R.map clLine ++ [l] := by unfold linesOf; rw [if_neg ne]; exact sp
  unfold rdX
  have := rd_end R 0 l h2 (by omega) (by simpa using hb)
  simp only [el, this, Nat.zero_add]
end DL

namespace DL
open PySem PySem.Spec L2
theorem ruText_small {R : List Cl} (h : okRu R = true) : (ruText R).length ≤ 1700 := by
  obtain ⟨h1, h2⟩ := ruOk h
  have h3 : (ruText R).length ≤ ((R.map clLine).map (·.length)).sum + (R.map clLine).length * (Str.ofString "\n").length := join_len "\n" (R.map clLine)
  have h4 : ((R.map clLine).map (·.length)).sum ≤ ((R.map clLine).map (·.length)).length * 200 := sum_le fun x hx => by
    obtain ⟨z, hz, rfl⟩ := List.mem_map.mp hx
    obtain ⟨c, hc, rfl⟩ := List.mem_map.mp hz
    exact (clLine_len (clOk (h2 c hc))).1
  rw [nl_len] at h3
  rw [List.length_map, List.length_map] at h4
  rw [List.length_map] at h3
  omega
theorem goodI (i : Int) : goodD (.int i) = true := goodD_of (by simp only [okD]) (by simp only [PyData.depth]; decide)
theorem good_s {y : Str} (h : okS y = true) : goodD (.str y) = true := goodD_of (by rw [okD]; exact h) (by simp only [PyData.depth]; decide)
theorem vc_lawk14 : ∀ N R Y, R (.bool true) → W_lawk14 (rho0 6) N R Y := by
  intro N R Y q
  unfold W_lawk14
  refine ⟨_, rfl, by decide, by decide, ?_⟩
  refine forW_from (fun pre ρ => ∃ s0 s2 s3 s4 s5 s6 s7, ρ = [s0, .tp, s2, s3, s4, s5, s6, s7]) ⟨_, _, _, _, _, _, _, rfl⟩ ?_ ?_
  · rintro pre d post ρ e ⟨s0, s2, s3, s4, s5, s6, s7, rfl⟩ K hK
    refine ⟨rfl, 5, rfl, by decide, by decide, fun R1 ok1 l1 => ⟨R1, rfl, ok1, ?_⟩⟩
    have okT := ruText_ok ok1
    have szT := ruText_small ok1
    refine ⟨_, rfl, by decide, by decide, ?_⟩
    refine forW_from (fun pre ρ => ∃ s4 s5 s6 s7, ρ = [s0, .tp, .d d, .d (.str (ruText R1)), s4, s5, s6, s7]) ⟨_, _, _, _, rfl⟩ ?_ ?_
    · rintro pre2 d2 post2 ρ e2 ⟨s4, s5, s6, s7, rfl⟩ K2 hK2
      refine ⟨rfl, _, rfl, okS_ok okT, by omega, fun y oky => ?_⟩
      refine ⟨_, rfl, good_s oky, ?_⟩
      refine ⟨_, rfl, good_s oky, ?_⟩
      refine ⟨_, _, rfl, ?_⟩
      cases hx : rdX (.str y) with
      | inl n =>
        simp [toldD, dueD, c_like, PyData.depth]
        refine ⟨_, _, ⟨rfl, rfl⟩, goodI _, goodI _, by simp only [PyData.depth], ?_⟩
        rw [if_pos (likeD_refl _ (by simp only [PyData.canLay0]))]
        exact hK2 _ ⟨_, _, _, _, rfl⟩
      | inr t =>
        obtain ⟨R2, ok2, rfl, rfl⟩ := rdX_back hx
        simp [toldD, dueD, c_is_rule, good_ruD ok2, isRule_ruD, ok2, c_rule_text]
        exact ⟨R2, rfl, ok2, shaped_str (okS_ok oky), shaped_str (okS_ok oky), .inl ⟨by rw [eqv_ss]; exact decide_eq_true rfl, hK2 _ ⟨_, _, _, _, rfl⟩⟩⟩
    · rintro ρ ⟨s4, s5, s6, s7, rfl⟩
      simp [c_told, c_readX, -forW]
      have KK := hK _ ⟨s0, .d d, .d (.str (ruText R1)), s4, s5, s6, s7, rfl⟩
      have gT := good_s okT
      have e1 : toldD (rdX (.list [.str (ruText R1)])) = .int 0 := rfl
      have e2 : toldD (rdX .none) = .int 0 := rfl
      have g1 : goodD (.list [.str (ruText R1)]) = true := goodD_of (by rw [okD, okDs, okDs, okD, okT]; rfl) (by simp only [PyData.depth, PyData.depthAll]; decide)
      rw [e1, e2]
      refine ⟨by rw [line24]; omega, g1, shaped_int _, .inl ⟨by rw [eqv_ii]; rfl, by decide, shaped_int _, .inl ⟨by rw [eqv_ii]; rfl, shaped_str (okS_ok okT), sh_empty, ?_⟩⟩⟩
      by_cases hR : R1 = []
      · subst hR
        exact .inl ⟨by rw [eqv_ss]; exact decide_eq_true rfl, KK⟩
      · have hne : ruText R1 ≠ Str.ofString "" := fun e => hR (by
          have := linesOf_ru ok1
          unfold linesOf at this
          rw [if_pos e] at this
          simpa using this.symm)
        have l6 : (Str.ofString "\nfresh").length = 6 := by decide +kernel
        have fx := rdX_end (R := R1) (y := ruText R1 ++ Str.ofString "\nfresh") (l := Str.ofString "fresh") ok1 hR (by decide +kernel) (by
          rw [TL.tl_append]
          exact congrArg _ (by decide +kernel)) (.inl (by decide +kernel))
        refine .inr ⟨by rw [eqv_ss]; exact decide_eq_false hne, by rw [l6, line24]; omega, good_s (okS_of (strOk_app (okS_ok okT) (by decide +kernel)) (by rw [len_app, l6]; omega)), gT, (fun n => by rw [rdX_ru ok1]; exact fun h => (by cases h)), fun t ht => ?_⟩
        rw [rdX_ru ok1] at ht
        cases ht
        rw [ruD_eq, fLen_tup, fAdd_int, fx, List.length_map]
        exact ⟨shaped_int _, shaped_int _, .inl ⟨by
          show PyData.eqv (.int ((R1.length + 1 : Nat) : Int)) _ = true
          rw [eqv_ii]
          exact decide_eq_true (by omega), KK⟩⟩
  · rintro ρ ⟨s0, s2, s3, s4, s5, s6, s7, rfl⟩
    simp [c_told, eqv_ii]
    refine ⟨by rw [line24]; omega, by rw [line24]; omega, List.replicate 9 (Str.ofString "always: own"), rfl, ?_, ?_⟩
    · have l11 : (Str.ofString "always: own").length = 11 := by decide +kernel
      rw [nl_len, List.map_replicate, l11]
      decide
    have hc : okCl (([], Str.ofString "own") : Cl) = true := by decide +kernel
    have hcl : clLine (([], Str.ofString "own") : Cl) = Str.ofString "always: own" := by decide +kernel
    have ok8 : okRu (List.replicate 8 (([], Str.ofString "own") : Cl)) = true := ruOk_of (by decide) fun c hc' => by rw [(List.mem_replicate.mp hc').2]; exact hc
    have ej : TL.tl (Txt.join (Str.ofString "\n") (List.replicate 9 (Str.ofString "always: own"))) = TL.tl (ruText (List.replicate 8 (([], Str.ofString "own") : Cl))) ++ (TL.tl (Str.ofString "\n") ++ TL.tl (Str.ofString "always: own")) := by
      unfold ruText
      rw [List.map_replicate, hcl, TL.join_eq, TL.join_eq, TL.tl_join, TL.tl_join]
      decide +kernel
    have fx := rdX_end (R := List.replicate 8 (([], Str.ofString "own") : Cl)) (l := Str.ofString "always: own") ok8 (by decide) (by decide +kernel) ej (.inr rfl)
    have ok9 : okS (Txt.join (Str.ofString "\n") (List.replicate 9 (Str.ofString "always: own"))) = true := by
      refine okS_of (strOk_mem.mpr fun c hc' => ?_) ?_
      · rcases join_mem hc' with hk | ⟨p, hp, hk⟩
        · have : ∀ k ∈ (Str.ofString "\n").cps.toList, k < 0x110000 := by decide +kernel
          exact this c hk
        · rw [(List.mem_replicate.mp hp).2] at hk
          have : ∀ k ∈ (Str.ofString "always: own").cps.toList, k < 0x110000 := by decide +kernel
          exact this c hk
      · have l11 : (Str.ofString "always: own").length = 11 := by decide +kernel
        have := join_len (Str.ofString "\n") (List.replicate 9 (Str.ofString "always: own"))
        rw [nl_len, List.map_replicate, l11] at this
        have e : (List.replicate 9 11).sum + (List.replicate 9 (Str.ofString "always: own")).length * 1 = 108 := by decide
        omega
    rw [fx]
    refine ⟨good_s ok9, shaped_int _, ?_⟩
    have : PyData.eqv (toldD (Sum.inl ((List.replicate 8 (([], Str.ofString "own") : Cl)).length + 1))) (.int 9) = true := by
      show PyData.eqv (.int 9) (.int 9) = true
      rw [eqv_ii]; rfl
    rw [this]
    exact q
end DL

namespace PySem
open Sem (wp)
theorem dl_enum_newT {v : Value} {o : Obj} {H : Heap → Prop} (B : Begins v o H) :
    Meets (Builtin.«enumerate.__new__» ⟨[.type "enumerate", v], []⟩) (fun _ R s => H s.heap ∧
      R (.ok (.ret (.ref (s.heap.push o).objs.size))) { s with heap := (s.heap.push o).push { cls := .type "enumerate", data := .fields #[.none, .bool false, .ref s.heap.objs.size, rawInt 0, .none, .none] } }) :=
  .of_wp fun prog w A R s h => by
    obtain ⟨hp, g, d, tk, os⟩ := s; obtain ⟨h1, h⟩ := h
    have hsub := sub_enumerate
    have q1 : ∀ {A' : Around} {E : Value → Shared → Prop} {Q : Value → Shared → Prop}, Q (.ref hp.objs.size) ⟨hp.push o, g, d, tk, os⟩ → wpAny (model prog w) A' (pyIter v) Q E ⟨hp, g, d, tk, os⟩ :=
      fun q => B.iter prog w _ _ ⟨hp, g, d, tk, os⟩ _ h1 q
    wp_walk using q1
    refine wpAny_stack_any fun st => wpAny_pure ?_
    split
    · rename_i c _ _ _ _ _
      cases (c == Value.type "enumerate")
      · wp_walk using q1
        exact ⟨_, rfl, h⟩
      · wp_walk using q1
        exact ⟨_, rfl, h⟩
    · wp_walk using q1
      exact ⟨_, rfl, h⟩
section
variable {prog : Program} {w : World} {A : Around} {E : Value → Shared → Prop} {s : Shared}
theorem dl_enum_begins {v : Value} {o : Obj} {H : Heap → Prop} {Q : Value → Shared → Prop} (B : Begins v o H) (h1 : H s.heap)
    (h : ∀ h', IsEnum h' (s.heap.objs.size + 1) s.heap.objs.size 0 .none → h'.get? s.heap.objs.size = some o → h'.objs.size = s.heap.objs.size + 2 →
      (∀ b o, s.heap.get? b = some o → h'.get? b = some o) → Q (.ref (s.heap.objs.size + 1)) { s with heap := h' }) :
    wpAny (model prog w) A (call (.type "enumerate") [v]) Q E s := by
  refine callType_new F.called_enumerate (by decide) (F.typeCall_enumerate_1 _) (F.newCall_enumerate_1 _) (fun obj => F.args_object_init_2 obj _) F.entry_enumerate_new
    (dl_enum_newT B) ⟨h1, ?_⟩
  have hz : (s.heap.push o).objs.size = s.heap.objs.size + 1 := Heap.size_push ..
  show _ ∧ _
  rw [hz]
  have he : IsEnum ((s.heap.push o).push { cls := .type "enumerate", data := .fields #[.none, .bool false, .ref s.heap.objs.size, rawInt 0, .none, .none] }) (s.heap.objs.size + 1) s.heap.objs.size 0 .none := by
    have := Heap.get?_push_size (s.heap.push o) (o := { cls := .type "enumerate", data := .fields #[.none, .bool false, .ref s.heap.objs.size, rawInt 0, .none, .none] }) rfl
    rw [hz] at this; exact this
  exact ⟨⟨_, he, rfl⟩, h _ he (Heap.get?_push_of_some _ (Heap.get?_push_size _ B.free)) (by rw [Heap.size_push, hz]) fun b o x => Heap.get?_push_of_some _ (Heap.get?_push_of_some _ x)⟩
end
end PySem
namespace DL
open PySem PySem.Spec L2
/-! ### enumerate over a tuple -/
def IteT (K : PySem.W.Frag) (a : Addr) : It :=
  ⟨fun i H => ∃ (xs : List V) (x : V), SqT K H a xs ∧ xs[i]? = some x, fun i H v H' => ∃ T x, v = .ref T ∧ H T = none ∧ H' = upd H T (.tup [.int (i : Nat), x]) ∧ ∀ xs, SqT K H a xs → xs[i]? = some x, fun i H => ∃ xs : List V, SqT K H a xs ∧ xs.length ≤ i⟩
theorem turn_enumT {P : Program} {w : World} {K : PySem.W.Frag} {elts : List Expr} {kk : Nat} {tpos : Pos} (a e it : Addr) :
    Turn P w K (.Tuple elts kk tpos) (IteT K a) [e, it] e (fun i h => (∃ old, IsEnum h e it ((i : Nat) : Int) old) ∧ h.IsTupleIter it a i ∧ e ≠ it ∧ a ≠ it ∧ a ≠ e) where
  mem := by simp
  obj := fun i h st b hb => by
    obtain ⟨⟨old, he⟩, ⟨o, ho, hc, hd⟩, _⟩ := st
    have e' : b = e ∨ b = it := by simpa using hb
    rcases e' with z | z
    · rw [z]; exact ⟨_, he, fun v q => nomatch q⟩
    · rw [z]; exact ⟨o, ho, fun v q => by rw [hd] at q; cases q⟩
  keep := fun i h h' st k => let ⟨⟨old, he⟩, hi, hne⟩ := st; ⟨⟨old, k e (by simp) _ he⟩, hi.at fun o q => k it (by simp) o q, hne⟩
  item := by
    intro X hP hw hK hc i pins s σ H E I hf st hg
    subst hP hw hK
    obtain ⟨⟨old, he⟩, hit, hne, hai, hae⟩ := st
    obtain ⟨xs, x, hq, hx⟩ := hg
    obtain ⟨its, rv, p, hz⟩ := I.tuple hq
    obtain ⟨u, hu, ru⟩ := rv.get hx
    have hel : e < s.heap.objs.size := Heap.lt_size he
    have hil : it < s.heap.objs.size := by obtain ⟨_, q, _⟩ := hit; exact Heap.lt_size q
    have D : Draws X.prog X.w X.A.in1 it [it, a] its.toArray.size (fun i v => its.toArray[i]? = some v) (fun i h => h.IsTupleIter it a i ∧ h.IsTuple a its.toArray) := Draws.tuple (A := X.A.in1) (show X.A.in1.handled = none from I.ok.hd hc) it a hai its.toArray
    have hlt : i < its.toArray.size := by
      have := (List.getElem?_eq_some_iff.mp hu).1
      simpa using this
    refine wpAny_pyNext_enum_itemD D he ⟨hit, p⟩ hlt hne (by simp; exact ⟨hne, Ne.symm hae⟩) fun x' h' tk hx' ho hit' hT hsz hk => ?_
    have ex : x' = u := by
      have z : its[i]? = some x' := by simpa using hx'
      rw [hu] at z
      exact (Option.some.inj z).symm
    subst ex
    refine ⟨_, rfl, wpAny_letOwnedTupleGo_enum (s := { s with heap := h', toks := tk + 1 }) ho fun h'' he' sb => ?_⟩
    have hT2 : h''.get? s.heap.objs.size = some { cls := .type "tuple", data := .seq #[.int i tk, x'] } := (sb.2 _ (Nat.ne_of_gt hel)).trans hT
    have new : ObjOk X.prog X.w (upd H s.heap.objs.size (.tup [.int (i : Nat), x])) h'' s.heap.objs.size (.tup [.int (i : Nat), x]) :=
      ⟨by show 2 ≤ sizeLine; decide, [.int i tk, x'], .cons ⟨_, rfl⟩ (.cons ru .nil), ⟨_, hT2, rfl, _, rfl⟩⟩
    have I1 : Inv X pins σ (upd H s.heap.objs.size (.tup [.int (i : Nat), x])) { s with heap := h'', toks := tk + 1 } :=
      I.turnedNew (ch := [e, it]) (fun b ob hb q => (sb.2 b (fun z => hb (by simp [z]))).trans (hk b ob (fun z => hb (by simp [z])) (fun z => hb (by simp [z])) q)) hf (Nat.le_refl _) new
    refine ⟨.ref s.heap.objs.size, _, I1, rfl, ⟨_, x, rfl, I.hok.fresh (Nat.le_refl _), rfl, fun ys hy => by rw [I.tuple_inj hy hq]; exact hx⟩, ⟨⟨x', ?_⟩, hit'.1.at fun o q => (sb.2 it (Ne.symm hne)).trans q, hne, hai, hae⟩, fun b hb => ?_⟩
    · have e1 : ((i + 1 : Nat) : Int) = (i : Int) + 1 := by omega
      rw [e1]; exact he'
    · have hb' : b < s.heap.objs.size := by
        have e' : b = e ∨ b = it := by simpa using hb
        rcases e' with z | z
        · rw [z]; exact hel
        · rw [z]; exact hil
      rw [upd_ne (Nat.ne_of_lt hb')]
      exact (hf b hb).1
  done := by
    intro X hP hw hK hc i pins s σ H E I hf st hg
    subst hP hw hK
    obtain ⟨⟨old, he⟩, hit, hne, hai, hae⟩ := st
    obtain ⟨xs, hq, hx⟩ := hg
    obtain ⟨its, rv, p, hz⟩ := I.tuple hq
    obtain ⟨f0, f1, f2, f3, f4, f5⟩ := hf it (by simp)
    have hl := rv.length
    have hn : its.toArray[i]? = none := by simp; omega
    have D : Draws X.prog X.w X.A.in1 it [it, a] i (fun _ _ => True) (fun j h => j = i ∧ h.IsTupleIter it a i ∧ h.IsTuple a its.toArray) := {
      live := fun _ _ st => let ⟨o, ho, _⟩ := st.2.1; ⟨o, ho⟩
      frame := fun _ _ _ st hk => ⟨st.1, st.2.1.at fun o e => hk it (by simp) o e, st.2.2.at fun o e => hk a (by simp) o e⟩
      item := fun j s Q E hj st hQ => absurd st.1 (Nat.ne_of_lt hj)
      done := fun s Q E st hE => wpAny_nextOf_tuple_end (show X.A.in1.handled = none from I.ok.hd hc) st.2.1 st.2.2 hn hE }
    exact wpAny_pyNext_enum_endD D he ⟨rfl, hit, p⟩ fun h' eb => ⟨rfl, I.turned (t' := s.toks) (fun b o hb q => eb b o hb q) f0 f1 f3 f4 f5⟩
  self := fun A i s Q E st h => let ⟨⟨_, he⟩, _⟩ := st; wpAny_pyIter_enum he h
def iEnumT (K : PySem.W.Frag) (ta : TA) : TI := fun σ H R => ta σ H fun vs H1 => ∃ a xs, vs = [.ref a] ∧ SqT K H1 a xs ∧ R (IteT K a) H1
theorem pi_enumT {X : Cx} {e : Expr} {ta : TA} {p pos tpos : Pos} {elts : List Expr} {kk : Nat} (hg : Gl X "enumerate") (hm : X.mg "enumerate" = none) (ha : PA X [e] ta) (hs : starEach [e] X.env = [(false, eval e X.env)] := by rfl) :
    PI X (.Tuple elts kk tpos) (.Call (.Name "enumerate" p) [e] [] pos) (iEnumT X.K ta) := by
  refine ⟨fun pins s σ H R I h => ?_⟩
  refine PyProof.Rows.Call_ (ld_blt I hg hm PyProof.Rows.boot_enumerate (PyProof.Rows.callWith_type1 (thn (ha.run pos pins s σ H _ I h) fun us s1 ⟨vs, H1, I1, r1, q1⟩ => ?_) hs rfl))
  obtain ⟨a, xs, ex, hq, q⟩ := q1
  subst ex
  cases r1 with
  | cons r rr =>
    cases rr
    cases r
    obtain ⟨its, rv, p', hz⟩ := I1.tuple hq
    have hal : a < s1.heap.objs.size := by
      obtain ⟨o, ho, _⟩ := p'
      exact Heap.lt_size ho
    refine dl_enum_begins (begins_tuple a its.toArray) p' fun h' he hit hsz hk => wpAny_pyIter_enum he ?_
    have I2 : Inv X pins σ H1 { s1 with heap := h' } := I1.kept (t' := s1.toks) hk
    refine ⟨s1.heap.objs.size + 1, [s1.heap.objs.size + 1, s1.heap.objs.size], _, _, H1, rfl, I2, turn_enumT a (s1.heap.objs.size + 1) s1.heap.objs.size, ⟨⟨.none, he⟩, ⟨_, hit, rfl, rfl⟩, Nat.succ_ne_self _, Nat.ne_of_lt hal, Nat.ne_of_lt (Nat.lt_succ_of_lt hal)⟩, fun b hb => ?_, q⟩
    have e' : b = s1.heap.objs.size + 1 ∨ b = s1.heap.objs.size := by simpa using hb
    have hle : s1.heap.objs.size ≤ b := by
      rcases e' with z | z
      · rw [z]; exact Nat.le_add_right _ _
      · rw [z]; exact Nat.le_refl _
    exact I1.fpOk hle (I1.hok.fresh hle)
theorem itd_enumT {K : PySem.W.Frag} {a : Addr} {vs : List V} {ds : List PyData} {G0 : Hp} (h : SqT K G0 a vs) (t : AtAll K G0 vs ds) : ItD K (IteT K a) (enumD 0 ds) G0 := fun i G H s1 s2 => by
  have hq : SqT K H a vs := SqT.same s2 (SqT.same s1 h)
  refine ⟨fun d e => ?_, fun hl => ⟨vs, hq, by rw [t.length]; rw [enumD_length] at hl; exact hl⟩⟩
  obtain ⟨x, e0, rfl⟩ := enumD_get ds 0 i e
  obtain ⟨v, e1, av⟩ := t.get' e0
  refine ⟨⟨vs, v, hq, e1⟩, fun y H' hy => ?_⟩
  obtain ⟨T, z, rfl, hT, rfl, hz⟩ := hy
  have e2 := hz vs hq
  rw [e1] at e2
  cases e2
  have x1 : Ext (fun _ => False) G H (upd G T (.tup [.int (i : Int), v])) (upd H T (.tup [.int (i : Int), v])) := Ext.new s2 hT
  refine ⟨_, x1, .tup (SqT.of upd_same) ?_⟩
  rw [Nat.zero_add]
  exact .cons (.int _) (.cons ((av.same s1).same x1.gs) .nil)
section
variable {Z : DC → Prop} {X : Cx} {E : XK} {tg e : Expr} {pos p : Pos} {w : DW}
@[simp] def wEnumT (w : DW) : DAW := fun ρ Q Y => w ρ (fun d => ∃ ds, d = .tuple ds ∧ Q (enumD 0 ds)) Y
theorem pdi_enumT {elts : List Expr} {kk : Nat} {tpos : Pos} (hm : X.mg "enumerate" = none) (h : PD Z X E e w) (hg : Gl X "enumerate" := by rfl) (hs : starEach [e] X.env = [(false, eval e X.env)] := by rfl) : PDI Z X E (.Tuple elts kk tpos) (.Call (.Name "enumerate" p) [e] [] pos) (wEnumT w) := by
  refine ⟨PIimp (pi_enumT hg hm (pa_cons h.pe pa_nil (by rw [hs]; rfl)) hs) fun σ H R ⟨C, H0, G0, G, ρ, S, q⟩ => ?_, fun ρ Q Q' Y Y' k ky q => h.mono _ _ _ _ _ (fun d ⟨ds, e, q⟩ => ⟨ds, e, k _ q⟩) ky q⟩
  refine ⟨C, H0, G0, G, ρ, S, h.mono _ _ _ _ _ (fun d q => ?_) idY q⟩
  obtain ⟨ds, rfl, q⟩ := q
  intro v H1 G1 x1 j1 a1
  cases a1 with
  | tup a1 t => exact ⟨_, _, rfl, SqT.same x1.sub a1, q _ H1 G1 x1 j1 (itd_enumT a1 t)⟩
end
end DL

namespace DL
open PySem PySem.Spec L2
/-! ### x in t, t a tuple of any data -/
def rInT (K : PySem.W.Frag) : R2 := fun x y H Q => ∃ d ds, Dp K H x d ∧ Dp K H y (.tuple ds) ∧ SeqAt.shaped d = true ∧ SeqAt.shaped (.tuple ds) = true ∧ Q (.bl (ds.any fun z => PyData.eqv z d)) H
theorem room_inT {d : PyData} {xs : List PyData} {u : Nat} (s : SeqAt.shaped d = true) (hu : u + 65 < cLine) : u + 1 + min (PyData.depthAll xs) d.depth < cLine := by
  unfold SeqAt.shaped at s
  rw [Bool.and_eq_true, decide_eq_true_eq] at s
  have := s.2
  omega
theorem op_inT {X : Cx} (hu : X.A.units + 65 < cLine) : OpR X (compareOp .In) (rInT X.K) := by
  intro pins s σ H x y v u Q I rx ry h
  obtain ⟨d, ds, hd, he, sd, se, q⟩ := h
  obtain ⟨as, r1⟩ := Dp.reads I d x v hd rx
  obtain ⟨bs, r2⟩ := Dp.reads I (.tuple ds) y u he ry
  have hxs : PyData.canLayAll0 ds = true := by
    have := SeqAt.canLay_of_shaped se
    simpa only [PyData.canLay0] using this
  cases r2 with
  | tuple h1 h2 h3 h4 => exact SeqAt.in_tupleAt _ ⟨_, h1, h2, _, h3⟩ (SeqAt.items_eqAt h4 r1 hxs (SeqAt.canLay_of_shaped sd) (room_inT sd hu)) (by rw [SeqAt.any_by_data h4 hxs]; exact ⟨.bl _, H, I, rfl, q⟩)
def fInT : F2 := fun d y Q => ∃ ds, y = .tuple ds ∧ SeqAt.shaped d = true ∧ SeqAt.shaped y = true ∧ Q (.bool (ds.any fun z => PyData.eqv z d))
theorem room65 {k : Nat} {A : Around} (r : Room k A) : A.units + 65 < cLine := by
  have := r.un
  omega
theorem opd_inT {X : Cx} : OpD X (rInT X.K) fInT where
  go := fun C G H x y dx dy Q h ax ay q => by
    obtain ⟨ds, rfl, s1, s2, q⟩ := q
    exact ⟨dx, ds, DpS h.sub ax, DpS h.sub ay, s1, s2, RQ.now q h.sub h.j (.bl _)⟩
  mono := fun a b Q Q' k ⟨ds, e, h1, h2, q⟩ => ⟨ds, e, h1, h2, k _ q⟩
section
variable {Z : DC → Prop} {X : Cx} {E : XK} {a b e : Expr} {wa wb wc : DW} {pos : Pos}
theorem pd_inT (hu : X.A.units + 65 < cLine) (ha : PD Z X E a wa) (hb : PD Z X E b wb) (hm : behindInMarks .In b = false := by rfl) : PD Z X E (.Compare a [.In] [b] pos) (w2 fInT wa wb) := pd_cmp (op_inT hu) opd_inT ha hb hm
theorem pdt_inT (hu : X.A.units + 65 < cLine) (ha : PD Z X E a wa) (hb : PD Z X E b wb) (hm : behindInMarks .In b = false := by rfl) : PDT Z X E (.Compare a [.In] [b] pos) (wT (w2 fInT wa wb)) := pdt_cmp (op_inT hu) opd_inT ha hb hm
end
end DL

namespace DL
open PySem PySem.Spec L2
/-! ### stands -/
def eventsL : List Str := ["buy", "clear", "home", "meet", "put", "strike", "want"]
def marksL : List Str := ["none", "open", "ticked"]
abbrev EVENTSd : PyData := .tuple (strsD eventsL)
abbrev BEGINd : PyData := .tuple [.str "none", .bool false, .bool false, .bool false]
/-- mark, changed, fresh, basket -/
abbrev Cp := Str × Bool × Bool × Bool
def cpD (c : Cp) : PyData := .tuple [.str c.1, .bool c.2.1, .bool c.2.2.1, .bool c.2.2.2]
/-- house, need, taken -/
abbrev Ld := Str × Bool × Bool
def ldD (l : Ld) : PyData := .tuple [.str l.1, .bool l.2.1, .bool l.2.2]
abbrev Sd := Ld × List Cp
def sdD (s : Sd) : PyData := .tuple [.str s.1.1, .bool s.1.2.1, .bool s.1.2.2, .tuple (s.2.map cpD)]
abbrev Ev := Int × Str
def evD (e : Ev) : PyData := .tuple [.int e.1, .str e.2]
def okCp (c : Cp) : Bool := inL c.1 marksL
def okLd (l : Ld) : Bool := inL l.1 marksL
def okSd (s : Sd) : Bool := okLd s.1 && s.2.all okCp && decide (s.2.length ≤ 100)
def cp0 : Cp := ("none", false, false, false)
def sd0 : Sd := (("none", false, false), [])
/-- a test without no -/
def posH (t house : Str) (c : Cp) : Bool :=
  if t = ("changed" : Str) then c.2.1 else if t = ("fresh" : Str) then c.2.2.1
  else if t = ("house none" : Str) then decide (house = ("none" : Str)) else if t = ("house open" : Str) then decide (house = ("open" : Str)) else if t = ("house ticked" : Str) then decide (house = ("ticked" : Str))
  else if t = ("own none" : Str) then decide (c.1 = ("none" : Str)) else if t = ("own open" : Str) then decide (c.1 = ("open" : Str)) else decide (c.1 = ("ticked" : Str))
def isNo (t : Str) : Bool := decide (cutS t none (some 3) = ("no " : Str))
def holdsS (t house : Str) (c : Cp) : Bool := if isNo t then !posH (cutS t (some 3) none) house c else posH t house c
def clHolds (house : Str) (c : Cp) (cl : Cl) : Bool := cl.1.all fun t => holdsS t house c
def clauseOf (R : List Cl) (house : Str) (c : Cp) : Option Nat := R.findIdx? (clHolds house c)
def deedOf (R : List Cl) (house : Str) (c : Cp) : Str := match R.find? (clHolds house c) with
  | none => "leave"
  | some cl => cl.2
def metS (R : List Cl) (house : Str) (c : Cp) : Str × Cp :=
  let d := deedOf R house c
  if d = ("leave" : Str) then (house, c) else
    let m := if d = ("house" : Str) then house else if d = ("own" : Str) then c.1 else d
    (m, (m, false, true, c.2.2.2))
def harmsMet (l : Ld) (old mark new : Str) : List Str :=
  (if l.2.1 = true ∧ l.2.2 = false ∧ (l.1 = ("open" : Str) ∨ old = ("open" : Str)) ∧ mark ≠ ("open" : Str) ∧ new ≠ ("open" : Str) then ([("lost" : Str)] : List Str) else []) ++
  ((if l.2.1 = true ∧ l.2.2 = true ∧ ((l.1 = ("ticked" : Str) ∧ mark = ("open" : Str)) ∨ (old = ("ticked" : Str) ∧ new = ("open" : Str))) then ([("reopened" : Str)] : List Str) else []) ++
  (if l.2.1 = false ∧ ((l.1 ≠ ("open" : Str) ∧ mark = ("open" : Str)) ∨ (old ≠ ("open" : Str) ∧ new = ("open" : Str))) then ([("risen" : Str)] : List Str) else []))
abbrev Res := Ld × Cp × List Str
def resD (r : Res) : PyData := .tuple [ldD r.1, cpD r.2.1, .list (strsD r.2.2)]
def metR (R : List Cl) (l : Ld) (c : Cp) : Res :=
  let m := metS R l.1 c
  ((m.1, l.2.1, l.2.2), m.2, harmsMet l c.1 m.1 m.2.1)
def boughtR (l : Ld) (c : Cp) : Res := ((l.1, l.2.1, true), ("ticked", true, c.2.2.1, !l.2.2), if l.2.1 && l.2.2 then ["twice"] else if l.2.1 then [] else ["needless"])
def actS (R : List Cl) (l : Ld) (c : Cp) (e : Str) : Option Res :=
  if e = ("meet" : Str) then some (metR R l c)
  else if e = ("want" : Str) then some ((l.1, true, l.2.2), ("open", true, c.2.2.1, c.2.2.2), [])
  else if e = ("strike" : Str) then (if c.1 = ("open" : Str) then some ((l.1, false, l.2.2), ("none", true, c.2.2.1, c.2.2.2), []) else none)
  else if e = ("clear" : Str) then (if c.1 = ("ticked" : Str) then some (l, ("none", true, c.2.2.1, c.2.2.2), []) else none)
  else if e = ("buy" : Str) then (if c.1 = ("open" : Str) ∧ c.2.2.2 = false then some (boughtR l c) else none)
  else if c.2.2.2 = false then none
  else if e = ("put" : Str) then some ((l.1, l.2.1, false), ("open", true, c.2.2.1, false), [])
  else some ((l.1, false, false), (c.1, c.2.1, c.2.2.1, false), [])
def staleS (c : Cp) : Cp := (c.1, c.2.1, false, c.2.2.2)
/-- behind an event of the person p -/
def nextS (R : List Cl) (s : Sd) (p : Nat) (e : Str) : Option (Sd × List Str) :=
  if s.2.length < p then none else
    match actS R s.1 (s.2.getD p cp0) e with
    | none => none
    | some (l, c, hs) =>
      let others := if l.1 = s.1.1 then s.2 else s.2.map staleS
      some ((l, others.take p ++ [c] ++ others.drop (p + 1)), hs)
def nextD (r : Option (Sd × List Str)) : PyData := match r with
  | none => .none
  | some (s, hs) => .tuple [sdD s, .list (strsD hs)]
def optD (r : Option Res) : PyData := match r with
  | none => .none
  | some r => resD r
/-! ### what the defs keep -/
def c_holds (n : Nat) : FNC := fun ds Q _ => ∃ t h c, ds = [.str t, .str h, cpD c] ∧ isTestS t = true ∧ inL h marksL = true ∧ okCp c = true ∧ (if isNo t then 1 else 0) < n ∧ Q (.bool (holdsS t h c))
theorem mo_holds (n : Nat) : MoF (c_holds n) := fun ds Q Q' Y Y' k ky ⟨t, h, c, e, h1, h2, h3, h4, q⟩ => ⟨t, h, c, e, h1, h2, h3, h4, k _ q⟩
def c_clause_of : FNC := fun ds Q _ => ∃ R h c, ds = [ruD R, .str h, cpD c] ∧ okRu R = true ∧ inL h marksL = true ∧ okCp c = true ∧ Q (match clauseOf R h c with | none => .none | some i => .int i)
theorem mo_clause_of : MoF c_clause_of := fun ds Q Q' Y Y' k ky ⟨t, h, c, e, h1, h2, h3, q⟩ => ⟨t, h, c, e, h1, h2, h3, k _ q⟩
def c_met : FNC := fun ds Q _ => ∃ R h c, ds = [ruD R, .str h, cpD c] ∧ okRu R = true ∧ inL h marksL = true ∧ okCp c = true ∧ Q (.tuple [.str (metS R h c).1, cpD (metS R h c).2])
theorem mo_met : MoF c_met := fun ds Q Q' Y Y' k ky ⟨t, h, c, e, h1, h2, h3, q⟩ => ⟨t, h, c, e, h1, h2, h3, k _ q⟩
def c_met_so : FNC := fun ds Q _ => ∃ R l c, ds = [ruD R, ldD l, cpD c] ∧ okRu R = true ∧ okLd l = true ∧ okCp c = true ∧ Q (resD (metR R l c))
theorem mo_met_so : MoF c_met_so := fun ds Q Q' Y Y' k ky ⟨t, h, c, e, h1, h2, h3, q⟩ => ⟨t, h, c, e, h1, h2, h3, k _ q⟩
def c_bought : FNC := fun ds Q _ => ∃ l c, ds = [ldD l, cpD c] ∧ Q (resD (boughtR l c))
theorem mo_bought : MoF c_bought := fun ds Q Q' Y Y' k ky ⟨h, c, e, q⟩ => ⟨h, c, e, k _ q⟩
def c_acted : FNC := fun ds Q _ => ∃ R l c e, ds = [ruD R, ldD l, cpD c, .str e] ∧ okRu R = true ∧ okLd l = true ∧ okCp c = true ∧ inL e eventsL = true ∧ Q (optD (actS R l c e))
theorem mo_acted : MoF c_acted := fun ds Q Q' Y Y' k ky ⟨t, h, c, v, e, h1, h2, h3, h4, q⟩ => ⟨t, h, c, v, e, h1, h2, h3, h4, k _ q⟩
def c_stale : FNC := fun ds Q _ => ∃ c, ds = [cpD c] ∧ Q (cpD (staleS c))
theorem mo_stale : MoF c_stale := fun ds Q Q' Y Y' k ky ⟨c, e, q⟩ => ⟨c, e, k _ q⟩
def c_first_stand : FNC := fun ds Q _ => ds = [] ∧ Q (sdD sd0)
theorem mo_first_stand : MoF c_first_stand := fun ds Q Q' Y Y' k ky ⟨e, q⟩ => ⟨e, k _ q⟩
def c_behind : FNC := fun ds Q _ => ∃ R s p e, ds = [ruD R, sdD s, evD ((p : Nat), e)] ∧ okRu R = true ∧ okSd s = true ∧ inL e eventsL = true ∧ Q (nextD (nextS R s p e))
theorem mo_behind : MoF c_behind := fun ds Q Q' Y Y' k ky ⟨t, h, c, v, e, h1, h2, h3, q⟩ => ⟨t, h, c, v, e, h1, h2, h3, k _ q⟩
end DL

namespace DL
open PySem PySem.Spec L2
open PyProof.Rows (envOfC)
abbrev N_holds : List Str := ["test", "house", "copy"]
def W_holds (n : Nat) : DWS := (wSeq (wIfS (wT (w2 fEq (wSl (wVar 0) wNo (wPart (wC (.int 3)))) (wC (.str "no ")))) (wRet (wNotV (wFn (c_holds n) (wCons (wSl (wVar 0) (wPart (wC (.int 3))) wNo) (wCons (wVar 1) (wCons (wVar 2) wNil)))))) wNx)
  (wSeq (wIfS (wT (w2 fEq (wVar 0) (wC (.str "changed")))) (wRet (w2 fIx (wVar 2) (wC (.int 1)))) wNx)
  (wSeq (wIfS (wT (w2 fEq (wVar 0) (wC (.str "fresh")))) (wRet (w2 fIx (wVar 2) (wC (.int 2)))) wNx)
  (wRet (w2 fEq (wIf (wT (w2 fEq (wSl (wVar 0) wNo (wPart (wC (.int 5)))) (wC (.str "house")))) (wVar 1) (w2 fIx (wVar 2) (wC (.int 0)))) (w2 fIx (wSplit (wVar 0) (wC (.str " "))) (wC (.int 1))))))))
abbrev N_clause_of : List Str := ["rule", "house", "copy", "index", "clause", "test"]
def W_clause_of  : DWS := (wSeq (wFor (.tup [3, 4]) (wIfS (wT (w2 fEq (wOfF (wLc (.one 5) (wNot (wT (wFn (c_holds 2) (wCons (wVar 5) (wCons (wVar 1) (wCons (wVar 2) wNil)))))) (wVar 5) [5] (wItT (w2 fIx (wVar 4) (wC (.int 0)))))) (wLst wNil))) (wRet (wVar 3)) wNx) (wEnumT (wVar 0)))
  (wRet (wC .none)))
abbrev N_met : List Str := ["rule", "house", "copy", "index", "deed", "mark"]
def W_met  : DWS := (wSeq (wSet 3 (wFn c_clause_of (wCons (wVar 0) (wCons (wVar 1) (wCons (wVar 2) wNil)))))
  (wSeq (wSet 4 (wIf (wT (wIsN false (wVar 3))) (wC (.str "leave")) (w2 fIx (w2 fIx (wVar 0) (wVar 3)) (wC (.int 1)))))
  (wSeq (wIfS (wT (w2 fEq (wVar 4) (wC (.str "leave")))) (wRet (wTup (wCons (wVar 1) (wCons (wVar 2) wNil)))) wNx)
  (wSeq (wSet 5 (wIf (wT (w2 fEq (wVar 4) (wC (.str "house")))) (wVar 1) (wIf (wT (w2 fEq (wVar 4) (wC (.str "own")))) (w2 fIx (wVar 2) (wC (.int 0))) (wVar 4))))
  (wRet (wTup (wCons (wVar 5) (wCons (wTup (wCons (wVar 5) (wCons (wC (.bool false)) (wCons (wC (.bool true)) (wCons (w2 fIx (wVar 2) (wC (.int 3))) wNil))))) wNil))))))))
abbrev N_stale : List Str := ["copy"]
def W_stale  : DWS := (wRet (wTup (wCons (w2 fIx (wVar 0) (wC (.int 0))) (wCons (w2 fIx (wVar 0) (wC (.int 1))) (wCons (wC (.bool false)) (wCons (w2 fIx (wVar 0) (wC (.int 3))) wNil))))))
abbrev N_first_stand : List Str := []
def W_first_stand  : DWS := (wRet (wTup (wCons (wC (.str "none")) (wCons (wC (.bool false)) (wCons (wC (.bool false)) (wCons (wTup wNil) wNil))))))
abbrev N_bought : List Str := ["lead", "copy", "house", "need", "taken", "harms"]
def W_bought  : DWS := (wSeq (wSetT (.tup [2, 3, 4]) (wVar 0))
  (wSeq (wSet 5 (wIf (wAnd (wT (wVar 3)) (wT (wVar 4))) (wLst (wCons (wC (.str "twice")) wNil)) (wIf (wT (wVar 3)) (wLst wNil) (wLst (wCons (wC (.str "needless")) wNil)))))
  (wRet (wTup (wCons (wTup (wCons (wVar 2) (wCons (wVar 3) (wCons (wC (.bool true)) wNil)))) (wCons (wTup (wCons (wC (.str "ticked")) (wCons (wC (.bool true)) (wCons (w2 fIx (wVar 1) (wC (.int 2))) (wCons (wNotV (wVar 4)) wNil))))) (wCons (wVar 5) wNil)))))))
abbrev N_met_so : List Str := ["rule", "lead", "copy", "house", "need", "taken", "mark", "new", "harms", "both", "pair"]
def W_met_so  : DWS := (wSeq (wSetT (.tup [3, 4, 5]) (wVar 1))
  (wSeq (wSetT (.tup [6, 7]) (wFn c_met (wCons (wVar 0) (wCons (wVar 3) (wCons (wVar 2) wNil)))))
  (wSeq (wParM 8 9 (wLstF wNil) (wTup (wCons (wTup (wCons (wVar 3) (wCons (wVar 6) wNil))) (wCons (wTup (wCons (w2 fIx (wVar 2) (wC (.int 0))) (wCons (w2 fIx (wVar 7) (wC (.int 0))) wNil))) wNil))))
  (wSeq (wIfS (wAnd (wT (wVar 4)) (wAnd (wNot (wT (wVar 5))) (wAnd (wT (w2 (fIn false) (wC (.str "open")) (wTup (wCons (wVar 3) (wCons (w2 fIx (wVar 2) (wC (.int 0))) wNil))))) (wT (w2 (fIn true) (wC (.str "open")) (wTup (wCons (wVar 6) (wCons (w2 fIx (wVar 7) (wC (.int 0))) wNil)))))))) (wAppS 8 (wC (.str "lost"))) wNx)
  (wSeq (wIfS (wAnd (wT (wVar 4)) (wAnd (wT (wVar 5)) (wT (w2 fInT (wTup (wCons (wC (.str "ticked")) (wCons (wC (.str "open")) wNil))) (wVar 9))))) (wAppS 8 (wC (.str "reopened"))) wNx)
  (wSeq (wIfS (wAnd (wNot (wT (wVar 4))) (wT (w2 fNe (wOfF (wLc (.one 10) (wAnd (wT (w2 fNe (w2 fIx (wVar 10) (wC (.int 0))) (wC (.str "open")))) (wT (w2 fEq (w2 fIx (wVar 10) (wC (.int 1))) (wC (.str "open"))))) (wVar 10) [10] (wItT (wVar 9)))) (wLst wNil)))) (wAppS 8 (wC (.str "risen"))) wNx)
  (wFrz 8 (wRet (wTup (wCons (wTup (wCons (wVar 6) (wCons (wVar 4) (wCons (wVar 5) wNil)))) (wCons (wVar 7) (wCons (wVar 8) wNil))))))))))))
abbrev N_acted : List Str := ["rule", "lead", "copy", "event", "house", "need", "taken", "mark", "changed", "fresh", "basket"]
def W_acted  : DWS := (wSeq (wSetT (.tup [4, 5, 6]) (wVar 1))
  (wSeq (wSetT (.tup [7, 8, 9, 10]) (wVar 2))
  (wSeq (wIfS (wT (w2 fEq (wVar 3) (wC (.str "meet")))) (wRet (wFn c_met_so (wCons (wVar 0) (wCons (wVar 1) (wCons (wVar 2) wNil))))) wNx)
  (wSeq (wIfS (wT (w2 fEq (wVar 3) (wC (.str "want")))) (wRet (wTup (wCons (wTup (wCons (wVar 4) (wCons (wC (.bool true)) (wCons (wVar 6) wNil)))) (wCons (wTup (wCons (wC (.str "open")) (wCons (wC (.bool true)) (wCons (wVar 9) (wCons (wVar 10) wNil))))) (wCons (wLst wNil) wNil))))) wNx)
  (wSeq (wIfS (wT (w2 fEq (wVar 3) (wC (.str "strike")))) (wRet (wIf (wT (w2 fEq (wVar 7) (wC (.str "open")))) (wTup (wCons (wTup (wCons (wVar 4) (wCons (wC (.bool false)) (wCons (wVar 6) wNil)))) (wCons (wTup (wCons (wC (.str "none")) (wCons (wC (.bool true)) (wCons (wVar 9) (wCons (wVar 10) wNil))))) (wCons (wLst wNil) wNil)))) (wC .none))) wNx)
  (wSeq (wIfS (wT (w2 fEq (wVar 3) (wC (.str "clear")))) (wRet (wIf (wT (w2 fEq (wVar 7) (wC (.str "ticked")))) (wTup (wCons (wVar 1) (wCons (wTup (wCons (wC (.str "none")) (wCons (wC (.bool true)) (wCons (wVar 9) (wCons (wVar 10) wNil))))) (wCons (wLst wNil) wNil)))) (wC .none))) wNx)
  (wSeq (wIfS (wT (w2 fEq (wVar 3) (wC (.str "buy")))) (wRet (wIf (wAnd (wT (w2 fEq (wVar 7) (wC (.str "open")))) (wNot (wT (wVar 10)))) (wFn c_bought (wCons (wVar 1) (wCons (wVar 2) wNil))) (wC .none))) wNx)
  (wSeq (wIfS (wNot (wT (wVar 10))) (wRet (wC .none)) wNx)
  (wSeq (wIfS (wT (w2 fEq (wVar 3) (wC (.str "put")))) (wRet (wTup (wCons (wTup (wCons (wVar 4) (wCons (wVar 5) (wCons (wC (.bool false)) wNil)))) (wCons (wTup (wCons (wC (.str "open")) (wCons (wC (.bool true)) (wCons (wVar 9) (wCons (wC (.bool false)) wNil))))) (wCons (wLst wNil) wNil))))) wNx)
  (wRet (wTup (wCons (wTup (wCons (wVar 4) (wCons (wC (.bool false)) (wCons (wC (.bool false)) wNil)))) (wCons (wTup (wCons (wVar 7) (wCons (wVar 8) (wCons (wVar 9) (wCons (wC (.bool false)) wNil))))) (wCons (wLst wNil) wNil))))))))))))))
abbrev N_behind : List Str := ["rule", "stand", "event", "person", "word", "copies", "copy", "found", "lead", "new", "harms", "others", "one"]
def W_behind  : DWS := (wSeq (wSetT (.tup [3, 4]) (wVar 2))
  (wSeq (wSet 5 (w2 fIx (wVar 1) (wC (.int 3))))
  (wSeq (wIfS (wT (w2 fGt (wVar 3) (wCall fLen (wCons (wVar 5) wNil)))) (wRet (wC .none)) wNx)
  (wSeq (wSet 6 (wIf (wT (w2 fLt (wVar 3) (wCall fLen (wCons (wVar 5) wNil)))) (w2 fIx (wVar 5) (wVar 3)) (wC BEGINd)))
  (wSeq (wSet 7 (wFn c_acted (wCons (wVar 0) (wCons (wSl (wVar 1) wNo (wPart (wC (.int 3)))) (wCons (wVar 6) (wCons (wVar 4) wNil))))))
  (wSeq (wIfS (wT (wIsN false (wVar 7))) (wRet (wC .none)) wNx)
  (wSeq (wSetT (.tup [8, 9, 10]) (wVar 7))
  (wSeq (wSet 11 (wIf (wT (w2 fEq (w2 fIx (wVar 8) (wC (.int 0))) (w2 fIx (wVar 1) (wC (.int 0))))) (wVar 5) (wCall fTuple (wCons (wOfF (wLc (.one 12) wYes (wFn c_stale (wCons (wVar 12) wNil)) [12] (wItT (wVar 5)))) wNil))))
  (wRet (wTup (wCons (w2 fAdd (wVar 8) (wTup (wCons (w2 fAdd (w2 fAdd (wSl (wVar 11) wNo (wPart (wVar 3))) (wTup (wCons (wVar 9) wNil))) (wSl (wVar 11) (wPart (w2 fAdd (wVar 3) (wC (.int 1)))) wNo)) wNil))) (wCons (wVar 10) wNil))))))))))))
end DL

namespace DL
open PySem PySem.Spec L2
theorem tests_pos : ∀ z ∈ testsL, isNo z = false ∧ isTestS z = true ∧ PyData.strOk z = true ∧ z.length ≤ 20 := by decide +kernel
theorem sh_lit (z : Str) (h : PyData.strOk z = true) : SeqAt.shaped (.str z) = true := shaped_str h
theorem vc_stale : ∀ ds Q Y, c_stale ds Q Y → ds.length = ["copy"].length ∧ W_stale (startD N_stale ds) (fun _ => Q .none) Q Y := by
  rintro ds Q Y ⟨c, rfl, q⟩
  refine ⟨rfl, ?_⟩
  unfold W_stale
  unfold cpD staleS at *
  simp [atI, ixN, line24]
  exact q
theorem vc_first_stand : ∀ ds Q Y, c_first_stand ds Q Y → ds.length = ([] : List Str).length ∧ W_first_stand (startD N_first_stand ds) (fun _ => Q .none) Q Y := by
  rintro ds Q Y ⟨rfl, q⟩
  refine ⟨rfl, ?_⟩
  unfold W_first_stand
  simp [line24]
  exact q
theorem vc_bought : ∀ ds Q Y, c_bought ds Q Y → ds.length = ["lead", "copy"].length ∧ W_bought (startD N_bought ds) (fun _ => Q .none) Q Y := by
  rintro ds Q Y ⟨⟨h, n, t⟩, ⟨m, c, f, b⟩, rfl, q⟩
  refine ⟨rfl, ?_⟩
  unfold W_bought
  unfold resD boughtR cpD ldD at *
  cases n <;> cases t <;> (simp [atI, ixN, line24] ; exact q)
theorem marks_ok {h : Str} (e : inL h marksL = true) : PyData.strOk h = true ∧ h.length ≤ 10 := by
  have : ∀ z ∈ marksL, PyData.strOk z = true ∧ z.length ≤ 10 := by decide +kernel
  exact this h (of_decide_eq_true e)
theorem sp1 : ¬ (Str.ofString " ").length = 0 := by decide +kernel
theorem holds6 {t x b h m : Str} {Q : PyData → Prop} (hs : Bool) (hh : PyData.strOk h = true) (hm : PyData.strOk m = true) (hb : PyData.strOk b = true) (hl : t.length ≤ 20) (ht : PyData.strOk t = true)
    (e1 : Txt.split t (Str.ofString " ") = [x, b]) (e2 : decide (cutS t none (some 5) = Str.ofString "house") = hs) (q : Q (.bool (decide ((if hs then h else m) = b)))) :
    t.length ≤ 16777216 ∧ SeqAt.shaped (.str (cutS t none (some 5))) = true ∧ SeqAt.shaped (.str (Str.ofString "house")) = true ∧
      if (PyData.str (cutS t none (some 5))).eqv (PyData.str (Str.ofString "house")) = true then
        ¬(Str.ofString " ").length = 0 ∧ t.length ≤ 16777214 ∧ ∃ d, ((if (1 : Int) < ((strsD (Txt.split t (Str.ofString " "))).length : Nat) then some 1 else none).bind fun j => (strsD (Txt.split t (Str.ofString " ")))[j]?) = some d ∧
          SeqAt.shaped (.str h) = true ∧ SeqAt.shaped d = true ∧ Q (.bool ((PyData.str h).eqv d))
      else
        ¬(Str.ofString " ").length = 0 ∧ t.length ≤ 16777214 ∧ ∃ d, ((if (1 : Int) < ((strsD (Txt.split t (Str.ofString " "))).length : Nat) then some 1 else none).bind fun j => (strsD (Txt.split t (Str.ofString " ")))[j]?) = some d ∧
          SeqAt.shaped (.str m) = true ∧ SeqAt.shaped d = true ∧ Q (.bool ((PyData.str m).eqv d)) := by
  rw [e1, eqv_ss, e2]
  refine ⟨by omega, shaped_str (cutS_ok _ _ ht), by decide +kernel, ?_⟩
  cases hs with
  | true =>
    rw [if_pos rfl]
    exact ⟨sp1, by omega, .str b, rfl, shaped_str hh, shaped_str hb, by rw [eqv_ss]; exact q⟩
  | false =>
    rw [if_neg Bool.false_ne_true]
    exact ⟨sp1, by omega, .str b, rfl, shaped_str hm, shaped_str hb, by rw [eqv_ss]; exact q⟩
theorem isTest_no {t : Str} (h : isTestS t = true) (hn : isNo t = true) : cutS t (some 3) none ∈ testsL := by
  unfold isTestS inL at h
  rw [Bool.or_eq_true, Bool.and_eq_true, decide_eq_true_eq, decide_eq_true_eq, decide_eq_true_eq] at h
  rcases h with h | h
  · rw [(tests_pos t h).1] at hn; cases hn
  · exact h.2
theorem isTest_yes {t : Str} (h : isTestS t = true) (hn : isNo t = false) : t ∈ testsL := by
  unfold isTestS inL at h
  rw [Bool.or_eq_true, Bool.and_eq_true, decide_eq_true_eq, decide_eq_true_eq, decide_eq_true_eq] at h
  rcases h with h | h
  · exact h
  · unfold isNo at hn
    exact absurd h.1 (of_decide_eq_false hn)
theorem vc_holds (n : Nat) : ∀ ds Q Y, c_holds (n + 1) ds Q Y → ds.length = ["test", "house", "copy"].length ∧ W_holds n (startD N_holds ds) (fun _ => Q .none) Q Y := by
  rintro ds Q Y ⟨t, h, ⟨m, c, f, b⟩, rfl, ht, hh, hc, hn, q⟩
  refine ⟨rfl, ?_⟩
  unfold W_holds
  have mt := tests_facts t (isTest_mem ht)
  have shT := shaped_str mt.2.2.1
  have hh' := (marks_ok hh).1
  have hm' := (marks_ok (show inL m marksL = true from hc)).1
  have e0 : cpD (m, c, f, b) = .tuple [.str m, .bool c, .bool f, .bool b] := rfl
  rw [e0]
  simp [atI, ixN, line24]
  refine ⟨by omega, shaped_str (cutS_ok _ _ mt.2.2.1), by decide +kernel, ?_⟩
  rw [eqv_ss]
  by_cases hno : isNo t = true
  · have hno' : decide (cutS t none (some 3) = Str.ofString "no ") = true := hno
    rw [if_pos hno']
    have hx := isTest_no ht hno
    have px := tests_pos _ hx
    rw [if_pos hno] at hn
    have q' : Q (.bool (!posH (cutS t (some 3) none) h (m, c, f, b))) := by
      unfold holdsS at q
      rwa [if_pos hno] at q
    refine ⟨by omega, _, _, (m, c, f, b), rfl, px.2.1, hh, hc, by rw [px.1]; simp; omega, ?_⟩
    have : holdsS (cutS t (some 3) none) h (m, c, f, b) = posH (cutS t (some 3) none) h (m, c, f, b) := by
      unfold holdsS
      rw [px.1]; rfl
    rw [this]
    cases hp : posH (cutS t (some 3) none) h (m, c, f, b) with
    | true => rw [hp] at q'; exact .inr ⟨rfl, q'⟩
    | false => rw [hp] at q'; exact .inl ⟨rfl, q'⟩
  · have hno2 : isNo t = false := by simpa using hno
    have hno' : decide (cutS t none (some 3) = Str.ofString "no ") = false := hno2
    rw [hno', if_neg Bool.false_ne_true]
    have q' : Q (.bool (posH t h (m, c, f, b))) := by
      unfold holdsS at q
      rwa [if_neg hno] at q
    have mem := isTest_yes ht hno2
    refine ⟨shT, by decide +kernel, ?_⟩
    rw [eqv_ss]
    by_cases h1 : t = Str.ofString "changed"
    · rw [if_pos (decide_eq_true h1)]
      unfold posH at q'
      rwa [if_pos h1] at q'
    rw [decide_eq_false h1, if_neg Bool.false_ne_true]
    refine ⟨shT, by decide +kernel, ?_⟩
    rw [eqv_ss]
    by_cases h2 : t = Str.ofString "fresh"
    · rw [if_pos (decide_eq_true h2)]
      unfold posH at q'
      rwa [if_neg h1, if_pos h2] at q'
    rw [decide_eq_false h2, if_neg Bool.false_ne_true]
    unfold posH at q'
    rw [if_neg h1, if_neg h2] at q'
    have mem' : t = "changed" ∨ t = "fresh" ∨ t = "house none" ∨ t = "house open" ∨ t = "house ticked" ∨ t = "own none" ∨ t = "own open" ∨ t = "own ticked" := by
      unfold testsL at mem
      simpa only [List.mem_cons, List.not_mem_nil, or_false] using mem
    rcases mem' with e | e | e | e | e | e | e | e
    · exact absurd e h1
    · exact absurd e h2
    all_goals
      subst e
      first
        | exact holds6 (x := "house") (b := "none") true hh' hm' (by decide +kernel) mt.2.1 mt.2.2.1 (by decide +kernel) (by decide +kernel) q'
        | exact holds6 (x := "house") (b := "open") true hh' hm' (by decide +kernel) mt.2.1 mt.2.2.1 (by decide +kernel) (by decide +kernel) q'
        | exact holds6 (x := "house") (b := "ticked") true hh' hm' (by decide +kernel) mt.2.1 mt.2.2.1 (by decide +kernel) (by decide +kernel) q'
        | exact holds6 (x := "own") (b := "none") false hh' hm' (by decide +kernel) mt.2.1 mt.2.2.1 (by decide +kernel) (by decide +kernel) q'
        | exact holds6 (x := "own") (b := "open") false hh' hm' (by decide +kernel) mt.2.1 mt.2.2.1 (by decide +kernel) (by decide +kernel) q'
        | exact holds6 (x := "own") (b := "ticked") false hh' hm' (by decide +kernel) mt.2.1 mt.2.2.1 (by decide +kernel) (by decide +kernel) q'
end DL

namespace DL
open PySem PySem.Spec L2
theorem vc_clause_of : ∀ ds Q Y, c_clause_of ds Q Y → ds.length = ["rule", "house", "copy"].length ∧ W_clause_of (startD N_clause_of ds) (fun _ => Q .none) Q Y := by
  rintro ds Q Y ⟨R, h, c, rfl, okR, hh, hc, q⟩
  refine ⟨rfl, ?_⟩
  obtain ⟨r1, r2⟩ := ruOk okR
  unfold W_clause_of
  refine ⟨_, rfl, ?_⟩
  refine forW_from (fun pre ρ => (∀ i, i < pre.length → ∀ cl, R[i]? = some cl → clHolds h c cl = false) ∧ ∃ s3 s4 s5, ρ = [.d (ruD R), .d (.str h), .d (cpD c), s3, s4, s5]) ⟨fun i hi => absurd hi (Nat.not_lt_zero _), _, _, _, rfl⟩ ?_ ?_
  · rintro pre d post ρ e ⟨hp, s3, s4, s5, rfl⟩ K hK
    obtain ⟨x, hx, rfl⟩ := enum_at e
    rw [List.getElem?_map] at hx
    cases hcl : R[pre.length]? with
    | none => rw [hcl] at hx; cases hx
    | some cl =>
      rw [hcl] at hx
      cases hx
      have okc := r2 cl (List.mem_of_getElem? hcl)
      have k := clOk okc
      have hlt : pre.length < R.length := (List.getElem?_eq_some_iff.mp hcl).1
      have e0 : clD cl = .tuple [.tuple (strsD cl.1), .str cl.2] := rfl
      have main : ∀ K2 : PyData → Prop, (SeqAt.shaped (.list ((strsD cl.1).filter fun d => match d with | .str t => !holdsS t h c | _ => false)) = true → K2 (.list ((strsD cl.1).filter fun d => match d with | .str t => !holdsS t h c | _ => false))) →
          wOfF (wLc (.one 5) (wNot (wT (wFn (c_holds 2) (wCons (wVar 5) (wCons (wVar 1) (wCons (wVar 2) wNil)))))) (wVar 5) [5] (wItT (w2 fIx (wVar 4) (wC (.int 0)))))
            [.d (ruD R), .d (.str h), .d (cpD c), .d (.int (pre.length : Nat)), .d (clD cl), s5] K2 Y := by
        intro K2 q2
        refine ⟨_, rfl, _, rfl, ?_⟩
        refine compW_fm (fun d => match d with | .str t => !holdsS t h c | _ => false) (fun d => d) (fun d hd Q Y q => ?_) (fun d hd _ Q Y q => q) (by rw [line24]; unfold strsD; simp; have := k.n; omega) ?_
        · obtain ⟨t, ht, rfl⟩ := List.mem_map.mp hd
          have it := (tests_facts t (k.t t ht)).1
          exact ⟨t, h, c, rfl, it, hh, hc, by split <;> decide, _, rfl, q⟩
        · rw [List.nil_append, List.map_id']
          refine q2 (shaped_items fun x hx => ?_)
          obtain ⟨t, ht, rfl⟩ := List.mem_map.mp (List.mem_filter.mp hx).1
          exact goodD_of (by rw [okD]; exact test_okS (k.t t ht)) (by simp only [PyData.depth]; decide)
      have emp : ((strsD cl.1).filter fun d => match d with | .str t => !holdsS t h c | _ => false).isEmpty = clHolds h c cl := by
        unfold clHolds strsD
        generalize cl.1 = l
        induction l with
        | nil => rfl
        | cons a l ih =>
          rw [List.map_cons, List.all_cons]
          cases ha : holdsS a h c with
          | true => rw [List.filter_cons_of_neg (by simp [ha]), ih]; rfl
          | false => rw [List.filter_cons_of_pos (by simp [ha])]; rfl
      have q3 : ∀ K3 : DE → Prop, (clHolds h c cl = false → K3 [.d (ruD R), .d (.str h), .d (cpD c), .d (.int (pre.length : Nat)), .d (clD cl), s5]) → wIfS (wT (w2 fEq (wOfF (wLc (.one 5) (wNot (wT (wFn (c_holds 2) (wCons (wVar 5) (wCons (wVar 1) (wCons (wVar 2) wNil)))))) (wVar 5) [5] (wItT (w2 fIx (wVar 4) (wC (.int 0)))))) (wLst wNil))) (wRet (wVar 3)) wNx
          [.d (ruD R), .d (.str h), .d (cpD c), .d (.int (pre.length : Nat)), .d (clD cl), s5] K3 Q Y := by
        intro K3 hK3
        simp only [wIfS, wT, w2]
        refine main _ fun sh => ?_
        refine ⟨by rw [line24]; decide, sh, shaped_lnil, _, rfl, ?_⟩
        rw [eqv_lnil, emp]
        cases hc2 : clHolds h c cl with
        | true =>
          rw [if_pos rfl]
          have e : clauseOf R h c = some pre.length := by
            unfold clauseOf
            rw [List.findIdx?_eq_some_iff_getElem]
            refine ⟨hlt, ?_, fun j hj => ?_⟩
            · have : R[pre.length] = cl := by
                have := List.getElem?_eq_getElem hlt
                rw [hcl] at this
                exact (Option.some.inj this).symm
              rw [this]; exact hc2
            · rw [hp j hj _ (List.getElem?_eq_getElem (by omega))]; simp
          rw [e] at q
          exact q
        | false =>
          rw [if_neg Bool.false_ne_true]
          exact hK3 hc2
      have z : (0 + pre.length : Nat) = pre.length := Nat.zero_add _
      rw [z]
      refine ⟨rfl, ?_⟩
      refine q3 _ fun hf => hK _ ⟨fun i hi cl2 h2 => ?_, _, _, _, rfl⟩
      rw [List.length_append, List.length_singleton] at hi
      by_cases hi2 : i = pre.length
      · rw [hi2, hcl] at h2; cases h2; exact hf
      · exact hp i (by omega) cl2 h2
  · rintro ρ ⟨hp, s3, s4, s5, rfl⟩
    have e : clauseOf R h c = none := by
      unfold clauseOf
      rw [List.findIdx?_eq_none_iff]
      intro x hx
      obtain ⟨i, hi, rfl⟩ := List.getElem_of_mem hx
      exact hp i (by rw [enumD_length, List.length_map]; exact hi) _ (by simp [hi])
    rw [e] at q
    exact q
end DL

namespace DL
open PySem PySem.Spec L2
theorem deed_of (R : List Cl) (h : Str) (c : Cp) : (clauseOf R h c = none ∧ deedOf R h c = ("leave" : Str)) ∨ ∃ i cl, clauseOf R h c = some i ∧ R[i]? = some cl ∧ deedOf R h c = cl.2 := by
  unfold clauseOf deedOf
  induction R with
  | nil => exact .inl ⟨rfl, rfl⟩
  | cons x R ih =>
    rw [List.findIdx?_cons, List.find?_cons]
    cases hx : clHolds h c x with
    | true => exact .inr ⟨0, x, rfl, rfl, rfl⟩
    | false =>
      simp only [Bool.false_eq_true, if_false]
      rcases ih with ⟨e1, e2⟩ | ⟨i, cl, e1, e2, e3⟩
      · exact .inl ⟨by rw [e1]; rfl, e2⟩
      · exact .inr ⟨i + 1, cl, by rw [e1]; rfl, by simpa using e2, e3⟩
theorem deed_mem {R : List Cl} (ok : okRu R = true) (h : Str) (c : Cp) : deedOf R h c ∈ deedsL := by
  rcases deed_of R h c with ⟨_, e⟩ | ⟨i, cl, _, e2, e3⟩
  · rw [e]; decide +kernel
  · rw [e3]; exact (clOk ((ruOk ok).2 cl (List.mem_of_getElem? e2))).d
theorem deeds_cases {d : Str} (h : d ∈ deedsL) : d = ("house" : Str) ∨ d = ("leave" : Str) ∨ d = ("own" : Str) ∨ (d ∈ marksL ∧ d ≠ ("house" : Str) ∧ d ≠ ("leave" : Str) ∧ d ≠ ("own" : Str)) := by
  revert d
  decide +kernel
theorem met_ok {R : List Cl} (ok : okRu R = true) {h : Str} {c : Cp} (hh : inL h marksL = true) (hc : okCp c = true) : inL (metS R h c).1 marksL = true ∧ okCp (metS R h c).2 = true := by
  unfold metS
  rcases deeds_cases (deed_mem ok h c) with e | e | e | ⟨m, n1, n2, n3⟩
  · have n : ¬ (Str.ofString "house" = Str.ofString "leave") := by decide +kernel
    simp only [e, if_neg n, if_true]
    exact ⟨hh, hh⟩
  · simp only [e, if_true]
    exact ⟨hh, hc⟩
  · have n : ¬ (Str.ofString "own" = Str.ofString "leave") := by decide +kernel
    have n2 : ¬ (Str.ofString "own" = Str.ofString "house") := by decide +kernel
    simp only [e, if_neg n, if_neg n2, if_true]
    exact ⟨hc, hc⟩
  · simp only [if_neg n1, if_neg n2, if_neg n3]
    have : inL (deedOf R h c) marksL = true := decide_eq_true m
    exact ⟨this, this⟩
theorem sh_deed {d : Str} (h : d ∈ deedsL) : SeqAt.shaped (.str d) = true := shaped_str (deeds_facts d h).2.1
theorem vc_met : ∀ ds Q Y, c_met ds Q Y → ds.length = ["rule", "house", "copy"].length ∧ W_met (startD N_met ds) (fun _ => Q .none) Q Y := by
  rintro ds Q Y ⟨R, h, c, rfl, okR, hh, hc, q⟩
  refine ⟨rfl, ?_⟩
  unfold W_met
  have mem := deed_mem okR h c
  -- behind the deed
  have rest : ∀ (s3 : SV) (d : Str), d = deedOf R h c → (wSeq (wIfS (wT (w2 fEq (wVar 4) (wC (.str "leave")))) (wRet (wTup (wCons (wVar 1) (wCons (wVar 2) wNil)))) wNx)
      (wSeq (wSet 5 (wIf (wT (w2 fEq (wVar 4) (wC (.str "house")))) (wVar 1) (wIf (wT (w2 fEq (wVar 4) (wC (.str "own")))) (w2 fIx (wVar 2) (wC (.int 0))) (wVar 4))))
      (wRet (wTup (wCons (wVar 5) (wCons (wTup (wCons (wVar 5) (wCons (wC (.bool false)) (wCons (wC (.bool true)) (wCons (w2 fIx (wVar 2) (wC (.int 3))) wNil))))) wNil))))))
      [.d (ruD R), .d (.str h), .d (cpD c), s3, .d (.str d), .un] (fun _ => Q .none) Q Y := by
    intro s3 d hd
    have sd : SeqAt.shaped (.str d) = true := by rw [hd]; exact sh_deed mem
    have s1 : SeqAt.shaped (.str (Str.ofString "leave")) = true := by decide +kernel
    have s2 : SeqAt.shaped (.str (Str.ofString "house")) = true := by decide +kernel
    have s3 : SeqAt.shaped (.str (Str.ofString "own")) = true := by decide +kernel
    unfold metS at q
    rw [← hd] at q
    have e0 : cpD c = .tuple [.str c.1, .bool c.2.1, .bool c.2.2.1, .bool c.2.2.2] := rfl
    simp [sd, s1, s2, s3, eqv_ss, line24]
    by_cases h1 : d = Str.ofString "leave"
    · simp only [h1, if_true] at q ⊢
      exact q
    · simp only [h1, if_false] at q ⊢
      by_cases h2 : d = Str.ofString "house"
      · simp only [h2, if_true] at q ⊢
        rw [e0]
        simpa [atI, ixN, cpD] using q
      · simp only [h2, if_false] at q ⊢
        by_cases h3 : d = Str.ofString "own"
        · simp only [h3, if_true] at q ⊢
          rw [e0]
          simpa [atI, ixN, cpD] using q
        · simp only [h3, if_false] at q ⊢
          rw [e0]
          simpa [atI, ixN, cpD] using q
  rcases deed_of R h c with ⟨e1, e2⟩ | ⟨i, cl, e1, e2, e3⟩
  · refine ⟨R, h, c, rfl, okR, hh, hc, ?_⟩
    rw [e1]
    refine ⟨true, rfl, ?_⟩
    show (if true = true then _ else _ : Prop)
    rw [if_pos rfl]
    exact rest (.d .none) _ e2.symm
  · refine ⟨R, h, c, rfl, okR, hh, hc, ?_⟩
    rw [e1]
    have hx : atI (R.map clD) (i : Int) = some (clD cl) := atI_nat (by rw [List.getElem?_map, e2]; rfl)
    refine ⟨false, rfl, ?_⟩
    show (if false = true then _ else _ : Prop)
    rw [if_neg Bool.false_ne_true]
    exact ⟨clD cl, hx, .str cl.2, rfl, rest (.d (.int (i : Int))) _ e3.symm⟩
end DL

namespace DL
open PySem PySem.Spec L2
theorem ev_cases {e : Str} (h : inL e eventsL = true) : e = "buy" ∨ e = "clear" ∨ e = "home" ∨ e = "meet" ∨ e = "put" ∨ e = "strike" ∨ e = "want" := by
  have := of_decide_eq_true h
  unfold eventsL at this
  simpa only [List.mem_cons, List.not_mem_nil, or_false] using this
theorem ev_sh {e : Str} (h : inL e eventsL = true) : SeqAt.shaped (.str e) = true := by
  have : ∀ z ∈ eventsL, PyData.strOk z = true := by decide +kernel
  exact shaped_str (this e (of_decide_eq_true h))
theorem vc_acted : ∀ ds Q Y, c_acted ds Q Y → ds.length = ["rule", "lead", "copy", "event"].length ∧ W_acted (startD N_acted ds) (fun _ => Q .none) Q Y := by
  rintro ds Q Y ⟨R, ⟨h, n, t⟩, ⟨m, c, f, b⟩, e, rfl, okR, hl, hc, he, q⟩
  refine ⟨rfl, ?_⟩
  unfold W_acted
  have se := ev_sh he
  have sm := shaped_str (marks_ok (show inL m marksL = true from hc)).1
  have L1 : SeqAt.shaped (.str (Str.ofString "meet")) = true := by decide +kernel
  have L2 : SeqAt.shaped (.str (Str.ofString "want")) = true := by decide +kernel
  have L3 : SeqAt.shaped (.str (Str.ofString "strike")) = true := by decide +kernel
  have L4 : SeqAt.shaped (.str (Str.ofString "clear")) = true := by decide +kernel
  have L5 : SeqAt.shaped (.str (Str.ofString "buy")) = true := by decide +kernel
  have L6 : SeqAt.shaped (.str (Str.ofString "put")) = true := by decide +kernel
  have L7 : SeqAt.shaped (.str (Str.ofString "open")) = true := by decide +kernel
  have L8 : SeqAt.shaped (.str (Str.ofString "ticked")) = true := by decide +kernel
  have e0 : cpD (m, c, f, b) = .tuple [.str m, .bool c, .bool f, .bool b] := rfl
  have e1 : ldD (h, n, t) = .tuple [.str h, .bool n, .bool t] := rfl
  rw [e0, e1]
  simp [se, sm, L1, L2, L3, L4, L5, L6, L7, L8, eqv_ss, line24]
  unfold actS optD at q
  by_cases h1 : e = Str.ofString "meet"
  · rw [if_pos h1] at q ⊢
    exact ⟨R, (h, n, t), (m, c, f, b), rfl, okR, hl, hc, q⟩
  rw [if_neg h1] at q ⊢
  by_cases h2 : e = Str.ofString "want"
  · rw [if_pos h2] at q ⊢
    exact q
  rw [if_neg h2] at q ⊢
  by_cases h3 : e = Str.ofString "strike"
  · rw [if_pos h3] at q ⊢
    by_cases k : m = Str.ofString "open"
    · rw [if_pos k] at q ⊢
      exact q
    · rw [if_neg k] at q ⊢
      exact q
  rw [if_neg h3] at q ⊢
  by_cases h4 : e = Str.ofString "clear"
  · rw [if_pos h4] at q ⊢
    by_cases k : m = Str.ofString "ticked"
    · rw [if_pos k] at q ⊢
      exact q
    · rw [if_neg k] at q ⊢
      exact q
  rw [if_neg h4] at q ⊢
  by_cases h5 : e = Str.ofString "buy"
  · rw [if_pos h5] at q ⊢
    by_cases k : m = Str.ofString "open"
    · cases b with
      | true =>
        rw [if_neg (by simp)] at q
        simpa [k] using q
      | false =>
        rw [if_pos ⟨k, rfl⟩] at q
        subst k
        simp
        exact ⟨(h, n, t), (_, c, f, false), rfl, q⟩
    · rw [if_neg (fun z => k z.1)] at q
      simpa [k] using q
  rw [if_neg h5] at q ⊢
  cases b with
  | false => simpa using q
  | true =>
    rw [if_neg (by simp)] at q
    by_cases h6 : e = Str.ofString "put"
    · rw [if_pos h6] at q
      simp [h6]
      exact q
    · rw [if_neg h6] at q
      simp [h6]
      exact q
end DL

namespace DL
open PySem PySem.Spec L2
/-- the slots of met_so behind harms, both = .. -/
abbrev rMet (R : List Cl) (h : Str) (n t : Bool) (m : Str) (c f b : Bool) (mk nm : Str) (nc nf nb : Bool) (hs : List Str) : DE :=
  [.d (ruD R), .d (.tuple [.str h, .bool n, .bool t]), .d (.tuple [.str m, .bool c, .bool f, .bool b]), .d (.str h), .d (.bool n), .d (.bool t), .d (.str mk), .d (.tuple [.str nm, .bool nc, .bool nf, .bool nb]), .ml (strsD hs), .d (.tuple [.tuple [.str h, .str mk], .tuple [.str m, .str nm]]), .un]
section
variable {R : List Cl} {h m mk nm : Str} {n t c f b nc nf nb : Bool} {hs : List Str} {K : Bool → Prop} {Y : EC}
theorem met_t1 (k : K (n && (!t && ((decide (h = ("open" : Str)) || decide (m = ("open" : Str))) && (!decide (mk = ("open" : Str)) && !decide (nm = ("open" : Str))))))) :
    (wAnd (wT (wVar 4)) (wAnd (wNot (wT (wVar 5))) (wAnd (wT (w2 (fIn false) (wC (.str "open")) (wTup (wCons (wVar 3) (wCons (w2 fIx (wVar 2) (wC (.int 0))) wNil))))) (wT (w2 (fIn true) (wC (.str "open")) (wTup (wCons (wVar 6) (wCons (w2 fIx (wVar 7) (wC (.int 0))) wNil))))))))
      (rMet R h n t m c f b mk nm nc nf nb hs) K Y := by
  cases n with
  | false => simpa using k
  | true => cases t with
    | true => simpa using k
    | false =>
      by_cases h1 : h = Str.ofString "open" <;> by_cases h2 : m = Str.ofString "open" <;> by_cases h3 : mk = Str.ofString "open" <;> by_cases h4 : nm = Str.ofString "open" <;> simp [h1, h2, h3, h4] at k <;> simp [atI, ixN, line24, eqv_ss, h1, h2, h3, h4, k]
theorem eqv_pair (a b c d : Str) : PyData.eqv (.tuple [.str a, .str b]) (.tuple [.str c, .str d]) = (decide (a = c) && decide (b = d)) := by
  simp only [PyData.eqv, PyData.eqvAll, Bool.and_true]
  rw [beqD, beqD]
theorem sh_pair {a b : Str} (ha : PyData.strOk a = true) (hb : PyData.strOk b = true) : goodD (.tuple [.str a, .str b]) = true ∨ True := .inr trivial
theorem met_t2 (sh : SeqAt.shaped (.tuple [.tuple [.str h, .str mk], .tuple [.str m, .str nm]]) = true) (k : K (n && (t && ((decide (h = ("ticked" : Str)) && decide (mk = ("open" : Str))) || (decide (m = ("ticked" : Str)) && decide (nm = ("open" : Str))))))) :
    (wAnd (wT (wVar 4)) (wAnd (wT (wVar 5)) (wT (w2 fInT (wTup (wCons (wC (.str "ticked")) (wCons (wC (.str "open")) wNil))) (wVar 9)))))
      (rMet R h n t m c f b mk nm nc nf nb hs) K Y := by
  have s0 : SeqAt.shaped (.tuple [.str (Str.ofString "ticked"), .str (Str.ofString "open")]) = true := by decide +kernel
  cases n with
  | false => simpa using k
  | true => cases t with
    | false => simpa using k
    | true =>
      simp [line24, fInT, s0, sh, eqv_pair]
      simpa using k
def pairP : PyData → Bool
  | .tuple [.str a, .str b] => !decide (a = ("open" : Str)) && decide (b = ("open" : Str))
  | _ => false
theorem met_t3 (sp : ∀ z : Str, z = h ∨ z = m ∨ z = mk ∨ z = nm → okS z = true) (k : K (!n && ((!decide (h = ("open" : Str)) && decide (mk = ("open" : Str))) || (!decide (m = ("open" : Str)) && decide (nm = ("open" : Str)))))) :
    (wAnd (wNot (wT (wVar 4))) (wT (w2 fNe (wOfF (wLc (.one 10) (wAnd (wT (w2 fNe (w2 fIx (wVar 10) (wC (.int 0))) (wC (.str "open")))) (wT (w2 fEq (w2 fIx (wVar 10) (wC (.int 1))) (wC (.str "open"))))) (wVar 10) [10] (wItT (wVar 9)))) (wLst wNil))))
      (rMet R h n t m c f b mk nm nc nf nb hs) K Y := by
  have so : SeqAt.shaped (.str (Str.ofString "open")) = true := by decide +kernel
  have g : ∀ a b : Str, okS a = true → okS b = true → goodD (.tuple [.str a, .str b]) = true := fun a b ha hb => goodD_of (by simp [okD, okDs, ha, hb]) (by simp [PyData.depth, PyData.depthAll])
  have o1 := sp h (by simp)
  have o2 := sp m (by simp)
  have o3 := sp mk (by simp)
  have o4 := sp nm (by simp)
  cases n with
  | true => simpa using k
  | false =>
    refine ⟨false, rfl, ?_⟩
    refine ⟨[.tuple [.str h, .str mk], .tuple [.str m, .str nm]], rfl, ?_⟩
    refine compW_fm pairP (fun d => d) (fun d hd Q Y q => ?_) (fun d hd _ Q Y q => q) (by rw [line24]; simp) ?_
    · have hab : ∃ a b : Str, d = .tuple [.str a, .str b] ∧ okS a = true ∧ okS b = true := by
        simp only [List.mem_cons, List.not_mem_nil, or_false] at hd
        rcases hd with rfl | rfl
        · exact ⟨_, _, rfl, o1, o3⟩
        · exact ⟨_, _, rfl, o2, o4⟩
      obtain ⟨a, b, rfl, oa, ob⟩ := hab
      have sa := shaped_str (okS_ok oa)
      have sb := shaped_str (okS_ok ob)
      simp [atI, ixN, sa, sb, so, eqv_ss]
      unfold pairP at q
      by_cases ha : a = Str.ofString "open" <;> by_cases hb : b = Str.ofString "open" <;> simp [ha, hb] at q <;> simp [ha, hb, q]
    · rw [List.nil_append, List.map_id']
      refine ⟨by rw [line24]; decide, shaped_items fun x hx => ?_, shaped_lnil, _, rfl, ?_⟩
      · have := (List.mem_filter.mp hx).1
        simp only [List.mem_cons, List.not_mem_nil, or_false] at this
        rcases this with rfl | rfl
        · exact g _ _ o1 o3
        · exact g _ _ o2 o4
      · rw [eqv_lnil]
        have e : (!(([.tuple [.str h, .str mk], .tuple [.str m, .str nm]] : List PyData).filter pairP).isEmpty) = (!false && ((!decide (h = ("open" : Str)) && decide (mk = ("open" : Str))) || (!decide (m = ("open" : Str)) && decide (nm = ("open" : Str))))) := by
          have p1 : pairP (.tuple [.str h, .str mk]) = (!decide (h = ("open" : Str)) && decide (mk = ("open" : Str))) := rfl
          have p2 : pairP (.tuple [.str m, .str nm]) = (!decide (m = ("open" : Str)) && decide (nm = ("open" : Str))) := rfl
          rw [← p1, ← p2]
          cases h1 : pairP (.tuple [.str h, .str mk]) <;> cases h2 : pairP (.tuple [.str m, .str nm]) <;> simp [h1, h2]
        rw [e]
        exact k
theorem met_if {T : DT} {z : Str} {cnd : Bool} (hT : ∀ (K : Bool → Prop) (Y : EC), K cnd → T (rMet R h n t m c f b mk nm nc nf nb hs) K Y) (hl : hs.length < 1000) {N : DE → Prop} {Rr : PyData → Prop}
    (q : N (rMet R h n t m c f b mk nm nc nf nb (hs ++ if cnd then [z] else []))) : wIfS T (wAppS 8 (wC (.str z))) wNx (rMet R h n t m c f b mk nm nc nf nb hs) N Rr Y := by
  refine hT _ _ ?_
  cases cnd with
  | true =>
    refine ⟨_, rfl, _, rfl, ?_, ?_⟩
    · unfold strsD; rw [List.length_map, line24]; omega
    · have e : strsD (hs ++ if true then [z] else []) = strsD hs ++ [.str z] := by rw [strsD_app]; rfl
      rw [if_pos rfl] at q
      have e2 : strsD (hs ++ [z]) = strsD hs ++ [.str z] := by rw [strsD_app]; rfl
      unfold rMet at q
      rw [e2] at q
      exact q
  | false =>
    rw [if_neg Bool.false_ne_true, List.append_nil] at q
    exact q
end
theorem marks_okS {h : Str} (e : inL h marksL = true) : okS h = true := okS_of (marks_ok e).1 (by have := (marks_ok e).2; omega)
theorem vc_met_so : ∀ ds Q Y, c_met_so ds Q Y → ds.length = ["rule", "lead", "copy"].length ∧ W_met_so (startD N_met_so ds) (fun _ => Q .none) Q Y := by
  rintro ds Q Y ⟨R, ⟨h, n, t⟩, ⟨m, c, f, b⟩, rfl, okR, hl, hc, q⟩
  refine ⟨rfl, ?_⟩
  unfold W_met_so
  have kh : inL h marksL = true := hl
  have km : inL m marksL = true := hc
  obtain ⟨k1, k2⟩ := met_ok okR kh hc
  unfold resD metR at q
  generalize hM : metS R h (m, c, f, b) = M at q k1 k2
  obtain ⟨mk, ⟨nm, nc, nf, nb⟩⟩ := M
  have kn : inL nm marksL = true := k2
  have sp : ∀ z : Str, z = h ∨ z = m ∨ z = mk ∨ z = nm → okS z = true := fun z hz => by
    rcases hz with rfl | rfl | rfl | rfl
    · exact marks_okS kh
    · exact marks_okS km
    · exact marks_okS k1
    · exact marks_okS kn
  have shB : SeqAt.shaped (.tuple [.tuple [.str h, .str mk], .tuple [.str m, .str nm]]) = true := good_shaped (goodD_of (by simp [okD, okDs, sp h, sp m, sp mk, sp nm]) (by simp [PyData.depth, PyData.depthAll]))
  refine ⟨rfl, ?_⟩
  refine ⟨R, h, (m, c, f, b), rfl, okR, kh, hc, ?_⟩
  rw [hM]
  refine ⟨rfl, ?_⟩
  refine ⟨by rw [line24]; decide, ?_⟩
  have go : (wSeq (wIfS (wAnd (wT (wVar 4)) (wAnd (wNot (wT (wVar 5))) (wAnd (wT (w2 (fIn false) (wC (.str "open")) (wTup (wCons (wVar 3) (wCons (w2 fIx (wVar 2) (wC (.int 0))) wNil))))) (wT (w2 (fIn true) (wC (.str "open")) (wTup (wCons (wVar 6) (wCons (w2 fIx (wVar 7) (wC (.int 0))) wNil)))))))) (wAppS 8 (wC (.str "lost"))) wNx)
  (wSeq (wIfS (wAnd (wT (wVar 4)) (wAnd (wT (wVar 5)) (wT (w2 fInT (wTup (wCons (wC (.str "ticked")) (wCons (wC (.str "open")) wNil))) (wVar 9))))) (wAppS 8 (wC (.str "reopened"))) wNx)
  (wSeq (wIfS (wAnd (wNot (wT (wVar 4))) (wT (w2 fNe (wOfF (wLc (.one 10) (wAnd (wT (w2 fNe (w2 fIx (wVar 10) (wC (.int 0))) (wC (.str "open")))) (wT (w2 fEq (w2 fIx (wVar 10) (wC (.int 1))) (wC (.str "open"))))) (wVar 10) [10] (wItT (wVar 9)))) (wLst wNil)))) (wAppS 8 (wC (.str "risen"))) wNx)
  (wFrz 8 (wRet (wTup (wCons (wTup (wCons (wVar 6) (wCons (wVar 4) (wCons (wVar 5) wNil)))) (wCons (wVar 7) (wCons (wVar 8) wNil)))))))))
      (rMet R h n t m c f b mk nm nc nf nb []) (fun _ => Q .none) Q Y := by
    refine met_if (fun K Y k => met_t1 k) (by simp) ?_
    refine met_if (fun K Y k => met_t2 shB k) (by split <;> simp) ?_
    refine met_if (fun K Y k => met_t3 sp k) (by split <;> split <;> simp) ?_
    refine ⟨_, rfl, ?_⟩
    refine ⟨by rw [line24]; show 3 ≤ 16777216; decide, by rw [line24]; show 3 ≤ 16777216; decide, ?_⟩
    have eh : harmsMet (h, n, t) m mk nm = (([] ++ if (n && (!t && ((decide (h = ("open" : Str)) || decide (m = ("open" : Str))) && (!decide (mk = ("open" : Str)) && !decide (nm = ("open" : Str)))))) = true then [("lost" : Str)] else []) ++ if (n && (t && ((decide (h = ("ticked" : Str)) && decide (mk = ("open" : Str))) || (decide (m = ("ticked" : Str)) && decide (nm = ("open" : Str)))))) = true then [("reopened" : Str)] else []) ++ if (!n && ((!decide (h = ("open" : Str)) && decide (mk = ("open" : Str))) || (!decide (m = ("open" : Str)) && decide (nm = ("open" : Str))))) = true then [("risen" : Str)] else [] := by
      unfold harmsMet
      simp only [List.nil_append, List.append_assoc, Bool.and_eq_true, Bool.or_eq_true, Bool.not_eq_true', decide_eq_true_eq, decide_eq_false_iff_not]
    rw [← eh]
    exact q
  have two : 2 ≤ sizeLine := line2
  refine ⟨two, ?_⟩
  refine ⟨.str m, rfl, .str nm, rfl, ?_⟩
  refine ⟨two, two, ?_⟩
  exact go
end DL

namespace DL
open PySem PySem.Spec L2
theorem act_ok {R : List Cl} {l : Ld} {c : Cp} {e : Str} {r : Res} (okR : okRu R = true) (ol : okLd l = true) (oc : okCp c = true) (h : actS R l c e = some r) : okLd r.1 = true ∧ okCp r.2.1 = true := by
  have m1 : inL (Str.ofString "none") marksL = true := by decide +kernel
  have m2 : inL (Str.ofString "open") marksL = true := by decide +kernel
  have m3 : inL (Str.ofString "ticked") marksL = true := by decide +kernel
  unfold actS at h
  split at h
  · cases h
    exact met_ok okR ol oc
  split at h
  · cases h; exact ⟨ol, m2⟩
  split at h
  · split at h
    · cases h; exact ⟨ol, m1⟩
    · cases h
  split at h
  · split at h
    · cases h; exact ⟨ol, m1⟩
    · cases h
  split at h
  · split at h
    · cases h; exact ⟨ol, m3⟩
    · cases h
  split at h
  · cases h
  split at h
  · cases h; exact ⟨ol, m2⟩
  · cases h; exact ⟨ol, oc⟩
theorem vc_behind : ∀ ds Q Y, c_behind ds Q Y → ds.length = ["rule", "stand", "event"].length ∧ W_behind (startD N_behind ds) (fun _ => Q .none) Q Y := by
  rintro ds Q Y ⟨R, ⟨⟨h, n, t⟩, cs⟩, p, e, rfl, okR, okS', he, q⟩
  refine ⟨rfl, ?_⟩
  unfold okSd at okS'
  rw [Bool.and_eq_true, Bool.and_eq_true, decide_eq_true_eq, List.all_eq_true] at okS'
  obtain ⟨⟨ol, oc⟩, lc⟩ := okS'
  unfold W_behind
  have e1 : sdD ((h, n, t), cs) = .tuple [.str h, .bool n, .bool t, .tuple (cs.map cpD)] := rfl
  have e2 : evD ((p : Int), e) = .tuple [.int p, .str e] := rfl
  have sh := shaped_str (marks_ok (show inL h marksL = true from ol)).1
  rw [e1, e2]
  -- behind the copy
  have rest : ∀ c : Cp, okCp c = true → (p ≤ cs.length → cs.getD p cp0 = c) → p ≤ cs.length → (wSeq (wSet 7 (wFn c_acted (wCons (wVar 0) (wCons (wSl (wVar 1) wNo (wPart (wC (.int 3)))) (wCons (wVar 6) (wCons (wVar 4) wNil))))))
  (wSeq (wIfS (wT (wIsN false (wVar 7))) (wRet (wC .none)) wNx)
  (wSeq (wSetT (.tup [8, 9, 10]) (wVar 7))
  (wSeq (wSet 11 (wIf (wT (w2 fEq (w2 fIx (wVar 8) (wC (.int 0))) (w2 fIx (wVar 1) (wC (.int 0))))) (wVar 5) (wCall fTuple (wCons (wOfF (wLc (.one 12) wYes (wFn c_stale (wCons (wVar 12) wNil)) [12] (wItT (wVar 5)))) wNil))))
  (wRet (wTup (wCons (w2 fAdd (wVar 8) (wTup (wCons (w2 fAdd (w2 fAdd (wSl (wVar 11) wNo (wPart (wVar 3))) (wTup (wCons (wVar 9) wNil))) (wSl (wVar 11) (wPart (w2 fAdd (wVar 3) (wC (.int 1)))) wNo)) wNil))) (wCons (wVar 10) wNil))))))))
      [.d (ruD R), .d (.tuple [.str h, .bool n, .bool t, .tuple (cs.map cpD)]), .d (.tuple [.int p, .str e]), .d (.int p), .d (.str e), .d (.tuple (cs.map cpD)), .d (cpD c), .un, .un, .un, .un, .un, .un] (fun _ => Q .none) Q Y := by
    intro c okc hcs hp
    refine ⟨3, rfl, R, (h, n, t), c, e, rfl, okR, ol, okc, he, ?_⟩
    unfold nextS at q
    rw [if_neg (by show ¬ cs.length < p; omega)] at q
    have hc2 := hcs hp
    simp only [hc2] at q
    cases ha : actS R (h, n, t) c e with
    | none =>
      simp only [ha] at q
      exact ⟨true, rfl, q⟩
    | some r =>
      obtain ⟨⟨h2, n2, t2⟩, c2, hs⟩ := r
      simp only [ha] at q
      refine ⟨false, rfl, ?_⟩
      refine ⟨rfl, ?_⟩
      obtain ⟨o1, o2⟩ := act_ok okR ol okc ha
      have sh2 := shaped_str (marks_ok (show inL h2 marksL = true from o1)).1
      have fin : ∀ (ρ10 : SV) (others : List Cp), others.length ≤ 100 → Q (nextD (some (((h2, n2, t2), others.take p ++ [c2] ++ others.drop (p + 1)), hs))) →
          wRet (wTup (wCons (w2 fAdd (wVar 8) (wTup (wCons (w2 fAdd (w2 fAdd (wSl (wVar 11) wNo (wPart (wVar 3))) (wTup (wCons (wVar 9) wNil))) (wSl (wVar 11) (wPart (w2 fAdd (wVar 3) (wC (.int 1)))) wNo)) wNil))) (wCons (wVar 10) wNil)))
            [.d (ruD R), .d (.tuple [.str h, .bool n, .bool t, .tuple (cs.map cpD)]), .d (.tuple [.int p, .str e]), .d (.int p), .d (.str e), .d (.tuple (cs.map cpD)), .d (cpD c), ρ10, .d (ldD (h2, n2, t2)), .d (cpD c2), .d (.list (strsD hs)), .d (.tuple (others.map cpD)), .un] (fun _ => Q .none) Q Y := by
        intro ρ10 others lo qo
        have l1 := cutG_len others none (some (p : Int))
        have l2 := cutG_len others (some ((p : Int) + 1)) none
        have c1 : cutG others none (some (p : Int)) = others.take p := by
          unfold cutG
          rw [HT.sIx_none, HT.sIx_nat, List.drop_zero, Nat.sub_zero]
          by_cases hpo : p ≤ others.length
          · rw [Nat.min_eq_left hpo]
          · rw [Nat.min_eq_right (by omega), List.take_of_length_le (Nat.le_refl _), List.take_of_length_le (by omega)]
        have c3 : cutG others (some ((p : Int) + 1)) none = others.drop (p + 1) := by
          unfold cutG
          rw [HT.sIx_none, show ((p : Int) + 1) = ((p + 1 : Nat) : Int) from rfl, HT.sIx_nat]
          by_cases hpo : p + 1 ≤ others.length
          · rw [Nat.min_eq_left hpo, List.take_of_length_le (by rw [List.length_drop]; omega)]
          · rw [Nat.min_eq_right (by omega), List.drop_of_length_le (Nat.le_refl _), List.drop_of_length_le (by omega)]
            simp
        rw [c1] at l1
        rw [c3] at l2
        simp [cutD_map, c1, c3, line24]
        refine ⟨by omega, by omega, ?_⟩
        have em : (others.take p ++ [c2] ++ others.drop (p + 1)).map cpD = List.take p (others.map cpD) ++ cpD c2 :: List.drop (p + 1) (others.map cpD) := by simp
        refine ⟨by rw [line24]; show 4 ≤ 16777216; decide, ?_⟩
        unfold nextD sdD at qo
        simp only [em] at qo
        exact qo
      refine ⟨.str h2, rfl, .str h, rfl, sh2, sh, _, rfl, ?_⟩
      rw [eqv_ss]
      by_cases hh : h2 = h
      · show (if decide (h2 = h) = true then _ else _ : Prop)
        rw [if_pos (decide_eq_true hh)]
        rw [if_pos hh] at q
        exact fin _ cs lc q
      · show (if decide (h2 = h) = true then _ else _ : Prop)
        rw [if_neg (by simpa using hh)]
        rw [if_neg hh] at q
        refine ⟨_, rfl, ?_⟩
        refine compW_fm (fun _ => true) (fun d => match d with | .tuple [.str m, .bool c, .bool _, .bool b] => .tuple [.str m, .bool c, .bool false, .bool b] | _ => .none) (fun d hd Q Y q => q) (fun d hd _ Q Y q => ?_) (by rw [line24, List.length_map]; simp; have : cs.length ≤ 100 := lc; omega) ?_
        · obtain ⟨c5, hc5, rfl⟩ := List.mem_map.mp hd
          exact ⟨c5, rfl, q⟩
        · have em : ([] : List PyData) ++ ((cs.map cpD).filter fun _ => true).map (fun d => match d with | .tuple [.str m, .bool c, .bool _, .bool b] => .tuple [.str m, .bool c, .bool false, .bool b] | _ => .none) = (cs.map staleS).map cpD := by
            rw [List.nil_append, List.filter_eq_self.mpr (fun _ _ => rfl), List.map_map, List.map_map]
            rfl
          rw [em]
          exact fin _ (cs.map staleS) (by rw [List.length_map]; exact lc) q
  refine ⟨rfl, ?_⟩
  refine ⟨.tuple (cs.map cpD), rfl, ?_⟩
  refine ⟨trivial, _, rfl, ?_⟩
  rw [List.length_map]
  by_cases hp : cs.length < p
  · show (if decide ((cs.length : Int) < (p : Int)) = true then _ else _ : Prop)
    rw [if_pos (decide_eq_true (by omega))]
    unfold nextS at q
    rw [if_pos hp] at q
    exact q
  · show (if decide ((cs.length : Int) < (p : Int)) = true then _ else _ : Prop)
    rw [if_neg (by simp; omega)]
    refine ⟨trivial, _, rfl, ?_⟩
    rw [List.length_map]
    by_cases hp2 : p < cs.length
    · show (if decide ((p : Int) < (cs.length : Int)) = true then _ else _ : Prop)
      rw [if_pos (decide_eq_true (by omega))]
      have hx : atI (cs.map cpD) (p : Int) = some (cpD cs[p]) := atI_nat (by simp [hp2])
      refine ⟨cpD cs[p], hx, ?_⟩
      exact rest cs[p] (oc _ (List.getElem_mem hp2)) (fun _ => by rw [List.getD_eq_getElem?_getD, List.getElem?_eq_getElem hp2]; rfl) (by omega)
    · show (if decide ((p : Int) < (cs.length : Int)) = true then _ else _ : Prop)
      rw [if_neg (by simp; omega)]
      exact rest cp0 (by decide +kernel) (fun _ => by rw [List.getD_eq_getElem?_getD, List.getElem?_eq_none (by omega)]; rfl) (by omega)
end DL

namespace DL
open PySem PySem.Spec L2
section
variable {Z : DC → Prop} {X : Cx} {E : XK} {a b c : Expr} {wa wb wc : DW} {pos : Pos}
/-- a op b op' c, ints -/
@[simp] def wChain (p p' : Int → Int → Bool) (wa wb wc : DW) : DW := fun ρ Q Y => wa ρ (fun x => wb ρ (fun y => ∃ i j, x = .int i ∧ y = .int j ∧ if p i j = true then wc ρ (fun z => ∃ k, z = .int k ∧ Q (.bool (p' j k))) Y else Q (.bool false)) Y) Y
theorem pd_chain {op op' : CmpOp} {p p' : Int → Int → Bool} (ho : OpR X (compareOp op) (rI0 fun i j => .bl (p i j))) (ho' : OpR X (compareOp op') (rI0 fun i j => .bl (p' i j))) (ha : PD Z X E a wa) (hb : PD Z X E b wb) (hc : PD Z X E c wc)
    (hm : lastMarks [op, op'] [b, c] = false := by with_unfolding_all rfl) : PD Z X E (.Compare a [op, op'] [b, c] pos) (wChain p p' wa wb wc) := by
  refine ⟨PEimp (pe_chain ho ho' ha.pe hb.pe hc.pe hm) fun σ H Q ⟨C, H0, G0, G, ρ, S, q⟩ => ?_, fun ρ Q Q' Y Y' k ky q => ha.mono _ _ _ _ _ (fun x q => hb.mono _ _ _ _ _ (fun y ⟨i, j, e1, e2, q⟩ => ⟨i, j, e1, e2, if_mono (hc.mono _ _ _ _ _ (fun z ⟨m, e, q⟩ => ⟨m, e, k _ q⟩) ky) (k _) q⟩) ky q) ky q⟩
  refine ⟨C, H0, G0, G, ρ, S, ha.mono _ _ _ _ _ (fun x q => ?_) idY q⟩
  intro v H1 G1 x1 j1 a1
  refine ⟨C, H0, G0, G1, ρ, S.step x1 j1, hb.mono _ _ _ _ _ (fun y q => ?_) (RX.step x1) q⟩
  intro u H2 G2 x2 j2 a2
  obtain ⟨i, j, rfl, rfl, q⟩ := q
  have S2 := (S.step x1 j1).step x2 j2
  cases a1
  cases a2
  refine ⟨i, j, rfl, rfl, p i j, rfl, ?_⟩
  cases hp : p i j with
  | false =>
    rw [hp, if_neg Bool.false_ne_true] at q
    simpa using (RQ.step (RQ.step q x1) x2).now x2.sub j2 (.bl false)
  | true =>
    rw [hp, if_pos rfl] at q
    rw [if_pos rfl]
    refine ⟨C, H0, G0, G2, ρ, S2, hc.mono _ _ _ _ _ (fun z q => ?_) (fun y q => RX.step x2 y (RX.step x1 y q)) q⟩
    obtain ⟨k, rfl, q⟩ := q
    intro s H3 G3 x3 j3 a3
    cases a3
    exact ⟨j, k, rfl, rfl, (RQ.step (RQ.step (RQ.step q x1) x2) x3).now x3.sub j3 (.bl _)⟩
end
end DL

namespace DL
open PySem PySem.Spec L2
def isEvent : PyData → Bool
  | .tuple [.int p, .str e] => decide (0 ≤ p) && (decide (p ≤ 40) && inL e eventsL)
  | _ => false
def c_is_event : FNC := fun ds Q _ => ∃ d, ds = [d] ∧ goodD d = true ∧ Q (.bool (isEvent d))
theorem mo_is_event : MoF c_is_event := fun ds Q Q' Y Y' k ky ⟨d, e, h, q⟩ => ⟨d, e, h, k _ q⟩
abbrev N_is_event : List Str := ["value"]
def W_is_event  : DWS := (wSeq (wIfS (wOr (wNot (wT (wIsi .tuple (wVar 0)))) (wOr (wT (w2 fNe (wCall fLen (wCons (wVar 0) wNil)) (wC (.int 2)))) (wOr (wNot (wT (wIsi .int (w2 fIx (wVar 0) (wC (.int 0)))))) (wT (wIsi .bool (w2 fIx (wVar 0) (wC (.int 0)))))))) (wRet (wC (.bool false))) wNx)
  (wRet (wAndV (wChain (fun i j => decide (i ≤ j)) (fun i j => decide (i ≤ j)) (wC (.int 0)) (w2 fIx (wVar 0) (wC (.int 0))) (wC (.int 40))) (wAndV (wIsi .str (w2 fIx (wVar 0) (wC (.int 1)))) (w2 (fIn false) (w2 fIx (wVar 0) (wC (.int 1))) (wC EVENTSd))))))
theorem vc_is_event : ∀ ds Q Y, c_is_event ds Q Y → ds.length = ["value"].length ∧ W_is_event (startD N_is_event ds) (fun _ => Q .none) Q Y := by
  rintro ds Q Y ⟨d, rfl, g, q⟩
  refine ⟨rfl, ?_⟩
  unfold W_is_event
  cases d with
  | tuple xs =>
    match xs, q with
    | [], q => simpa [isEvent, eqv_ii] using q
    | [a], q => simpa [isEvent, eqv_ii] using (show Q (.bool false) by cases a <;> exact q)
    | a :: b :: c :: r, q =>
      have n2 : ¬ ((r.length : Int) + 1 + 1 + 1 = 2) := by omega
      have q2 : Q (.bool false) := by cases a <;> cases b <;> exact q
      simpa [eqv_ii, n2] using q2
    | [a, b], q =>
      cases a with
      | int p =>
        simp [eqv_ii, atI, ixN]
        have hf : ∀ x : PyData, x ∈ strsD eventsL → flatD x = true := List.all_eq_true.mp (flat_strs eventsL)
        by_cases h0 : 0 ≤ p
        · rw [if_pos h0]
          by_cases h1 : p ≤ 40
          · rw [if_pos h1]
            cases b with
            | str e =>
              have q2 : Q (.bool (decide (0 ≤ p) && (decide (p ≤ 40) && inL e eventsL))) := q
              rw [decide_eq_true h0, decide_eq_true h1] at q2
              refine ⟨rfl, hf, ?_⟩
              rw [any_strs]
              exact q2
            | _ => exact q
          · rw [if_neg h1]
            cases b with
            | str e =>
              have q2 : Q (.bool (decide (0 ≤ p) && (decide (p ≤ 40) && inL e eventsL))) := q
              rw [decide_eq_false h1, Bool.false_and, Bool.and_false] at q2
              exact q2
            | _ => exact q
        · rw [if_neg h0]
          cases b with
          | str e =>
            have q2 : Q (.bool (decide (0 ≤ p) && (decide (p ≤ 40) && inL e eventsL))) := q
            rw [decide_eq_false h0, Bool.false_and] at q2
            exact q2
          | _ => exact q
      | _ => simpa [isEvent, eqv_ii, atI, ixN] using q
  | _ => simpa [isEvent] using q
end DL

namespace HOT
open PySem PySem.Spec PyProof.Rows L2 L2H HotX
/-! ### zip of two lists while an error is handled -/
section
variable {prog : Program} {w : World} {A : Around} {E : Value → Shared → Prop} {s : Shared}
theorem lend {it l x1 : Addr} {i : Nat} {xs : Array Value} {Q : Value → Shared → Prop} (hot : HotAt A x1 s.heap) (hne : x1 ≠ it) (hit : s.heap.IsListIter it l i) (hl : s.heap.IsList l xs) (hx : xs[i]? = none)
    (hE : ∀ h' e, Heap.ExtBut it s.heap h' → (∃ o, h'.get? e = some o ∧ o.cls = .type "StopIteration") → E (.ref e) { s with heap := h' }) : wpAny (model prog w) A (Builtin.SmallTypes.nextOf (.ref it)) Q E s := by
  obtain ⟨o, ho, hc, hd⟩ := id hit
  obtain ⟨ol, hol, _, nl, hdl⟩ := hl
  obtain ⟨hh, o1, vs1, h1, d1, c1⟩ := hot
  unfold Builtin.SmallTypes.nextOf
  refine wpAny_bind (wpAny_callSpecial?_slot (name := Str.ofString "__next__") hit.typeIs slot_listiter_next (wpAny_call_entry slot_listiter_next hit.typeIs entry_listiter_next ?_ (args_listiter_next _)))
  show wpAny _ _ (field (.ref it) 0 >>= _) _ _ s
  refine wpAny_bind (wpAny_field ho hd (x := .ref l) rfl ?_)
  show wpAny _ _ (if (Value.ref l == Value.none) = true then _ else _) _ _ s
  rw [if_neg (show ¬ ((Value.ref l == Value.none) = true) from Bool.false_ne_true)]
  show wpAny _ _ (field (.ref it) 1 >>= _) _ _ s
  refine wpAny_bind (wpAny_field ho hd (x := .int i 0) rfl ?_)
  show wpAny _ _ (seqItems? (.ref l) >>= _) _ _ s
  refine wpAny_bind (wpAny_seqItems hol hdl ?_)
  simp only [Int.toNat_natCast, hx]
  refine wpAny_bind (wpAny_rule (wpAny_bind (wpAny_setField ho hd (by simp) ?_)))
  show wpAny _ _ (newExc (.type "StopIteration") [] >>= _) _ _ _
  refine wpAny_bind ?_
  simp only [newExc, newTuple]
  refine wpAny_bind (wpAny_newObj_type ?_ (by size_fits))
  refine wpAny_bind (m := firstArgMember _ _) (wpAny_of_eq (a := Value.none) (by first | rfl | (simp only [firstArgMember]; rfl)) ?_)
  refine wpAny_newObj_type ?_ (by size_fits)
  have g1 : (s.heap.update it (Obj.mapFields (·.setIfInBounds 0 .none))).get? x1 = some o1 := by rw [Heap.get?_update_other _ _ (Ne.symm hne)]; exact h1
  refine raiseNew_hot ⟨hh, o1, vs1, Heap.get?_push_of_some _ (Heap.get?_push_of_some _ g1), d1, c1⟩ (Nat.ne_of_lt (Heap.lt_size (Heap.get?_push_of_some _ g1))) (Heap.get?_push_size _ rfl) rfl (by first | (simp; done) | (simp; omega) | (simp only [Array.size_append]; simp; omega)) ?_
  refine hE _ _ (fun b ob nb e => ?_) ⟨_, Heap.get?_update_self _ (Heap.get?_push_size _ rfl) rfl, rfl⟩
  have e1 : (s.heap.update it (Obj.mapFields (·.setIfInBounds 0 .none))).get? b = some ob := by rw [Heap.get?_update_other _ _ (Ne.symm nb)]; exact e
  rw [Heap.get?_update_other _ _ (Nat.ne_of_gt (Heap.lt_size (Heap.get?_push_of_some _ e1)))]
  exact Heap.get?_push_of_some _ (Heap.get?_push_of_some _ e1)
theorem zend {z TI TO i1 i2 l1 l2 x1 : Addr} {k1 k2 : Nat} {xs ys : Array Value} {a b : Value} {Q : Fin → Shared → Prop} (hot : HotAt A x1 s.heap) (n1 : x1 ≠ z) (n2 : x1 ≠ i1) (D : ZipApart z TI TO i1 i2 l1 l2)
    (hz : IsZip s.heap z TI TO .none) (hTI : IsPair s.heap TI (.ref i1) (.ref i2)) (hTO : IsPair s.heap TO a b) (h1 : s.heap.IsListIter i1 l1 k1) (hl1 : s.heap.IsList l1 xs) (hx : xs[k1]? = none)
    (hE : ∀ h' e, (∀ c o, c ≠ z → c ≠ TO → c ≠ i1 → c ≠ i2 → s.heap.get? c = some o → h'.get? c = some o) → (∃ o, h'.get? e = some o ∧ o.cls = .type "StopIteration") → E (.ref e) { s with heap := h' }) :
    wpAny (model prog w) A (Builtin.«zip.__next__» ⟨[.ref z], []⟩) Q E s := by
  show wpAny _ _ (field (.ref z) 2 >>= _) _ _ _
  refine wpAny_bind (wpAny_field hz rfl (x := .bool false) rfl ?_)
  show wpAny _ _ (field (.ref z) 3 >>= _) _ _ _
  refine wpAny_bind (wpAny_field hz rfl (x := .ref TI) rfl ?_)
  refine wpAny_bind (wpAny_seqItems hTI rfl ?_)
  show wpAny _ _ (Builtin.SmallTypes.ownedTupleIsFree (.ref z) >>= _) _ _ _
  refine wpAny_bind ?_
  unfold Builtin.SmallTypes.ownedTupleIsFree
  refine wpAny_bind (wpAny_field hz rfl (x := .none) rfl (wpAny_pure ?_))
  simp only [if_true]
  refine wpAny_bind (wpAny_rule ?_)
  refine wpAny_bind (wpAny_field hz rfl (x := .ref TO) rfl ?_)
  refine wpAny_bind (wpAny_setField_rec hz (by simp) fun h₁ hz₁ hs₁ => ?_)
  replace hz₁ : IsZip h₁ z TI TO .ellipsis := hz₁
  refine wpAny_bind ?_
  simp only [List.zipIdx_cons, List.zipIdx_nil, List.forIn_cons, List.forIn_nil]
  refine wpAny_bind (wpAny_bind (wpAny_onRaise ?_))
  show wpAny _ _ (Builtin.SmallTypes.nextOf (.ref i1) >>= _) _ _ _
  obtain ⟨hh, o1, vs1, e1, d1, c1⟩ := hot
  refine wpAny_bind (lend (x1 := x1) ⟨hh, o1, vs1, hs₁.extBut _ _ n1 e1, d1, c1⟩ n2 (h1.extBut hs₁.extBut D.i1z) (hl1.extBut hs₁.extBut D.l1z) hx fun h₂ e hs₂ he => ?_)
  obtain ⟨oe, hoe, hce⟩ := he
  have hz₂ : IsZip h₂ z TI TO .ellipsis := hs₂ _ _ D.i1z.symm hz₁
  have hez : e ≠ z := fun x => by subst x; rw [hz₂] at hoe; cases hoe; simp at hce
  exact wpAny_setField_rec hz₂ (by simp) fun h₃ _ hs₃ => hE h₃ e (fun c o c1 _ c3 _ x => hs₃.extBut _ _ c1 (hs₂ _ _ c3 (hs₁.extBut _ _ c1 x))) ⟨oe, hs₃.extBut _ _ hez hoe, hce⟩
theorem znext {z TI TO i1 i2 l1 l2 x1 : Addr} {k1 k2 : Nat} {xs ys : Array Value} {a b : Value} {Q : Option Value → Shared → Prop} (hot : HotAt A x1 s.heap) (n1 : x1 ≠ z) (n2 : x1 ≠ i1) (D : ZipApart z TI TO i1 i2 l1 l2)
    (hz : IsZip s.heap z TI TO .none) (hTI : IsPair s.heap TI (.ref i1) (.ref i2)) (hTO : IsPair s.heap TO a b) (h1 : s.heap.IsListIter i1 l1 k1) (hl1 : s.heap.IsList l1 xs) (hx : xs[k1]? = none)
    (hQ : ∀ h', (∀ c o, c ≠ z → c ≠ TO → c ≠ i1 → c ≠ i2 → s.heap.get? c = some o → h'.get? c = some o) → Q none { s with heap := h' }) : wpAny (model prog w) A (pyNext (.ref z)) Q E s := by
  have hT : s.TypeIs (.ref z) "zip" := ⟨_, hz, rfl⟩
  unfold pyNext
  refine wpAny_bind (wpAny_attempt (wpAny_callSpecial?_slot (name := Str.ofString "__next__") hT F.slot_zip_next (wpAny_call_entry F.slot_zip_next hT F.entry_zip_next (zend (k2 := k2) (ys := ys) hot n1 n2 D hz hTI hTO h1 hl1 hx fun h' e hk he => ?_) (F.args_zip_next_1 _))))
  obtain ⟨o, ho, hc⟩ := he
  refine wpAny_bind (wpAny_isInstance (T := "StopIteration") (b := true) ⟨o, ho, hc⟩ isSubtype_stop ?_)
  exact wpAny_pure (hQ _ hk)
end
/-- two lists of one length -/
def ItzE (K : PySem.W.Frag) (a b : Addr) : It :=
  ⟨fun i H => ∃ (xs ys : List V) (x y : V), SqL K H a xs ∧ SqL K H b ys ∧ xs[i]? = some x ∧ ys[i]? = some y,
    fun i H v H' => ∃ T x y, v = .ref T ∧ H T = none ∧ H' = upd H T (.tup [x, y]) ∧ (∀ xs, SqL K H a xs → xs[i]? = some x) ∧ ∀ ys, SqL K H b ys → ys[i]? = some y,
    fun i H => ∃ xs ys : List V, SqL K H a xs ∧ SqL K H b ys ∧ xs.length ≤ i⟩
theorem turn_zipH {P : Program} {w : World} {K : PySem.W.Frag} {elts : List Expr} {kk : Nat} {tpos : Pos} {a b z TI TO i1 i2 : Addr} (D : ZipApart z TI TO i1 i2 a b) :
    TurnH P w K (.Tuple elts kk tpos) (ItzE K a b) [z, TI, TO, i1, i2] z (fun i h => IsZip h z TI TO .none ∧ IsPair h TI (.ref i1) (.ref i2) ∧ (∃ x y, IsPair h TO x y) ∧ h.IsListIter i1 a i ∧ h.IsListIter i2 b i) where
  mem := by simp
  obj := fun i h st c hc => by
    obtain ⟨hz, hTI, ⟨x, y, hTO⟩, ⟨o1, e1, _, d1⟩, ⟨o2, e2, _, d2⟩⟩ := st
    have e' : c = z ∨ c = TI ∨ c = TO ∨ c = i1 ∨ c = i2 := by simpa using hc
    rcases e' with q | q | q | q | q
    · rw [q]; exact ⟨_, hz, fun v q => nomatch q⟩
    · rw [q]; exact ⟨_, hTI, fun v q => nomatch q⟩
    · rw [q]; exact ⟨_, hTO, fun v q => nomatch q⟩
    · rw [q]; exact ⟨o1, e1, fun v q => by rw [d1] at q; cases q⟩
    · rw [q]; exact ⟨o2, e2, fun v q => by rw [d2] at q; cases q⟩
  keep := fun i h h' st k => by
    obtain ⟨hz, hTI, ⟨x, y, hTO⟩, h1, h2⟩ := st
    exact ⟨k z (by simp) _ hz, k TI (by simp) _ hTI, ⟨x, y, k TO (by simp) _ hTO⟩, h1.at fun o q => k i1 (by simp) o q, h2.at fun o q => k i2 (by simp) o q⟩
  item := by
    intro X hP hw hK hc i pins s σ H E I hf st hg
    subst hP hw hK
    obtain ⟨hz, hTI, ⟨x0, y0, hTO⟩, h1, h2⟩ := st
    obtain ⟨xs, ys, x, y, hqx, hqy, hx, hy⟩ := hg
    obtain ⟨its, rv, p, _⟩ := I.list hqx
    obtain ⟨its2, rv2, p2, _⟩ := I.list hqy
    obtain ⟨u, hu, ru⟩ := rv.get hx
    obtain ⟨u2, hu2, ru2⟩ := rv2.get hy
    have hzl : z < s.heap.objs.size := Heap.lt_size hz
    refine wpAny_pyNext_zip_item D hz hTI hTO h1 h2 p.isList p2.isList (x := u) (y := u2) (by simpa using hu) (by simpa using hu2) fun h' z' TO' h1' h2' hT hsz hk => ?_
    refine ⟨_, rfl, wpAny_letOwnedTupleGo_zip (s := { s with heap := h' }) z' fun h'' z'' sb => ?_⟩
    have hT2 : h''.get? s.heap.objs.size = some { cls := .type "tuple", data := .seq #[u, u2] } := (sb.2 _ (Nat.ne_of_gt hzl)).trans hT
    have new : ObjOk X.prog X.w (upd H s.heap.objs.size (.tup [x, y])) h'' s.heap.objs.size (.tup [x, y]) := ⟨by show 2 ≤ sizeLine; decide, [u, u2], .cons ru (.cons ru2 .nil), ⟨_, hT2, rfl, _, rfl⟩⟩
    have I1 : Inv X pins σ (upd H s.heap.objs.size (.tup [x, y])) { s with heap := h'' } :=
      I.turnedNew (t' := s.toks) (ch := [z, TI, TO, i1, i2]) (fun c o hb q => (sb.2 c (fun q' => hb (by simp [q']))).trans (hk c o (fun q' => hb (by simp [q'])) (fun q' => hb (by simp [q'])) (fun q' => hb (by simp [q'])) (fun q' => hb (by simp [q'])) q)) hf (Nat.le_refl _) new
    refine ⟨.ref s.heap.objs.size, _, I1, rfl, ⟨_, x, y, rfl, I.hok.fresh (Nat.le_refl _), rfl, fun l hl => by rw [I.list_inj hl hqx]; exact hx, fun l hl => by rw [I.list_inj hl hqy]; exact hy⟩, ⟨z'', ?_, ⟨u, u2, ?_⟩, ?_, ?_⟩, fun c hcm => ?_⟩
    · exact (sb.2 _ D.TIz).trans (hk _ _ D.TIz D.TITO D.TIi1 D.TIi2 hTI)
    · exact (sb.2 _ D.TOz).trans TO'
    · exact h1'.at fun o q => (sb.2 _ D.i1z).trans q
    · exact h2'.at fun o q => (sb.2 _ D.i2z).trans q
    · have hlt : c < s.heap.objs.size := by
        have e' : c = z ∨ c = TI ∨ c = TO ∨ c = i1 ∨ c = i2 := by simpa using hcm
        rcases e' with q | q | q | q | q
        · rw [q]; exact hzl
        · rw [q]; exact Heap.lt_size hTI
        · rw [q]; exact Heap.lt_size hTO
        · rw [q]; obtain ⟨_, e1, _⟩ := h1; exact Heap.lt_size e1
        · rw [q]; obtain ⟨_, e2, _⟩ := h2; exact Heap.lt_size e2
      rw [upd_ne (Nat.ne_of_lt hlt)]
      exact (hf c hcm).1
  done := by
    intro X hP hw hK hc i pins s σ H E I hf st hg
    subst hP hw hK
    obtain ⟨hz, hTI, ⟨x0, y0, hTO⟩, h1, h2⟩ := st
    obtain ⟨xs, ys, hqx, hqy, hend⟩ := hg
    obtain ⟨its, rv, p, _⟩ := I.list hqx
    have l1 := rv.length
    have he : its.toArray[i]? = none := by simp; omega
    obtain ⟨pe, ⟨hh, v1, e1, c1⟩, hp⟩ := hc
    have P1 := I.pin pe (List.mem_append_left _ hp)
    have np : ∀ c, c ∈ [z, TI, TO, i1, i2] → pe.1 ≠ c := fun c hcm => (hf c hcm).2.2.2.2.2 pe (List.mem_append_left _ hp)
    exact znext (x1 := pe.1) (k2 := i) (ys := #[]) ⟨hh, pe.2, v1, P1.1, e1, c1⟩ (np z (by simp)) (np i1 (by simp)) D hz hTI hTO h1 p.isList he fun h' hk => ⟨rfl, I.turnedL (t' := s.toks) (ch := [z, TI, TO, i1, i2]) (fun c o hb q =>
      hk c o (fun q' => hb (by simp [q'])) (fun q' => hb (by simp [q'])) (fun q' => hb (by simp [q'])) (fun q' => hb (by simp [q'])) q) hf⟩
  self := fun A i s Q E st h => wpAny_pyIter_zip st.1 h
def iZipH (K : PySem.W.Frag) (ta : TA) : TI := fun σ H R => ta σ H fun vs H1 => ∃ a b xs ys, vs = [.ref a, .ref b] ∧ SqL K H1 a xs ∧ SqL K H1 b ys ∧ R (ItzE K a b) H1
theorem pi_zipH {X : Cx} {e e2 : Expr} {ta : TA} {p pos tpos : Pos} {elts : List Expr} {kk : Nat} (hg : Gl X "zip") (hm : X.mg "zip" = none) (ha : PA X [e, e2] ta)
    (hs : starEach [e, e2] X.env = (false, eval e X.env) :: starEach [e2] X.env := by rfl) (hpl : (backTo pos (starEach [e2] X.env)).any (·.1) = false := by rfl) :
    PIH X (.Tuple elts kk tpos) (.Call (.Name "zip" p) [e, e2] [] pos) (iZipH X.K ta) := by
  refine ⟨fun pins s σ H R I h => ?_⟩
  refine Call_ (ld_blt I hg hm PyProof.Rows.boot_zip (PyProof.Rows.callWith_type1 (thn (ha.run pos pins s σ H _ I h) fun us s1 ⟨vs, H1, I1, r1, q1⟩ => ?_) hs hpl))
  obtain ⟨a, b, xs, ys, ex, hqx, hqy, q⟩ := q1
  subst ex
  obtain ⟨u1, u2, rfl, r, r'⟩ : ∃ u1 u2, us = [u1, u2] ∧ RelV (.ref a) u1 ∧ RelV (.ref b) u2 := by
    cases r1 with
    | cons r rr => cases rr with
      | cons r' rr => cases rr; exact ⟨_, _, rfl, r, r'⟩
  cases r
  cases r'
  obtain ⟨its, rv, p1, _⟩ := I1.list hqx
  obtain ⟨its2, rv2, p2, _⟩ := I1.list hqy
  refine call_zip_2 p1.isList p2.isList fun h' hz hTI hTO h1 h2 hsz hk => wpAny_pyIter_zip hz ?_
  have I2 : Inv X pins σ H1 { s1 with heap := h' } := I1.kept (t' := s1.toks) hk
  refine ⟨s1.heap.objs.size + 4, [s1.heap.objs.size + 4, s1.heap.objs.size + 2, s1.heap.objs.size + 3, s1.heap.objs.size, s1.heap.objs.size + 1], _, _, H1, rfl, I2, turn_zipH (PySem.W.ktu_apart s1.heap.objs.size a b p1.lt p2.lt), ⟨hz, hTI, ⟨_, _, hTO⟩, h1, h2⟩, fun c hcm => ?_, q⟩
  have hle : s1.heap.objs.size ≤ c := by
    have e' : c = s1.heap.objs.size + 4 ∨ c = s1.heap.objs.size + 2 ∨ c = s1.heap.objs.size + 3 ∨ c = s1.heap.objs.size ∨ c = s1.heap.objs.size + 1 := by simpa using hcm
    rcases e' with z | z | z | z | z <;> (rw [z]; first | exact Nat.le_add_right _ _ | exact Nat.le_refl _)
  exact I1.fpOk hle (I1.hok.fresh hle)
end HOT

namespace HOT
open PySem PySem.Spec PyProof.Rows L2 L2H HotX
/-! ### a list comprehension while an error is handled -/
/-- the block's context, the handled error kept in sight -/
abbrev blkH (X : Cx) (s : Shared) (H : Hp) (scope : Scope) (cenv : Env) (fp : List Addr) : Cx := { X.blk s H scope cenv fp with pn := X.pn }
section
variable {X : Cx} {pins : List (Addr × Obj)} {σ : L2.St} {H : Hp} {s : Shared}
theorem block_startH {scope : Scope} {own : List (Str × Nat)} {fp : List Addr} (I : Inv X pins σ H s) (ok : BlkOk X.N X.env.scope scope own) (hN : X.N.Nodup) (hfp : ∀ b ∈ fp, FpOk X pins H b ∧ b < s.heap.objs.size) :
    Inv (blkH X s H scope (compEnvC scope (cellsFrom (s.heap.objs.size + 1) scope.names (cloFrom X.env.cells scope.names [])) s.heap.objs.size X.env) fp) [] (wipe σ (own.map (·.2))) H { s with heap := pushCells (s.heap.push { cls := .type "dict", data := .dict #[] }) scope.names } := by
  have B := block_start I ok hN hfp
  have kp : ∀ b o, s.heap.get? b = some o → (pushCells (s.heap.push { cls := .type "dict", data := .dict #[] }) scope.names).get? b = some o := fun b o e => pushCells_keeps _ _ _ _ (Heap.get?_push_of_some _ e)
  refine ⟨⟨B.ok.mod, B.ok.kind, B.ok.glob, B.ok.blt, B.ok.above, B.ok.inj, B.ok.has, B.ok.cab, B.ok.hd, B.ok.frames, B.ok.stk, B.ok.exf, B.ok.bs, B.ok.bsz, B.ok.noex, B.ok.exfs, B.ok.funs, B.ok.frf⟩, B.os, B.bare, B.base, B.loc, B.cell, B.free, B.freeC, fun p hp => ?_, B.hok, B.len⟩
  have hp' : p ∈ X.pn := by simpa using (show p ∈ X.pn ++ ([] : List (Addr × Obj)) from hp)
  have P := I.pin p (List.mem_append_left _ hp')
  refine ⟨kp _ _ P.1, P.2.1, Nat.ne_of_lt (Heap.lt_size P.1), fun hm => (List.mem_cons.mp (I.stkSub p.1 hm)).elim P.2.2.1 P.2.2.2.1, P.2.2.2.2⟩
theorem lc_coreH {Q : VK} {elt tg iter : Expr} {ifs : List Expr} {scope : Scope} {own : List (Str × Nat)} {pos pos' : Pos} {wi : TI} {g : TG} {tt : TT} {te : TE} {use : Option (Value → Sem Unit)} {Qf : Value → Shared → Prop}
    (hc : HotC X) (hN : X.N.Nodup) (I : Inv X pins σ H s) (hi : PIH X tg iter wi) (ok : BlkOk X.N X.env.scope scope own)
    (hg : ∀ (s : Shared) (H : Hp) (C : Addr) (cl : List (Str × Addr)) (fp : List Addr), PG (blkH X s H scope (compEnvC scope cl C X.env) fp) tg g) (ht : ∀ (s : Shared) (H : Hp) (C : Addr) (cl : List (Str × Addr)) (fp : List Addr), PTs (blkH X s H scope (compEnvC scope cl C X.env) fp) ifs tt)
    (he : ∀ (s : Shared) (H : Hp) (C : Addr) (cl : List (Str × Addr)) (fp : List Addr), PE (blkH X s H scope (compEnvC scope cl C X.env) fp) elt te) (hs : ∀ x, foldedSetIterable iter X.env x = pure x)
    (h : tLc wi g tt te (own.map (·.2)) σ H Q)
    (hRR : ∀ D C s' m H', Inv X pins σ H' s' → Q (.ref D) H' → s'.heap.Ns C m → FpOk X pins H' C → compPost (model X.prog X.w) X.A X.xe use Qf (.ref D) C (.ok .next) s') :
    wpAny (model X.prog X.w) X.A (comprehension (.ListComp elt [⟨tg, iter, ifs, 0⟩] scope pos) scope X.env pos' (newList []) false (eval iter X.env) use) Qf X.xe s := by
  have hfree : ∀ y ∈ scope.names, y.2 = .free → ∃ c, X.env.cells.lookup y.1 = some c := fun y hy e => (ok.free y hy e).elim (fun k => I.ok.has _ (.inl k)) fun k => I.ok.has _ (.inr k)
  refine wpAny_comprehension_free (use := use) rfl hs (closure_ok hfree) ok.kind (fun y hy e => by rw [ok.uniq y hy, e]) (thn (hi.run pins s σ H _ I h) fun xv s1 hx => thn hx fun itv s2 h2 => ?_)
  obtain ⟨it, fp, tn, J, H2, e, I2, T, st2, f2, q⟩ := h2
  subst e
  refine wpAny_newObj_type (newEnv_comp ?_) (by show 0 ≤ sizeLine; decide)
  generalize hD : s2.heap.objs.size = D
  have hDn : H2 D = none := I2.hok.fresh (Nat.le_of_eq hD)
  obtain ⟨W, ⟨m0, w0⟩, turn⟩ := q D hDn
  generalize hs3 : ({ s2 with heap := s2.heap.push { cls := .type "list", data := .seq ([] : List Value).toArray } } : Shared) = s3
  have I3 : Inv X pins σ (upd H2 D (.lst [])) s3 := by
    rw [← hs3]
    refine I2.laid (t' := s2.toks) (fun b o e => Heap.get?_push_of_some _ e) (Nat.le_of_eq hD) ⟨Nat.zero_le _, [], 0, .nil, ?_⟩
    rw [← hD]
    exact Heap.get?_push_size _ rfl
  have h3 : s3.heap = s2.heap.push { cls := .type "list", data := .seq ([] : List Value).toArray } := by rw [← hs3]
  have sz : ∀ b ∈ fp, b < s2.heap.objs.size := fun b hb => let ⟨o, e, _⟩ := T.obj _ _ st2 b hb; Heap.lt_size e
  have f3 : ∀ b ∈ fp, FpOk X pins (upd H2 D (.lst [])) b ∧ b < s3.heap.objs.size := fun b hb => by
    have hlt := sz b hb
    refine ⟨⟨?_, (f2 b hb).2⟩, by rw [h3, Heap.size_push]; exact Nat.lt_succ_of_lt hlt⟩
    rw [upd_ne (by rw [← hD]; exact Nat.ne_of_lt hlt)]
    exact (f2 b hb).1
  have st3 : tn 0 s3.heap := T.keep _ _ _ st2 fun b _ o e => by rw [h3]; exact Heap.get?_push_of_some _ e
  have I4 := block_startH I3 ok hN f3
  have pg := hg s3 (upd H2 D (.lst [])) s3.heap.objs.size (cellsFrom (s3.heap.objs.size + 1) scope.names (cloFrom X.env.cells scope.names [])) fp
  have pt := ht s3 (upd H2 D (.lst [])) s3.heap.objs.size (cellsFrom (s3.heap.objs.size + 1) scope.names (cloFrom X.env.cells scope.names [])) fp
  have pe := he s3 (upd H2 D (.lst [])) s3.heap.objs.size (cellsFrom (s3.heap.objs.size + 1) scope.names (cloFrom X.env.cells scope.names [])) fp
  show codeAny _ _ (.compStart (.ListComp elt [⟨tg, iter, ifs, 0⟩] scope pos) 0 (.ref it) (.ref D) (compEnvC scope (cellsFrom (s3.heap.objs.size + 1) scope.names (cloFrom X.env.cells scope.names [])) s3.heap.objs.size X.env)) (compPost (model X.prog X.w) X.A X.xe use Qf (.ref D) s3.heap.objs.size) { s3 with heap := pushCells (s3.heap.push { cls := .type "dict", data := .dict #[] }) scope.names }
  have nfp : ∀ b ∈ fp, (upd H2 D (.lst [])) b = none := fun b hb => (f3 b hb).1.1
  generalize hce : compEnvC scope (cellsFrom (s3.heap.objs.size + 1) scope.names (cloFrom X.env.cells scope.names [])) s3.heap.objs.size X.env = ce at I4 pg pt pe ⊢
  have cL : ce.locals = s3.heap.objs.size := by subst hce; rfl
  generalize hH3 : upd H2 D (.lst []) = H3 at I3 I4 pg pt pe w0 nfp f3
  generalize hs4 : ({ s3 with heap := pushCells (s3.heap.push { cls := .type "dict", data := .dict #[] }) scope.names } : Shared) = s4 at I4 ⊢
  have st4 : tn 0 s4.heap := T.keep _ _ _ st3 fun b _ o e => by rw [← hs4]; exact pushCells_keeps _ _ _ _ (Heap.get?_push_of_some _ e)
  have hc' : HotC (blkH X s3 H3 scope ce fp) := hc
  have stat : ∀ {σ' : L2.St} {H' : Hp} {s' : Shared}, Inv (blkH X s3 H3 scope ce fp) [] σ' H' s' → (∀ b ∈ fp, H' b = none) → ∀ b ∈ fp, FpOk (blkH X s3 H3 scope ce fp) [] H' b := fun {σ' H' s'} I' hn b hb =>
    ⟨hn b hb, (I'.ok.exf b hb).1, I'.ok.exfs b hb, .inl hb, fun x c e => (I'.ok.exf b hb).2 x c e, fun p hp => (f3 b hb).1.2.2.2.2.2 p (List.mem_append_left _ (by simpa using (show p ∈ X.pn ++ ([] : List (Addr × Obj)) from hp)))⟩
  have loop : codeAny (model X.prog X.w) X.A (.compLoop (.ListComp elt [⟨tg, iter, ifs, 0⟩] scope pos) 0 (.ref it) (.ref D) ce) (compPost (model X.prog X.w) X.A X.xe use Qf (.ref D) s3.heap.objs.size) s4 := by
    refine compLoop_any (fun n s' => ∃ i H', Inv (blkH X s3 H3 scope ce fp) [] (wipe σ (own.map (·.2))) H' s' ∧ tn i s'.heap ∧ (∀ b ∈ fp, H' b = none) ∧ W i n H') ?_ m0 ⟨0, H3, I4, st4, nfp, w0⟩
    rintro n s5 ⟨i, H5, I5, st5, n5, w5⟩
    rcases turn i n H5 w5 with ⟨stop, qq⟩ | ⟨go, Nx, hNx, step⟩
    · refine thnF (T.done (blkH X s3 H3 scope ce fp) rfl rfl rfl hc' i [] s5 _ H5 (fun _ _ => False) I5 (stat I5 n5) st5 stop) fun r s6 ⟨hr, I6⟩ => ?_
      subst hr
      have I7 : Inv X pins σ H5 s6 := I3.call' (ch := fp) I6.os I6.base I6.hok I6.bare fun b hb => ⟨(f3 b hb).1.2.2.2.1, (f3 b hb).1.2.1, (f3 b hb).1.2.2.2.2.1, (f3 b hb).1.2.2.2.2.2⟩
      have nC : H5 s3.heap.objs.size = none := by
        have z : H5 ce.locals = none := I6.free
        rw [cL] at z
        exact z
      obtain ⟨m, hn, _⟩ := I6.loc
      have hn : s6.heap.Ns ce.locals m := hn
      rw [cL] at hn
      exact hRR D s3.heap.objs.size s6 m H5 I7 qq hn (I3.fpOk (Nat.le_refl _) nC)
    · refine thnF (T.item (blkH X s3 H3 scope ce fp) rfl rfl rfl hc' i [] s5 _ H5 (fun _ _ => False) I5 (stat I5 n5) st5 go) fun r s6 ⟨u, hr, h6⟩ => ?_
      subst hr
      refine thnF h6 fun _ s7 ⟨x, H7, I7, r7, y7, st7, n7⟩ => ?_
      have I7' := I7.pinned (stat I7 n7) (T.obj _ _ st7)
      refine thnF (pg.run _ s7 _ H7 x u _ I7' r7 (step x H7 y7)) fun _ s8 ⟨σ8, H8, I8, hw8, q8⟩ => ?_
      refine thnF (pt.run _ s8 σ8 H8 _ I8 q8) fun b s9 ⟨H9, I9, q9⟩ => ?_
      have fin : ∀ {s' : Shared} {H' : Hp}, Inv (blkH X s3 H3 scope ce fp) ([] ++ pinsAt fp s7.heap) σ8 H' s' → Nx H' → ∃ m, m < n ∧ ∃ i H', Inv (blkH X s3 H3 scope ce fp) [] (wipe σ (own.map (·.2))) H' s' ∧ tn i s'.heap ∧ (∀ b ∈ fp, H' b = none) ∧ W i m H' := fun {s' H'} I' nx => by
        obtain ⟨m', hm, w'⟩ := hNx H' nx
        have pin' : ∀ b ∈ fp, ∀ o, s7.heap.get? b = some o → s'.heap.get? b = some o ∧ H' b = none := fun b hb o e =>
          let z := I'.pin (b, o) (List.mem_append_right _ (List.mem_append_right _ (mem_pinsAt hb e)))
          ⟨z.1, z.2.1⟩
        have hl : (wipe σ (own.map (·.2))).length = σ8.length := by rw [← hw8, wipe_length]
        refine ⟨m', hm, i + 1, H', (I'.unpinned (pins := [])).weak hl (fun j v e => ?_), T.keep _ _ _ st7 fun b hb o e => (pin' b hb o e).1, fun b hb => ?_, w'⟩
        · rw [← hw8] at e
          exact (wipe_some e).1
        · obtain ⟨o, e, _⟩ := T.obj _ _ st7 b hb
          exact (pin' b hb o e).2
      cases b with
      | false =>
        simp only [Bool.false_eq_true, if_false] at q9 ⊢
        exact fin I9 q9
      | true =>
        simp only [if_true] at q9 ⊢
        refine thnF (pe.run _ s9 σ8 H9 _ I9 q9) fun z s10 ⟨yv, H10, I10, r10, acc, hD10, hz10, nx⟩ => ?_
        exact app_ok (X := blkH X s3 H3 scope ce fp) I10 hD10 hz10 r10 fun s11 I11 => fin I11 nx
  exact codeAny_compStart_list loop (T.self X.A 0 _ _ _ st4 loop)
/-- name = [..] on one line -/
theorem ps_setLcH {i : Nat} {y : Str} {py : Pos} {elt tg iter : Expr} {ifs : List Expr} {scope : Scope} {own : List (Str × Nat)} {pos spos : Pos} {wi : TI} {g : TG} {tt : TT} {te : TE} (hc : HotC X) (hN : X.N.Nodup) (hy : X.N[i]? = some y) (hyl : X.env.scope.names.lookup y = some .local)
    (hsw : swapsWith (.ListComp elt [⟨tg, iter, ifs, 0⟩] scope pos) (some (.Name y py)) spos.line X.env = pure true) (hi : PIH X tg iter wi) (ok : BlkOk X.N X.env.scope scope own)
    (hg : ∀ (s : Shared) (H : Hp) (C : Addr) (cl : List (Str × Addr)) (fp : List Addr), PG (blkH X s H scope (compEnvC scope cl C X.env) fp) tg g) (ht : ∀ (s : Shared) (H : Hp) (C : Addr) (cl : List (Str × Addr)) (fp : List Addr), PTs (blkH X s H scope (compEnvC scope cl C X.env) fp) ifs tt)
    (he : ∀ (s : Shared) (H : Hp) (C : Addr) (cl : List (Str × Addr)) (fp : List Addr), PE (blkH X s H scope (compEnvC scope cl C X.env) fp) elt te) (hs : ∀ x, foldedSetIterable iter X.env x = pure x := by intro _; rfl) :
    PS X (.Assign [.Name y py] (.ListComp elt [⟨tg, iter, ifs, 0⟩] scope pos) spos) (tAsg (tLc wi g tt te (own.map (·.2))) (gName i)) := by
  refine ⟨fun pins s σ H D I h => ?_⟩
  rw [exec_Assign_Name_used _ _ _ _ hsw]
  refine wpAny_bind (wpAny_standAt (wpAny_bind ?_))
  show wpAny _ X.A (do let _ ← comprehension (.ListComp elt [⟨tg, iter, ifs, 0⟩] scope pos) scope X.env (firstIterPos [⟨tg, iter, ifs, 0⟩] pos) (newList []) false (eval iter X.env) (some (assign (.Name y py) X.env))) _ _ s
  have h : tLc wi g tt te (own.map (·.2)) σ H (fun x H1 => gName i x σ H1 D.nx) := h
  refine wpAny_bind (thn (lc_coreH (Qf := fun _ s' => SP X pins D .next s') hc hN I hi ok hg ht he hs h fun L C s' m H' I' q hn f => ?_) fun _ s' hq => wpAny_pure (wpAny_pure hq))
  show wpAny _ _ (assign (.Name y py) X.env (.ref L)) _ _ _
  refine wpAny_assign_Name (store_ok2 (v := V.ref L) I' hN hy (.inl hyl) rfl (fun s2 I2 ⟨a, sb, ha⟩ => ?_) (.inr hyl))
  obtain ⟨f0, f1, f2, f3, f4, f5⟩ := f
  have haC : C ≠ a := ha.elim (fun z => by rw [z]; exact f1) fun z => fun e => f4 y a z e.symm
  exact ⟨m, hn.sameBut sb haC, fun h3 sb3 => ⟨_, H', I2.turned (t' := s2.toks) (fun b o hb e => (sb3.2 b hb).trans e) f0 f1 f3 f4 f5, q⟩⟩
end
end HOT

namespace DL
open PySem PySem.Spec L2
open PyProof.Rows (envOfC)
/-! ### errors whose context is None; plain own errors -/
abbrev TkN (X : Cx) (E : XK) : Prop := L2N.Takes X (fun cls d _ H => E cls d H)
theorem passX {X : Cx} {E : XK} (tk : TkN X E) : Passes (L2N.CX X.prog X.w) X E := L2N.passes_call tk (fun _ _ _ _ h => h)
theorem passNN {X : Cx} : Passes (L2N.CX X.prog X.w) X (fun _ _ _ => False) := fun _ _ _ _ _ _ _ ⟨_, _, _, _, _, _, _, _, _, _, _, _, h⟩ => h.elim
section
variable {P : Program} {w : World} {K : PySem.W.Frag} {mg : Str → Option Value} {base : Heap}
theorem okN {x qual : Str} {st : Stmt} {f : Addr} {fd : FuncData} {N ps : List Str} {k : Nat} {sp : Sp} {CX : CXT} (F : Fun K x qual st f fd) (S : FnScope N ps (defScope st)) (len : ∀ vs H Q E, sp vs H Q E → vs.length = ps.length)
    (hbody : ∀ (cdv : Value) (A : Around) (outer : List Env) (s : Shared) (H : Hp) (vs : List V) (Q : VK) (E : XK), Room k (A.deeper (envOfC qual (defScope st) s.heap.objs.size f cdv)) → sp vs H Q E →
      ∃ t, PSs (cxOf CX P w K mg base N qual (defScope st) f cdv A outer s H E) (defBody st) t ∧ t { nx := fun _ H' => Q .non H', rt := Q } (start N vs) H) : FnOk P w K mg base CX (k + 1) f fd ps sp := by
  obtain ⟨oc, od, kV, doc, pm, an, cdv, ct, osl, rfl, lk, hcd⟩ := F.ex
  exact fn_of lk hcd S len fun A outer s H vs Q E hr hsp => hbody cdv A outer s H vs Q E hr hsp
/-- a def over data that may let own errors out -/
theorem fn_pureN {x qual : Str} {st : Stmt} {f : Addr} {fd : FuncData} {N ps : List Str} {k : Nat} {c : FNC} {W : DWS} (F : Fun K x qual st f fd) (S : FnScope N ps (defScope st))
    (vc : ∀ ds Q Y, c ds Q Y → ds.length = ps.length ∧ W (startD N ds) (fun _ => Q .none) Q Y)
    (body : ∀ (cdv : Value) (A : Around) (outer : List Env) (s : Shared) (H : Hp) (E : XK), Room k (A.deeper (envOfC qual (defScope st) s.heap.objs.size f cdv)) → PDs (fun _ => True) (cxOf (L2N.CX P w) P w K mg base N qual (defScope st) f cdv A outer s H E) E (defBody st) W) : FnOk P w K mg base (L2N.CX P w) (k + 1) f fd ps (spP K mg c) := by
  refine okN F S (fun vs H Q E ⟨G, ds, s, a, q⟩ => by rw [a.length]; exact (vc _ _ _ q).1) fun cdv A outer s0 H vs Q E hr h => ⟨tWS _ _ E W, (body cdv A outer s0 H E hr).ps, ?_⟩
  obtain ⟨G, ds, s, a, q⟩ := h
  refine ⟨pureC, H, G, G, _, ds_start s a trivial, (body cdv A outer s0 H E hr).mono _ _ _ _ _ _ _ (fun ρ' q => ?_) (fun _ h => h) idY (vc _ _ _ q).2⟩
  intro σ' H' G' S' g'
  exact q .non H' G' S'.ext S'.j .non
end
abbrev bmVE : List Value := [.type "ValueError", .type "Exception", .type "BaseException", .type "object"]
/-- what the top has written of a plain own error nm at C -/
structure PErr (K : PySem.W.Frag) (mg : Str → Option Value) (nm : Str) (C : Addr) : Prop where
  gC : mg nm = some (.ref C)
  x : PySem.W.excIn K C bmVE "ValueError.__new__" = true
  k : PySem.W.keepIn K (.ref C) = true
  b : PySem.W.subIn K (.ref C) (.type "BaseException") = some true
  t : PySem.W.typeIn K (.ref C) = some (.type "type")
section
variable {Z : DC → Prop} {X : Cx} {E : XK} {e : Expr} {es : List Expr} {nm m x : Str} {C : Addr} {p p2 pos pos2 : Pos} {j k : Nat} {wA : DAW}
@[simp] def wRaiseP (nm : Str) : DWS := fun _ _ _ Y => Y (.plain nm)
theorem pd1_raiseP (T : PErr X.K X.mg nm C) (hc : X.calm = true) (tk : TkN X E) (hg : Gl X nm := by rfl) (hdb : (nm == ("__debug__" : Str)) = false := by decide) :
    PD1 Z X E (.Raise (some (.Call (.Name nm p) [.Constant (.str m) j p2] [] pos)) none pos2) (wRaiseP nm) := by
  refine ⟨PSimp (L2N.ps_raise hc tk (L2N.pmk_own PySem.F.excBase_ValueError T.x T.gC T.k (raises_own T.b T.t) hg hdb)) fun D σ H ⟨C0, H0, G0, G, ρ, S, q⟩ => ?_, fun ρ N N' R R' Y Y' k kr ky q => ky _ q⟩
  exact q C H G T.gC S.ext S.j
/-- a def that may let errors out, called where they are taken -/
theorem pd_callX {ps : List Str} {c : FNC} (D : FD X.prog X.w X.K X.mg X.base (L2N.CX X.prog X.w) x ps k (spP X.K X.mg c)) (mc : MoF c) (hr : Room k X.A) (tk : TkN X E) (ha : PDA Z X E (e :: es) wA) (hg : Gl X x := by rfl)
    (hdb : (x == ("__debug__" : Str)) = false := by decide) (he : starEach (e :: es) X.env = (false, eval e X.env) :: starEach es X.env := by rfl) (hpl : (backTo pos (starEach es X.env)).any (·.1) = false := by rfl) :
    PD Z X E (.Call (.Name x p) (e :: es) [] pos) (wFn c wA) := pd_call D mc hr (passX tk) ha hg hdb he hpl
/-- .. and where it lets none out -/
theorem pd_callM {ps : List Str} {c : FNC} (D : FD X.prog X.w X.K X.mg X.base (L2N.CX X.prog X.w) x ps k (spP X.K X.mg c)) (mc : MoF c) (hr : Room k X.A) (ha : PDA Z X E (e :: es) wA) (hg : Gl X x := by rfl)
    (hdb : (x == ("__debug__" : Str)) = false := by decide) (he : starEach (e :: es) X.env = (false, eval e X.env) :: starEach es X.env := by rfl) (hpl : (backTo pos (starEach es X.env)).any (·.1) = false := by rfl) :
    PD Z X E (.Call (.Name x p) (e :: es) [] pos) (wFnN c wA) := by
  obtain ⟨f, fd, F, hm, hk, hb⟩ := D.ex
  refine ⟨PEimp (pe_call F hr hg hm hk hb .nil passNN ha.pa hdb he hpl) fun σ H Q ⟨C, H0, G0, G, ρ, S, q⟩ => ?_, fun ρ Q Q' Y Y' k ky q => ha.mono _ _ _ _ _ (fun ds q => mc _ _ _ _ _ k (fun _ h => h) q) ky q⟩
  refine ⟨C, H0, G0, G, ρ, S, ha.mono _ _ _ _ _ (fun ds q => ?_) idY q⟩
  intro vs H1 G1 x1 j1 a1
  exact ⟨G1, ds, x1.sub, by rw [List.append_nil]; exact a1, mc _ _ _ _ _ (fun d q => (RQ.step q x1).pure j1) (fun y q => q.elim) q⟩
end
/-! ### a new list as a call's answer -/
abbrev FNL := List PyData → (List PyData → Prop) → EC → Prop
abbrev MoL (c : FNL) : Prop := ∀ ds Q Q' Y Y', (∀ d, Q d → Q' d) → (∀ x, Y x → Y' x) → c ds Q Y → c ds Q' Y'
def spPF (K : PySem.W.Frag) (mg : Str → Option Value) (c : FNL) : Sp := fun vs H Q E => ∃ G ds, Same G H ∧ AtAll K G vs ds ∧ c ds (RF pureC K G H Q) (RX K mg pureC G H E)
theorem RF.part {C' C : DC} {K : PySem.W.Frag} {G H : Hp} {Q : VK} {d : List PyData} (h : C'.Sub C) (q : RF C K G H Q d) (j : C.J H) : RF C' K G H Q d := fun a vs H' G' x j' => q a vs H' G' (x.weak h.m) (h.back H H' x.same j j')
section
variable {P : Program} {w : World} {K : PySem.W.Frag} {mg : Str → Option Value} {base : Heap}
/-- a def whose body gives a new list at once -/
theorem fn_pureF {x qual : Str} {st : Stmt} {f : Addr} {fd : FuncData} {N ps : List Str} {k : Nat} {c : FNL} {W : DAW} {e : Expr} {pos : Pos} {CX : CXT} (F : Fun K x qual st f fd) (S : FnScope N ps (defScope st)) (hb : defBody st = [.Return (some e) pos])
    (vc : ∀ ds Q Y, c ds Q Y → ds.length = ps.length ∧ W (startD N ds) Q Y)
    (body : ∀ (cdv : Value) (A : Around) (outer : List Env) (s : Shared) (H : Hp) (E : XK), Room k (A.deeper (envOfC qual (defScope st) s.heap.objs.size f cdv)) → PF (fun _ => True) (cxOf CX P w K mg base N qual (defScope st) f cdv A outer s H E) E e W) : FnOk P w K mg base CX (k + 1) f fd ps (spPF K mg c) := by
  refine okN F S (fun vs H Q E ⟨G, ds, s, a, q⟩ => by rw [a.length]; exact (vc _ _ _ q).1) fun cdv A outer s0 H vs Q E hr h => ⟨_, by rw [hb]; exact pss_one (ps_ret (body cdv A outer s0 H E hr).pe), ?_⟩
  obtain ⟨G, ds, s, a, q⟩ := h
  exact ⟨pureC, H, G, G, _, ds_start s a trivial, (vc _ _ _ q).2⟩
end
section
variable {Z : DC → Prop} {X : Cx} {E : XK} {e : Expr} {es : List Expr} {x : Str} {p pos : Pos} {k : Nat} {wA : DAW}
@[simp] def wFnL (c : FNL) (wA : DAW) : DAW := fun ρ Q Y => wA ρ (fun ds => c ds Q (fun _ => False)) Y
theorem pf_callM {ps : List Str} {c : FNL} (D : FD X.prog X.w X.K X.mg X.base (L2N.CX X.prog X.w) x ps k (spPF X.K X.mg c)) (mc : MoL c) (hr : Room k X.A) (ha : PDA Z X E (e :: es) wA) (hg : Gl X x := by rfl)
    (hdb : (x == ("__debug__" : Str)) = false := by decide) (he : starEach (e :: es) X.env = (false, eval e X.env) :: starEach es X.env := by rfl) (hpl : (backTo pos (starEach es X.env)).any (·.1) = false := by rfl) :
    PF Z X E (.Call (.Name x p) (e :: es) [] pos) (wFnL c wA) := by
  obtain ⟨f, fd, F, hm, hk, hb⟩ := D.ex
  refine ⟨PEimp (pe_call F hr hg hm hk hb .nil passNN ha.pa hdb he hpl) fun σ H Q ⟨C, H0, G0, G, ρ, S, q⟩ => ?_, fun ρ Q Q' Y Y' k ky q => ha.mono _ _ _ _ _ (fun ds q => mc _ _ _ _ _ k (fun _ h => h) q) ky q⟩
  refine ⟨C, H0, G0, G, ρ, S, ha.mono _ _ _ _ _ (fun ds q => ?_) idY q⟩
  intro vs H1 G1 x1 j1 a1
  exact ⟨G1, ds, x1.sub, by rw [List.append_nil]; exact a1, mc _ _ _ _ _ (fun d q => (RF.step q x1).part (pure_sub C) j1) (fun y q => q.elim) q⟩
/-- .. as a value -/
theorem spPF_P {K : PySem.W.Frag} {mg : Str → Option Value} {c : FNL} (mc : MoL c) {vs : List V} {H : Hp} {Q : VK} {E : XK} (h : spP K mg (fun ds Q Y => c ds (fun l => Q (.list l)) Y) vs H Q E) : spPF K mg c vs H Q E := by
  obtain ⟨G, ds, s, a, q⟩ := h
  exact ⟨G, ds, s, a, mc _ _ _ _ _ (fun l q => RF.of q) idY q⟩
/-! ### an own list shown to a test -/
@[simp] def tThaw (i : Nat) (w : DT) : DT := fun ρ Q Y => ∃ ds, ρ[i]? = some (.ml ds) ∧ w (ρ.set i (.d (.list ds))) Q (fun _ => False)
theorem ext_thaw {M : Addr → Prop} {G H G' H' : Hp} {a : Addr} {o : HO} (g : G a = none) (x : Ext M (upd G a o) H G' H') : Ext M G H (fun b => if b = a then none else G' b) H' where
  same := x.same
  there := x.there
  sub := fun b u e => by
    have e : (if b = a then none else G' b) = some u := e
    split at e
    · cases e
    · exact x.sub b u e
  gs := fun b u e => by
    have nb : b ≠ a := ne_of_none e g
    show (if b = a then none else G' b) = some u
    rw [if_neg nb]
    exact x.gs b u (by rw [upd_ne nb]; exact e)
  sep := fun b u e n => by
    show (if b = a then none else G' b) = none
    split
    · rfl
    · rename_i nb
      exact x.sep b u e (by rw [upd_ne nb]; exact n)
theorem pdt_thaw (i : Nat) {w : DT} (h : PDT Z X E e w) : PDT Z X E e (tThaw i w) := by
  refine ⟨PTimp h.pt fun σ H Q ⟨C, H0, G0, G, ρ, S, ds, e, q⟩ => ?_, fun ρ Q Q' Y Y' k ky ⟨ds, e, q⟩ => ⟨ds, e, h.mono _ _ _ _ _ k (fun _ h => h) q⟩⟩
  obtain ⟨a, vs, h1, h2, h3, h4, h5⟩ := S.ml e
  have x : Ext C.M G0 H0 (upd G a (.lst vs)) H := S.ext.frz h4 h3 h2
  have gs : Same G (upd G a (.lst vs)) := fun b o q => by rw [upd_ne (ne_of_none q h3)]; exact q
  have S' : DS Z C X.K H0 G0 (upd G a (.lst vs)) H σ (ρ.set i (.d (.list ds))) := by
    refine ⟨S.z, x, S.f0, S.m0, S.j, by simp [S.len], fun j s q => ?_, fun j k xs ys b n e1 e2 e3 e4 => ?_⟩
    · rcases get_set q with ⟨rfl, rfl, _⟩ | ⟨hj, q⟩
      · exact ⟨_, h1, .ref a, rfl, .lst upd_same (h5.same gs)⟩
      · obtain ⟨o, q1, q2⟩ := S.sl j s q
        refine ⟨o, q1, ?_⟩
        cases s with
        | un => trivial
        | d x => obtain ⟨v, p1, p2⟩ := q2; exact ⟨v, p1, p2.same gs⟩
        | tp => exact q2
        | fn _ => exact q2
        | ml xs =>
          obtain ⟨b, us, rfl, p2, p3, p4, p5⟩ := q2
          have nb : b ≠ a := fun z => by subst z; exact S.inj i j ds xs b hj e q h1 q1
          exact ⟨b, us, rfl, p2, by rw [upd_ne nb]; exact p3, p4, p5.same gs⟩
    · rcases get_set e1 with ⟨rfl, q, _⟩ | ⟨_, e1⟩
      · cases q
      · rcases get_set e2 with ⟨rfl, q, _⟩ | ⟨_, e2⟩
        · cases q
        · exact S.inj j k xs ys b n e1 e2 e3 e4
  refine ⟨C, H0, G0, _, _, S', h.mono _ _ _ _ _ (fun b q => ?_) RX.no q⟩
  intro H' G' x' j'
  exact q H' _ (ext_thaw h3 x') j'
/-! ### is True, is False -/
@[simp] def fIsB (neg : Bool) : F2 := fun x y Q => ∃ a b, x = .bool a ∧ y = .bool b ∧ Q (.bool (if neg then !decide (a = b) else decide (a = b)))
theorem opd_isB : OpD X rIsB (fIsB false) where
  go := fun C G H x y dx dy Q h ax ay ⟨a, b, e1, e2, q⟩ => by
    subst e1 e2
    exact ⟨a, b, bool_of ax, bool_of ay, RQ.now q h.sub h.j (.bl _)⟩
  mono := fun a b Q Q' k ⟨c, d, e1, e2, q⟩ => ⟨c, d, e1, e2, k _ q⟩
theorem opd_notB : OpD X rNotB (fIsB true) where
  go := fun C G H x y dx dy Q h ax ay ⟨a, b, e1, e2, q⟩ => by
    subst e1 e2
    exact ⟨a, b, bool_of ax, bool_of ay, RQ.now q h.sub h.j (.bl _)⟩
  mono := fun a b Q Q' k ⟨c, d, e1, e2, q⟩ => ⟨c, d, e1, e2, k _ q⟩
variable {a b f : Expr} {wa wb wf : DW}
theorem pd_isB (ha : PD Z X E a wa) (hb : PD Z X E b wb) : PD Z X E (.Compare a [.Is] [b] pos) (w2 (fIsB false) wa wb) := pd_cmp op_isBl opd_isB ha hb
theorem pd_notB (ha : PD Z X E a wa) (hb : PD Z X E b wb) : PD Z X E (.Compare a [.IsNot] [b] pos) (w2 (fIsB true) wa wb) := pd_cmp op_notBl opd_notB ha hb
theorem pdt_isB (ha : PD Z X E a wa) (hb : PD Z X E b wb) : PDT Z X E (.Compare a [.Is] [b] pos) (wT (w2 (fIsB false) wa wb)) := pdt_cmp op_isBl opd_isB ha hb
theorem pdt_notB (ha : PD Z X E a wa) (hb : PD Z X E b wb) : PDT Z X E (.Compare a [.IsNot] [b] pos) (wT (w2 (fIsB true) wa wb)) := pdt_cmp op_notBl opd_notB ha hb
theorem lt1 {n : Nat} (h : n + 64 < cLine) : n + 1 < cLine := by omega
/-! ### dict(a list of two pairs).get(k, x) -/
@[simp] def wDictGet (wa wb wf : DW) : DW := fun ρ Q Y => wa ρ (fun l => ∃ k1 x1 k2 x2, l = .list [.tuple [.str k1, x1], .tuple [.str k2, x2]] ∧ k1 ≠ k2 ∧ wb ρ (fun k => ∃ z, k = .str z ∧ wf ρ (fun d => Q (if z = k1 then x1 else if z = k2 then x2 else d)) Y) Y) Y
theorem pd_dictget {p1 apos cpos : Pos} (hc : X.calm = true) (hu : X.A.units + 1 < cLine) (hm : X.mg "dict" = none) (ha : PD Z X E a wa) (hb : PD Z X E b wb) (hf : PD Z X E f wf) (m : M2 X (.Call (.Name "dict" p) [a] [] p1) "get" apos b f cpos) (hg : Gl X "dict" := by rfl)
    (he : starEach [a] X.env = (false, eval a X.env) :: starEach [] X.env := by rfl) (hpl : (backTo p1 (starEach [] X.env)).any (·.1) = false := by rfl) :
    PD Z X E (.Call (.Attribute (.Call (.Name "dict" p) [a] [] p1) "get" apos) [b, f] [] cpos) (wDictGet wa wb wf) := by
  refine ⟨PEimp (pe_dget2 hu (pe_callTy (call_dictP hc) hg hm (by decide +kernel) (pa_cons ha.pe pa_nil he) (by decide) (by decide) he hpl) hb.pe hf.pe m) fun σ H Q ⟨C, H0, G0, G, ρ, S, q⟩ => ?_, fun ρ Q Q' Y Y' k ky q => ha.mono _ _ _ _ _ (fun l ⟨k1, x1, k2, x2, e, n, q⟩ => ⟨k1, x1, k2, x2, e, n, hb.mono _ _ _ _ _ (fun z ⟨y, e, q⟩ => ⟨y, e, hf.mono _ _ _ _ _ (fun d q => k _ q) ky q⟩) ky q⟩) ky q⟩
  refine ⟨C, H0, G0, G, ρ, S, ha.mono _ _ _ _ _ (fun l q => ?_) idY q⟩
  obtain ⟨k1, x1, k2, x2, rfl, nk, q⟩ := q
  intro v H1 G1 x j1 a1
  cases a1 with
  | lst e t =>
    obtain ⟨v1, v2, rfl, t1, t2⟩ := two_at t
    cases t1 with
    | tup e1 t1 =>
      obtain ⟨u1, y1, rfl, s1, r1⟩ := two_at t1
      cases t2 with
      | tup e2 t2 =>
        obtain ⟨u2, y2, rfl, s2, r2⟩ := two_at t2
        cases s1
        cases s2
        rename_i A L1 L2'
        refine ⟨A, [L1, L2'], [(.inr k1, y1), (.inr k2, y2)], rfl, SqL.of (x.sub _ _ e), .cons (SqT.same x.sub e1) (.cons (SqT.same x.sub e2) .nil), fun p hp => ?_⟩
        have hmk : mergeK [] [((Sum.inr k1 : Key), y1), ((Sum.inr k2 : Key), y2)] = [((Sum.inr k1 : Key), y1), ((Sum.inr k2 : Key), y2)] := by
          simp [mergeK, putK, nk]
        rw [hmk]
        have x2 : Ext C.M G1 H1 G1 (upd H1 p (.dK [((Sum.inr k1 : Key), y1), ((Sum.inr k2 : Key), y2)])) := Ext.newM x.sub hp
        refine ⟨p, rfl, .inl ⟨_, .inl upd_same⟩, C, H0, G0, G1, ρ, (S.step x j1).step x2 (C.jnew hp j1), hb.mono _ _ _ _ _ (fun z q => ?_) (fun y q => RX.step x2 y (RX.step x y q)) q⟩
        obtain ⟨y, rfl, q⟩ := q
        intro kv H2 G2 x3 j3 a3
        cases a3
        refine ⟨C, H0, G0, G2, ρ, ((S.step x j1).step x2 (C.jnew hp j1)).step x3 j3, hf.mono _ _ _ _ _ (fun d q => ?_) (fun y q => RX.step x3 y (RX.step x2 y (RX.step x y q))) q⟩
        intro dv H3 G3 x4 j4 a4
        have nM : ¬ C.M p := fun z => (S.step x j1).fH p (C.mf p z) hp
        have hd : H3 p = some (.dK [((Sum.inr k1 : Key), y1), ((Sum.inr k2 : Key), y2)]) := x4.same p _ nM (x3.same p _ nM upd_same)
        have g3 : Same G1 G3 := fun b o e => x4.gs b o (x3.gs b o e)
        have X4 := RQ.step (RQ.step (RQ.step (RQ.step q x) x2) x3) x4
        refine ⟨valV [((Sum.inr k1 : Key), y1), ((Sum.inr k2 : Key), y2)] (Sum.inr y), .inl ⟨_, Sum.inr y, .inl hd, rfl, rfl⟩, ?_⟩
        by_cases h1 : y = k1
        · subst h1
          rw [if_pos rfl] at X4
          rw [valV_pos rfl]
          exact X4.now x4.sub j4 (r1.same g3)
        · rw [if_neg h1] at X4
          rw [valV_neg (fun z => h1 (Sum.inr.inj z).symm)]
          by_cases h2 : y = k2
          · subst h2
            rw [if_pos rfl] at X4
            rw [valV_pos rfl]
            exact X4.now x4.sub j4 (r2.same g3)
          · rw [if_neg h2] at X4
            rw [valV_neg (fun z => h2 (Sum.inr.inj z).symm), valV_nil]
            exact X4.now x4.sub j4 a4
/-- a module's constant, an int -/
theorem pd_globI {x : Str} {i : Int} (h : ∃ v, X.mg x = some v ∧ RelV (.int i) v) (hg : Gl X x := by rfl) (hd : (x == ("__debug__" : Str)) = false := by decide) : PD Z X E (.Name x pos) (wC (.int i)) := by
  obtain ⟨v, hm, hr⟩ := h
  exact pd_glob (v := .int i) hm hr (fun _ => .int i) hg hd
/-! ### two names at once, the second one a new list -/
@[simp] def wParM2 (i j : Nat) (wa : DW) (wF : DAW) : DWS := fun ρ N _ Y => wa ρ (fun d => wF ρ (fun ds => N ((ρ.set i (.d d)).set j (.ml ds))) Y) Y
theorem pd1_parM2 {i j : Nat} {x y : Str} {wF : DAW} {px py pt pt2 : Pos} {kt k2 : Nat} (hc : X.calm = true) (ha : PD Z X E a wa) (hb : PF Z X E b wF) (hN : X.N.Nodup) (hi : X.N[i]? = some x := by rfl) (hj : X.N[j]? = some y := by rfl) (hij : i ≠ j := by decide)
    (hx : X.env.scope.names.lookup x = some .local := by rfl) (hy : X.env.scope.names.lookup y = some .local := by rfl)
    (hw : swappedStores [.Tuple [.Name x px, .Name y py] kt pt] (.Tuple [a, b] k2 pt2) X.env = pure (some [x, y]) := by rfl)
    (hs : swapsWithSole [.Tuple [.Name x px, .Name y py] kt pt] (.Tuple [a, b] k2 pt2) pos.line X.env = pure false := by rfl)
    (he1 : starEach [a, b] X.env = (false, eval a X.env) :: starEach [b] X.env := by rfl) (he2 : starEach [b] X.env = (false, eval b X.env) :: starEach [] X.env := by rfl) :
    PD1 Z X E (.Assign [.Tuple [.Name x px, .Name y py] kt pt] (.Tuple [a, b] k2 pt2) pos) (wParM2 i j wa wF) := by
  refine ⟨PSimp (ps_par hc hN hi hj hij hx hy (pa_cons ha.pe (pa_cons hb.pe pa_nil he2) he1) hw hs) fun D σ H ⟨C, H0, G0, G, ρ, S, q⟩ => ?_, fun ρ N N' R R' Y Y' k kr ky q => ha.mono _ _ _ _ _ (fun d q => hb.mono _ _ _ _ _ (fun ds q => k _ q) ky q) ky q⟩
  refine ⟨C, H0, G0, G, ρ, S, ha.mono _ _ _ _ _ (fun d q => ?_) (RX.step S.ext) q⟩
  intro v H1 G1 x1 j1 a1
  have S1 := S.step x1 j1
  refine ⟨C, H0, G0, G1, ρ, S1, hb.mono _ _ _ _ _ (fun ds q => ?_) (RX.step S1.ext) q⟩
  intro p vs H2 G2 x2 j2 hn gn hp t
  have h0 : H0 p = none := by
    cases z : H0 p with
    | none => rfl
    | some o =>
      obtain ⟨o', e'⟩ := S1.ext.there p o z
      rw [hn] at e'; cases e'
  have S2 := (S1.step x2 j2).set (i := i) (a1.same x2.gs)
  refine ⟨_, _, rfl, ?_⟩
  refine RN.now q (S2.setMl hp gn h0 t fun l xs _ e1 e3 => ?_) fun b o z => x2.gs b o (x1.gs b o z)
  have hl : i ≠ l := fun z => by
    subst z
    have hlt : i < ρ.length := by
      have := (List.getElem?_eq_some_iff.mp e1).1
      simpa using this
    rw [List.getElem?_set_self hlt] at e1
    cases e1
  rw [List.getElem?_set_ne hl] at e1 e3
  obtain ⟨b', us, q1, q2, _⟩ := S1.ml e1
  rw [e3] at q1
  cases q1
  rw [hn] at q2; cases q2
end
end DL

namespace HOT
open PySem PySem.Spec PyProof.Rows L2 LamX
/-! ### a lambda handed to a def: only its maker's table is changed; errors with no context -/
def ExtP (P : Addr) (H H' : Hp) : Prop := ∀ b o, H b = some o → b ≠ P → H' b = some o
section
variable {X : Cx} {pins : List (Addr × Obj)} {σ : L2.St} {H HZ : Hp} {s s1 : Shared}
/-- a lambda is made; but its table and its code object nothing is changed -/
theorem lam_mk {T : List (Addr × Str)} {c P : Addr} {params : Arguments} {body : Expr} {scope : Scope} {pos : Pos} {E : Value → Shared → Prop} {Q : Value → Shared → Prop} (I : Inv X pins σ H s) (TB : TabB X.base X.mg c P) (hcode : X.env.code = .ref c)
    (hm : (P, X.env.qual ++ "<lambda>") ∈ T) (hu : ∀ p ∈ T, p.1 = P → p.2 = X.env.qual ++ "<lambda>") (hT : Tabs T H) (hdef : defaultsOf params X.env = ([], [])) (hfree : ∀ y ∈ scope.names, y.2 = .free → ∃ c, X.env.cells.lookup y.1 = some c)
    (h : ∀ (f c' : Addr) (pm ctv : Value) (H1 : Hp) (s' : Shared), Inv X pins σ H1 s' → ExtP P H H1 → Tabs T H1 →
      s'.heap.get? f = some (PySem.W.kla_obj "<lambda>" (X.env.qual ++ "<lambda>") params body scope (cloFrom X.env.cells scope.names []) pm c' ctv) → H1 f = none → f ∉ frs X.stack → H1 c' = some (CodeO c' (X.env.qual ++ "<lambda>")) → Q (.ref f) s') :
    wpAny (model X.prog X.w) X.A (eval (.Lambda params body scope pos) X.env) Q E s := by
  obtain ⟨ps, hP, ht, ha⟩ := hT _ hm
  refine PySem.W.kla_eval hdef ?_
  have bP : s.heap.BuiltinsAt X.mg P := TB.bm.keeps I.bk
  have hP' : s.heap.get? P = some { cls := .none, data := .fields ps } := I.hok P _ hP
  have nofr : ∀ f, s.heap.objs.size ≤ f → f ∉ frs X.stack := fun f hf z => by
    rcases List.mem_cons.mp (I.stkSub _ z) with e | e
    · have h1 := I.lt
      rw [← e] at h1
      exact Nat.lt_irrefl _ (Nat.lt_of_lt_of_le h1 hf)
    · exact I.nofs hf e
  cases hc : codeAmong pos ps.toList with
  | none =>
    refine PySem.W.kla_makeFunction (mg := X.mg) (c := c) (P := P) (ps := ps) (closure_ok hfree) I.ok.glob (I.mod.glob.keeps I.bk) hcode (TB.code.keeps I.bk) hP' ht hc TB.gP bP fun c' ctv h' tk hx hge hlt hrec htb => ?_
    obtain ⟨c2, oc, vs, t, e2, hoc, hd, hv⟩ := hrec
    cases e2
    have hsz : s.heap.objs.size ≤ h'.objs.size := Nat.le_trans hge (Nat.le_of_lt hlt)
    have nC : H c' = none := I.hok.fresh hge
    have I1 := inv_table (t' := tk) (more := #[rawInt pos.line, rawInt pos.col, .ref c']) (h' := h'.push (PySem.W.kla_obj "<lambda>" (X.env.qual ++ "<lambda>") params body scope (cloFrom X.env.cells scope.names []) ((X.mg "__name__").getD .none) c' ctv)) I hP
      (fun b o hb e => Heap.get?_push_of_some _ (hx b o hb e)) (Heap.get?_push_of_some _ htb) hge ⟨oc, vs, t, Heap.get?_push_of_some _ hoc, hd, hv⟩
    have hE : ExtP P H (upd (upd H P (.tbl (ps ++ #[rawInt pos.line, rawInt pos.col, .ref c']))) c' (CodeO c' (X.env.qual ++ "<lambda>"))) := fun b o e n => by
      rw [upd_ne (ne_of_none e nC), upd_ne n]
      exact e
    have eL : (ps ++ #[rawInt pos.line, rawInt pos.col, .ref c']).toList = ps.toList ++ [rawInt pos.line, rawInt pos.col, .ref c'] := by simp
    refine h h'.objs.size c' ((X.mg "__name__").getD .none) ctv _ _ I1 hE (fun p hp => ?_) (Heap.get?_push_size _ rfl) ?_ (nofr _ hsz) upd_same
    · by_cases hb : p.1 = P
      · rw [hu p hp hb, hb]
        refine ⟨_, by rw [upd_ne (ne_of_none hP nC), upd_same], by rw [eL]; exact PySem.TriplesOk_snoc _ _ _ _ ht, fun p' cv hcv => ?_⟩
        rw [eL] at hcv
        rcases among_app _ ht hcv with z | z
        · obtain ⟨c0, e1, e2⟩ := ha p' cv z
          exact ⟨c0, e1, hE _ _ e2 (fun z => by rw [z, hP] at e2; cases e2)⟩
        · exact ⟨c', z, upd_same⟩
      · obtain ⟨ps', a1, a2, a3⟩ := hT p hp
        refine ⟨ps', by rw [upd_ne (ne_of_none a1 nC), upd_ne hb]; exact a1, a2, fun p' cv hcv => ?_⟩
        obtain ⟨c0, e1, e2⟩ := a3 p' cv hcv
        exact ⟨c0, e1, hE _ _ e2 (fun z => by rw [z, hP] at e2; cases e2)⟩
    · have n1 : h'.objs.size ≠ c' := Nat.ne_of_gt hlt
      have n2 : h'.objs.size ≠ P := Nat.ne_of_gt (Nat.lt_of_lt_of_le (Heap.lt_size hP') hsz)
      rw [upd_ne n1, upd_ne n2]
      exact I.hok.fresh hsz
  | some cv =>
    obtain ⟨c', e, hco⟩ := ha pos cv hc
    subst e
    refine PySem.W.kla_makeFunctionHit (mg := X.mg) (c := c) (P := P) (ps := ps) (closure_ok hfree) I.ok.glob (I.mod.glob.keeps I.bk) hcode (TB.code.keeps I.bk) hP' ht hc bP fun ctv h' tk hx hsz => ?_
    have I1 : Inv X pins σ H { s with heap := h'.push (PySem.W.kla_obj "<lambda>" (X.env.qual ++ "<lambda>") params body scope (cloFrom X.env.cells scope.names []) ((X.mg "__name__").getD .none) c' ctv), toks := tk } := I.kept fun b o e => Heap.get?_push_of_some _ (hx b o e)
    exact h h'.objs.size c' ((X.mg "__name__").getD .none) ctv H _ I1 (fun _ _ e _ => e) hT (Heap.get?_push_size _ rfl) (I.hok.fresh hsz) (nofr _ hsz) hco
/-- the lambda's context -/
abbrev lamCxN (X : Cx) (A : Around) (outer : List Env) (s : Shared) (H : Hp) (E : XK) (scope : Scope) (f c' : Addr) : Cx :=
  { lamCx X A outer s H E scope f c' with xe := fun e s' => wpAny (model X.prog X.w) (A.deeper (lamEnv X scope s.heap.objs.size f c')) (leaving (lamEnv X scope s.heap.objs.size f c') e) (fun _ s'' => L2N.CX X.prog X.w outer H s E e s'') (fun e' s'' => L2N.CX X.prog X.w outer H s E e' s'') s' }
theorem lam_startN {A : Around} {outer : List Env} {E : XK} {scope : Scope} {f c' : Addr} {h₁ : Heap} {tk : Nat} (I : Inv X pins σ H s) (L : LamS X.env.scope scope) (e0 : Env0 X.prog X.w X.K X.mg X.base A outer s1 HZ) (hd : A.handled = none)
    (un : Un (frs X.stack) [] H HZ s.heap s1.heap) (hns : h₁.Ns s1.heap.objs.size fun y => ([] : List (Str × Value)).reverse.lookup y) (kp : ∀ b o, s1.heap.get? b = some o → h₁.get? b = some o) :
    Inv (lamCxN X A outer s1 HZ E scope f c') [] σ HZ { s1 with heap := h₁, toks := tk } := by
  have B := lam_start2 (E := E) (f := f) (c' := c') (tk := tk) I L e0 hd un hns kp
  exact ⟨⟨B.ok.mod, B.ok.kind, B.ok.glob, B.ok.blt, B.ok.above, B.ok.inj, B.ok.has, B.ok.cab, B.ok.hd, B.ok.frames, B.ok.stk, B.ok.exf, B.ok.bs, B.ok.bsz, B.ok.noex, B.ok.exfs, B.ok.funs, B.ok.frf⟩, B.os, B.bare, B.base, B.loc, B.cell, B.free, B.freeC, B.pin, B.hok, B.len⟩
/-- a(), a the lambda that the def got -/
theorem pe_actN {CXg : CXT} {Eg : XK} {Ng : List Str} {qg : Str} {sg : Scope} {g f c' : Addr} {cdg pm ctv : Value} {params : Arguments} {body : Expr} {scope : Scope} {k i : Nat} {a : Str} {pn : List (Addr × Obj)} {xe : Value → Shared → Prop} {W : WX} {E : XK} {tb : TE} {p1 p2 : Pos}
    (I : Inv X pins σ H s) (L : LamS X.env.scope scope) (hf : s.heap.get? f = some (PySem.W.kla_obj "<lambda>" (X.env.qual ++ "<lambda>") params body scope (cloFrom X.env.cells scope.names []) pm c' ctv)) (hfn : H f = none) (hfr : f ∉ frs X.stack)
    (hbind : bindArgs (PySem.W.kla_fn "<lambda>" (X.env.qual ++ "<lambda>") params body scope (cloFrom X.env.cells scope.names []) pm (.ref c') ctv) ⟨[], []⟩ = pure [])
    (tk : L2N.Takes ((cxOf CXg X.prog X.w X.K X.mg X.base Ng qg sg g cdg X.A X.stack s H Eg).tr pn xe) W) (hW : ∀ cls d σ' H', E cls d H' → W cls d σ' H') (hr : Room (k + 1) (X.A.deeper (envOfC qg sg s.heap.objs.size g cdg)))
    (hbody : ∀ (A : Around) (outer : List Env) (s : Shared) (H : Hp), Room k (A.deeper (lamEnv X scope s.heap.objs.size f c')) → PE (lamCxN X A outer s H E scope f c') body tb)
    (hN : Ng[i]? = some a) (hv : Vis sg a) (hd : (a == ("__debug__" : Str)) = false := by decide) (hcd : (a == ("__classdict__" : Str)) = false := by decide) :
    PE ((cxOf CXg X.prog X.w X.K X.mg X.base Ng qg sg g cdg X.A X.stack s H Eg).tr pn xe) (.Call (.Name a p1) [] [] p2)
      (fun σZ HZ Q => σZ[i]? = some (some (.ref f)) ∧ HZ c' = some (CodeO c' (X.env.qual ++ "<lambda>")) ∧ tb σ HZ Q) := by
  refine ⟨fun pinsZ sZ σZ HZ Q IZ h => ?_⟩
  obtain ⟨hs, hc, ht⟩ := h
  refine wpAny_Call_Name_kw (thn ((pe_var (pos := p1) (i := i) hN hv hd hcd).run pinsZ sZ σZ HZ (fun v H1 => v = .ref f ∧ H1 = HZ) IZ ⟨.ref f, hs, rfl, rfl⟩) fun u s1 ⟨v, H1, I1, r1, q1⟩ => ?_)
  obtain ⟨ev, eH⟩ := q1
  subst ev
  rw [eH] at I1
  obtain rfl : u = Value.ref f := r1
  have of1 : s1.heap.get? f = some (PySem.W.kla_obj "<lambda>" (X.env.qual ++ "<lambda>") params body scope (cloFrom X.env.cells scope.names []) pm c' ctv) := I1.base.keep f _ hf hfn hfr (fun z => nomatch (show f ∈ ([] : List Addr) from z))
  refine PySem.W.callWith_F0 ⟨_, _, _, _, of1⟩ ?_
  have un : Un (frs X.stack) [] H HZ s.heap s1.heap := I1.base
  obtain ⟨⟨oc, vs, t, hoc, hdc, hvc⟩, _, _⟩ := I1.hok c' _ hc
  have rc : codeAny (model X.prog X.w) (X.A.deeper (envOfC qg sg s.heap.objs.size g cdg)) (.call (.ref f) ⟨[], []⟩) (CR (L2N.CX X.prog X.w) (envOfC qg sg s.heap.objs.size g cdg :: X.stack) X.prog X.w HZ s1 Q E) s1 := by
    refine PySem.W.kla_callFunE hr.depth of1 rfl L.co L.gen rfl ⟨c', oc, vs, t, rfl, hoc, hdc, hvc⟩ ?_
    rw [hbind]
    refine wpAny_pure (wpAny_newFunctionEnv (fun y hy => (L.own y hy).2) (fun y hy => absurd hy (by simp)) (fun h₁ hns hsb => ⟨I1.nolimit.fresh _ hsb, ?_⟩) L.kind)
    show codeAny _ _ (.expr body (lamEnv X scope s1.heap.objs.size f c')) _ _
    have kp : ∀ b o, s1.heap.get? b = some o → h₁.get? b = some o := fun b o e => hsb.extBut b o (Nat.ne_of_lt (Heap.lt_size e)) (Heap.get?_push_of_some _ e)
    have J : Inv (lamCxN X (X.A.deeper (envOfC qg sg s.heap.objs.size g cdg)) (envOfC qg sg s.heap.objs.size g cdg :: X.stack) s1 HZ E scope f c') [] σ HZ { s1 with heap := h₁, toks := s1.toks + ([] : List (Str × Value)).length } :=
      lam_startN I L I1.env0 hr.hd un hns kp
    refine PySem.W.kla_codeExpr (wpAny_mono ((hbody _ _ s1 HZ (hr.deeper _)).run [] _ _ HZ Q J ht) (fun v s' hq => ?_) fun e s' hq => hq)
    obtain ⟨w', H', J', rv, q⟩ := hq
    exact ⟨w', H', J'.os, J'.bare, J'.base, J'.hok, rv, q⟩
  have hx : Passes (L2N.CX X.prog X.w) ((cxOf CXg X.prog X.w X.K X.mg X.base Ng qg sg g cdg X.A X.stack s H Eg).tr pn xe) E := L2N.passes_call tk (fun cls d σ H h => hW cls d σ H h)
  refine wpAny_call (codeAny_mono rc fun r s' hq => ?_)
  cases r with
  | error e => exact hx pinsZ σZ HZ s1 e s' I1 hq
  | ok fl =>
    cases fl with
    | ret u => exact I1.after hq
    | next => exact False.elim hq
    | brk => exact False.elim hq
    | cont => exact False.elim hq
end
/-- a def that calls the lambda that it got -/
def GivesN (X : Cx) (Ng : List Str) (x : Str) (sg : Scope) (g : Addr) (cdg : Value) (bg : List Stmt) (a : Str) (q : Str) (TT : (XK → Hp → VK → Prop) → Hp → VK → Prop) : Prop :=
  ∀ (f c' : Addr) (s : Shared) (H : Hp) (Q : VK) (tl : XK → Hp → VK → Prop),
    (∀ (W : WX) (pn : List (Addr × Obj)) (xe : Value → Shared → Prop) (E : XK) (p1 p2 : Pos), L2N.Takes ((cxOf C8.CX0 X.prog X.w X.K X.mg X.base Ng x sg g cdg X.A X.stack s H C8.E0).tr pn xe) W → (∀ cls d σ' H', E cls d H' → W cls d σ' H') →
      PE ((cxOf C8.CX0 X.prog X.w X.K X.mg X.base Ng x sg g cdg X.A X.stack s H C8.E0).tr pn xe) (.Call (.Name a p1) [] [] p2) (fun σZ HZ Q => σZ[0]? = some (some (.ref f)) ∧ HZ c' = some (CodeO c' q) ∧ tl E HZ Q)) →
    H c' = some (CodeO c' q) → TT tl H Q →
    ∃ t, PSs (cxOf C8.CX0 X.prog X.w X.K X.mg X.base Ng x sg g cdg X.A X.stack s H C8.E0).nox bg t ∧ t { nx := fun _ H' => Q .non H', rt := Q } (L2.start Ng [.ref f]) H
def tLamN (T : List (Addr × Str)) (P : Addr) (TT : (XK → Hp → VK → Prop) → Hp → VK → Prop) (t : XK → TE) : TE := fun σ H Q => Tabs T H ∧ ∀ H1, ExtP P H H1 → Tabs T H1 → TT (fun E H' Q' => t E σ H' Q') H1 Q
section
variable {X : Cx}
/-- x(lambda: body), errors with no context -/
theorem pe_lamcallN {T : List (Addr × Str)} {TT : (XK → Hp → VK → Prop) → Hp → VK → Prop} {x a : Str} {g c P : Addr} {k : Nat} {pg : Arguments} {bg : List Stmt} {sg : Scope} {dV kV doc pm cdv ct oc : Value} {an od : Option Addr} {osl : Array (Option Value)} {Ng : List Str}
    {params : Arguments} {body : Expr} {scope : Scope} {t : XK → TE} {p lpos pos : Pos} (hg : Gl X x) (hm : X.mg x = some (.ref g)) (hk : PySem.W.keepIn X.K (.ref g) = true)
    (lk : X.K.lookup g = some ⟨oc, od, .func (PySem.W.fnOf x x pg bg sg dV kV doc pm an cdv ct), osl⟩) (hcg : PySem.W.codeIn X.K cdv x = true) (hb : L2.Binds X.K (PySem.W.fnOf x x pg bg sg dV kV doc pm an cdv ct) [a] []) (Sg : FnScope Ng [a] sg) (hNg : Ng[0]? = some a) (hva : Vis sg a)
    (hG : GivesN X Ng x sg g cdv bg a (X.env.qual ++ "<lambda>") TT)
    (TB : TabB X.base X.mg c P) (hcode : X.env.code = .ref c) (hmT : (P, X.env.qual ++ "<lambda>") ∈ T) (hu : ∀ p ∈ T, p.1 = P → p.2 = X.env.qual ++ "<lambda>") (hr : Room (k + 2) X.A) (L : LamS X.env.scope scope) (hdef : defaultsOf params X.env = ([], []))
    (hbind : ∀ (q : Str) (cl : List (Str × Addr)) (pm cv ctv : Value), bindArgs (PySem.W.kla_fn "<lambda>" q params body scope cl pm cv ctv) ⟨[], []⟩ = pure [])
    (hbody : ∀ (A : Around) (outer : List Env) (s : Shared) (H : Hp) (E : XK) (f c' : Addr), Room k (A.deeper (lamEnv X scope s.heap.objs.size f c')) → PE (lamCxN X A outer s H E scope f c') body (t E))
    (hdb : (x == ("__debug__" : Str)) = false := by decide) (hd : (a == ("__debug__" : Str)) = false := by decide) (hcd : (a == ("__classdict__" : Str)) = false := by decide) :
    PE X (.Call (.Name x p) [.Lambda params body scope lpos] [] pos) (tLamN T P TT t) := by
  refine ⟨fun pins s σ H Q I h => ?_⟩
  obtain ⟨hT, h⟩ := h
  refine wpAny_Call_Name_kw (ld_glob I hg hm ?_ hdb)
  refine PySem.W.callWith_K (h₀ := X.base) I.ok.mod.kin hk ?_ (by rfl) (by rfl)
  show wpAny _ _ (spliced ((false, eval (.Lambda params body scope lpos) X.env) :: backTo pos (starEach [] X.env))) _ _ s
  refine Calls.spliced_cons (lam_mk I TB hcode hmT hu hT hdef (L.has I.ok) fun f c' pm' ctv H1 s' I1 eN T1 hf hfn hfr hco => ?_)
  refine Calls.spliced_nil ⟨I1.kIn, ?_⟩
  have rc : codeAny (model X.prog X.w) X.A (.call (.ref g) ⟨[.ref f], []⟩) (CR C8.CX0 X.stack X.prog X.w H1 s' Q C8.E0) s' := by
    refine run_ofS (N := Ng) (ps := [a]) (us := [.ref f]) (vs := [.ref f]) lk hcg Sg hr I1.env0 (hb s' [.ref f] I1.kIn rfl) (.cons rfl .nil) rfl fun hr' => ?_
    obtain ⟨t', ht', hq'⟩ := hG f c' s' H1 Q (fun E H' Q' => t E σ H' Q') (fun W pn xe E p1 p2 tk hW => pe_actN (i := 0) I1 L hf hfn hfr (hbind _ _ _ _ _) tk hW hr' (fun A outer s H hr2 => hbody A outer s H E f c' hr2) hNg hva hd hcd) hco (h H1 eN T1)
    exact ⟨t', ht'.nox, hq'⟩
  refine wpAny_call (codeAny_mono rc fun r s2 hq => ?_)
  cases r with
  | error e => exact (show False from hq).elim
  | ok fl =>
    cases fl with
    | ret u => exact I1.after hq
    | next => exact False.elim hq
    | brk => exact False.elim hq
    | cont => exact False.elim hq
end
end HOT

namespace HOT
open PySem PySem.Spec PyProof.Rows L2 L2H HotX
/-! ### (a, b) = a tuple, while an error is handled -/
section
variable {prog : Program} {w : World} {A : Around} {E : Value → Shared → Prop} {s : Shared}
theorem tendH {it t x1 : Addr} {i : Nat} {items : Array Value} {Q : Option Value → Shared → Prop} (hot : HotAt A x1 s.heap) (hne : x1 ≠ it) (hit : IsTupIter s.heap it t i) (ht : IsTup s.heap t items) (hx : items[i]? = none)
    (hQ : ∀ h', Heap.ExtBut it s.heap h' → Q none { s with heap := h' }) : wpAny (model prog w) A (pyNext (.ref it)) Q E s := by
  obtain ⟨o, ho, hc, hd⟩ := id hit
  obtain ⟨ol, hol, _, nl, hdl⟩ := ht
  obtain ⟨hh, o1, vs1, h1, d1, c1⟩ := hot
  unfold pyNext
  refine wpAny_bind (wpAny_attempt (wpAny_callSpecial?_slot (name := Str.ofString "__next__") hit.typeIs slot_tupleiter_next (wpAny_call_entry slot_tupleiter_next hit.typeIs entry_tupleiter_next ?_ (args_tupleiter_next _))))
  show wpAny _ _ (field (.ref it) 0 >>= _) _ _ s
  refine wpAny_bind (wpAny_field ho hd (x := .ref t) rfl ?_)
  show wpAny _ _ (if (Value.ref t == Value.none) = true then _ else _) _ _ s
  rw [if_neg (show ¬ ((Value.ref t == Value.none) = true) from Bool.false_ne_true)]
  show wpAny _ _ (field (.ref it) 1 >>= _) _ _ s
  refine wpAny_bind (wpAny_field ho hd (x := .int i 0) rfl ?_)
  show wpAny _ _ (seqItems? (.ref t) >>= _) _ _ s
  refine wpAny_bind (wpAny_seqItems hol hdl ?_)
  simp only [Int.toNat_natCast, hx]
  refine wpAny_bind (wpAny_rule (wpAny_bind (wpAny_setField ho hd (by simp) ?_)))
  show wpAny _ _ (newExc (.type "StopIteration") [] >>= _) _ _ _
  refine wpAny_bind ?_
  simp only [newExc, newTuple]
  refine wpAny_bind (wpAny_newObj_type ?_ (by size_fits))
  refine wpAny_bind (m := firstArgMember _ _) (wpAny_of_eq (a := Value.none) (by first | rfl | (simp only [firstArgMember]; rfl)) ?_)
  refine wpAny_newObj_type ?_ (by size_fits)
  have g1 : (s.heap.update it (Obj.mapFields (·.setIfInBounds 0 .none))).get? x1 = some o1 := by rw [Heap.get?_update_other _ _ (Ne.symm hne)]; exact h1
  refine raiseNew_hot ⟨hh, o1, vs1, Heap.get?_push_of_some _ (Heap.get?_push_of_some _ g1), d1, c1⟩ (Nat.ne_of_lt (Heap.lt_size (Heap.get?_push_of_some _ g1))) (Heap.get?_push_size _ rfl) rfl (by first | (simp; done) | (simp; omega) | (simp only [Array.size_append]; simp; omega)) ?_
  refine wpAny_bind (wpAny_isInstance (T := "StopIteration") (b := true) ⟨_, Heap.get?_update_self _ (Heap.get?_push_size _ rfl) rfl, rfl⟩ isSubtype_stop ?_)
  refine wpAny_pure (hQ _ fun b ob nb e => ?_)
  have e1 : (s.heap.update it (Obj.mapFields (·.setIfInBounds 0 .none))).get? b = some ob := by rw [Heap.get?_update_other _ _ (Ne.symm nb)]; exact e
  rw [Heap.get?_update_other _ _ (Nat.ne_of_gt (Heap.lt_size (Heap.get?_push_of_some _ e1)))]
  exact Heap.get?_push_of_some _ (Heap.get?_push_of_some _ e1)
theorem tassH {env : Env} {elts : List Expr} {k : Nat} {pos : Pos} {t x1 : Addr} {items : Array Value} {Q : Unit → Shared → Prop} (hot : HotAt A x1 s.heap) (ht : IsTup s.heap t items)
    (hn : (assignEach elts env).length = items.size) (hstar : (assignEach elts env).findIdx? (·.1) = none)
    (h : ∀ h', Heap.ExtBut s.heap.objs.size s.heap h' → wpAny (model prog w) A (assignInOrder ((assignEach elts env).map (·.2)) items.toList) Q E { s with heap := h' }) :
    wpAny (model prog w) A (assign (.Tuple elts k pos) env (.ref t)) Q E s := by
  rw [assign_Tuple]
  refine wpAny_bind (wpAny_standAt ?_)
  unfold unpack
  rw [hn, hstar]
  refine wpAny_bind (wpAny_holding ?_)
  have hlt : t ≠ s.heap.objs.size := by obtain ⟨o, ho, _⟩ := ht; exact Nat.ne_of_lt (Heap.lt_size ho)
  obtain ⟨hh, o1, vs1, h1, d1, c1⟩ := hot
  have nx : x1 ≠ s.heap.objs.size := Nat.ne_of_lt (Heap.lt_size h1)
  unfold unpackItems
  refine wpAny_bind ?_
  unfold notIterableAtAll
  refine wpAny_bind (wpAny_specialOf ht.typeIs slot_tuple_iter.lookup ?_)
  refine wpAny_pure ?_
  simp only [Bool.false_eq_true, if_false]
  refine wpAny_bind (wpAny_holding (iter_tuple ht ?_))
  refine wpAny_bind (wpAny_holding (draw_tuple hlt items.size 0 _ _ ⟨_, Heap.get?_push_size _ rfl, rfl, rfl⟩ (ht.push _) (by omega) fun h₁ hit₁ hs₁ => ?_))
  have hall : List.take items.size (List.drop 0 items.toList) = items.toList := by
    rw [List.drop_zero]; exact List.take_of_length_le (by simp)
  rw [hall]
  rw [if_neg (by simp)]
  have ht₁ : IsTup h₁ t items := (ht.push _).extBut hs₁.extBut hlt
  refine wpAny_bind (wpAny_holding (tendH (x1 := x1) ⟨hh, o1, vs1, hs₁.extBut _ _ nx (Heap.get?_push_of_some _ h1), d1, c1⟩ nx hit₁ ht₁ (by simp) fun h₂ he₂ => ?_))
  simp only [Option.isSome_none, Bool.false_eq_true, if_false]
  exact wpAny_pure (h h₂ fun b o hb e => he₂ b o hb (hs₁.extBut b o hb (Heap.get?_push_of_some _ e)))
end
theorem pg_tupH {X : Cx} {es : List Expr} {k : Nat} {t : TGs} {n : Nat} {pos : Pos} (hc : HotC X) (h : PGs X es t)
    (hn : (assignEach es X.env).length = n := by rfl) (hst : (assignEach es X.env).findIdx? (·.1) = none := by rfl) : PG X (.Tuple es k pos) (gTup X.K n t) := by
  refine ⟨fun pins s σ H v u Q I r hw => ?_⟩
  obtain ⟨a, xs, e1, hq, hl, hw⟩ := hw
  subst e1
  cases r
  obtain ⟨its, rv, ht, hz⟩ := I.tuple hq
  obtain ⟨x1, hot⟩ := hc.at I
  refine tassH hot ht (by simp [hn, ← hl, rv.length]) hst fun h' hx => ?_
  have I1 : Inv X pins σ H { s with heap := h' } := I.kept (t' := s.toks) fun b o e => hx b o (Nat.ne_of_lt (Heap.lt_size e)) e
  exact h.run pins _ σ H xs _ Q I1 (by simpa using rv) hw
/-! ### a def that is handed the handled error -/
structure FnHp (P : Program) (w : World) (K : PySem.W.Frag) (mg : Str → Option Value) (base : Heap) (CX : CXT) (k : Nat) (f : Addr) (fd : FuncData) (ps : List Str) (sp : Addr × Obj → Sp) : Prop where
  len : ∀ p vs H Q E, sp p vs H Q E → vs.length = ps.length
  run : ∀ (A : Around) (outer : List Env) (s : Shared) (H : Hp) (args : Args) (us : List Value) (vs : List V) (Q : VK) (E : XK) (p : Addr × Obj), RoomH k A → Hot1 A p → PinOk outer H s p → Env0 P w K mg base A outer s H → BindsTo s fd args (ps.zip us) → Vals vs us → sp p vs H Q E →
    codeAny (model P w) A (.call (.ref f) args) (CR CX outer P w H s Q E) s
theorem fn_ofHp {CX : CXT} {P : Program} {w : World} {K : PySem.W.Frag} {mg : Str → Option Value} {base : Heap} {k : Nat} {f : Addr} {name qual : Str} {params : Arguments} {body : List Stmt} {scope : Scope} {dV kV doc pm cdv ct oc : Value} {an od : Option Addr}
    {osl : Array (Option Value)} {N ps : List Str} {sp : Addr × Obj → Sp} (lk : K.lookup f = some ⟨oc, od, .func (PySem.W.fnOf name qual params body scope dV kV doc pm an cdv ct), osl⟩) (hcd : PySem.W.codeIn K cdv qual = true) (S : FnScope N ps scope)
    (len : ∀ p vs H Q E, sp p vs H Q E → vs.length = ps.length)
    (hbody : ∀ (A : Around) (outer : List Env) (s : Shared) (H : Hp) (vs : List V) (Q : VK) (E : XK) (p : Addr × Obj), Hot1 A p → RoomH k (A.deeper (envOfC qual scope s.heap.objs.size f cdv)) → sp p vs H Q E →
      ∃ t, PSs (cxH CX P w K mg base N qual scope f cdv A outer s H E p) body t ∧ t { nx := fun _ H' => Q .non H', rt := Q } (L2.start N vs) H) :
    FnHp P w K mg base CX (k + 1) f (PySem.W.fnOf name qual params body scope dV kV doc pm an cdv ct) ps sp := by
  refine ⟨len, fun A outer s H args us vs Q E p hr hot hpin e0 hb r hsp => ?_⟩
  have hl := len _ _ _ _ _ hsp
  have KX : K.In s.heap := e0.mod.kin.keeps fun b o e => (e0.bs b o e).1
  have lim : s.heap.NoLimit := e0.mod.nolimit.keeps fun b o e => (e0.bs b o e).1
  have hkind : ∀ y ∈ ps.zip us, scope.names.lookup y.1 = some .local ∨ (scope.names.lookup y.1 = some .cell ∧ ((cellsFrom (s.heap.objs.size + 1) scope.names []).lookup y.1).isSome = true) := fun ⟨n, v⟩ hy => by
    rcases S.par n (List.of_mem_zip hy).1 with q | q
    · exact .inl q
    · exact .inr ⟨q, PySem.W.cellsFrom_some _ _ _ (.inl q)⟩
  refine codeAny_call_function hr.depth (KX _ _ lk) rfl S.co S.gen rfl (PySem.W.codeRec_of KX hcd) (hb _ _ _ _ ?_)
  refine wpAny_newFunctionEnv_cells S.kind hkind fun env he s1 x => ?_
  subst he
  refine ⟨lim.keeps x.toInCall.keep, codeAny_func ?_⟩
  obtain ⟨t, ht, hq⟩ := hbody A outer s H vs Q E p hot (hr.deeper _) hsp
  have I : Inv (cxH CX P w K mg base N qual scope f cdv A outer s H E p) [] (L2.start N vs) H s1 := inv_startH S hpin e0 hl r x
  refine wpAny_mono (ht.run [] s1 (L2.start N vs) H _ I hq) (fun fl s' hs => ?_) fun e s' hs => hs
  have fin : ∀ {σ' : L2.St} {H' : Hp} {v : V} {u : Value}, Inv (cxH CX P w K mg base N qual scope f cdv A outer s H E p) [] σ' H' s' → RelV v u → Q v H' → CE outer P w H s Q u s' :=
    fun {σ' H' v u} J rv q => ⟨v, H', J.os, J.bare, J.base, J.hok, rv, q⟩
  cases fl with
  | ret u =>
    obtain ⟨v, σ', H', J, rv, q⟩ := hs
    exact fin J rv q
  | next =>
    obtain ⟨σ', H', J, q⟩ := hs
    exact fin (v := V.non) (u := Value.none) J rfl q
  | brk =>
    obtain ⟨_, _, _, q⟩ := hs
    exact False.elim q
  | cont =>
    obtain ⟨_, _, _, q⟩ := hs
    exact False.elim q
/-- the error of a clause is handed on: f(e), e in slot i -/
theorem pe_callHp {X : Cx} {CX : CXT} {k i : Nat} {f a : Addr} {fd : FuncData} {ps : List Str} {sp : Addr × Obj → Sp} {E : XK} {x y : Str} {q p1 pos : Pos} {oe : Obj} {cls : Value} {d : Option Addr} {pn : List (Addr × Obj)} (F : FnHp X.prog X.w X.K X.mg X.base CX k f fd ps sp) (hr : RoomH k X.A) (hctx : L2N.Zn cls d oe) (hfl : ∃ vs, oe.data = .fields vs)
    (hg : Gl X x) (hm : X.mg x = some (.ref f)) (hk : PySem.W.keepIn X.K (.ref f) = true) (hb : Binds X.K fd ps []) (hx : Passes CX (X.suite a ((a, oe) :: pn)) E) (ha : PE (X.suite a ((a, oe) :: pn)) (.Name y p1) (tVar i))
    (hdb : (x == ("__debug__" : Str)) = false := by decide) (he : starEach [.Name y p1] X.env = (false, eval (.Name y p1) X.env) :: starEach [] X.env := by rfl) (hpl : (backTo pos (starEach [] X.env)).any (·.1) = false := by rfl) :
    PE (X.suite a ((a, oe) :: pn)) (.Call (.Name x q) [.Name y p1] [] pos) (fun σ H Q => tCons (tVar i) tNil σ H fun vs H1 => sp (a, oe) vs H1 Q E) := by
  refine ⟨fun pins s σ H Q I h => ?_⟩
  refine wpAny_Call_Name_kw (ld_glob (X := X.suite a ((a, oe) :: pn)) I hg hm ?_ hdb)
  have hA : PA (X.suite a ((a, oe) :: pn)) [.Name y p1] (tCons (tVar i) tNil) := pa_cons ha pa_nil he
  refine PySem.W.callWith_K (h₀ := X.base) I.ok.mod.kin hk (thn (hA.run pos pins s σ H _ I h) fun us s1 ⟨vs, H1, I1, r, q⟩ => ⟨I1.kIn, ?_⟩) he hpl
  obtain ⟨vs0, hv0⟩ := hfl
  have hot : Hot1 (X.suite a ((a, oe) :: pn)).A (a, oe) := ⟨rfl, vs0, hv0, hctx.2.2 vs0 hv0⟩
  have hl : us.length = ps.length := by rw [← r.length]; exact F.len _ _ _ _ _ q
  have b := hb s1 us I1.kIn (by rw [List.append_nil]; exact hl)
  rw [List.append_nil] at b
  have P1 := I1.pin (a, oe) (List.mem_append_left _ List.mem_cons_self)
  have hpin : PinOk (X.suite a ((a, oe) :: pn)).stack H1 s1 (a, oe) := ⟨P1.1, P1.2.1, fun hm => (List.mem_cons.mp (I1.stkSub a hm)).elim P1.2.2.1 P1.2.2.2.1, P1.2.2.2.2⟩
  refine wpAny_call (codeAny_mono (F.run _ _ s1 H1 ⟨us, []⟩ us vs Q E (a, oe) (show RoomH k (X.A.mark (some (.ref a))) from ⟨hr.dp, hr.un⟩) hot hpin I1.env0 b r q) fun rr s' hq => ?_)
  cases rr with
  | error e => exact hx pins σ H1 s1 e s' I1 hq
  | ok fl =>
    cases fl with
    | ret u => exact I1.after hq
    | next => exact False.elim hq
    | brk => exact False.elim hq
    | cont => exact False.elim hq
end HOT

namespace HOT
open PySem PySem.Spec PySem.Calls PyProof.Rows PySem.W
/-! ### isinstance of the handled error, with or without a dict -/
section
variable {prog : Program} {w : World} {A : Around} {E : Value → Shared → Prop} {s : Shared} {K : Frag} {x D : Addr} {ox : Obj}
theorem findObj_dataG {od : Option Obj} {C : Addr} {name : Str} {a g : Value} (hc : (clsIn K C).isSome = true) (ha : findIn K (.ref C) name = some (some a)) (hg : specialIn K a "__get__" = some (some g)) (ht : takesIn K a = some true) : findObj K C od name = some (.bind g a) := by
  obtain ⟨cd, hc⟩ := Option.isSome_iff_exists.mp hc
  unfold findObj
  rw [hc, Option.bind_some, ha, Option.bind_some]
  simp [hg, ht]
theorem kin_classG {od : Option Obj} {Q : Option Value → Shared → Prop} (hga : findIn K (.ref D) "__getattribute__" = some (some (.builtin "BaseException.__getattribute__"))) (hgt : findIn K (.ref D) "__getattr__" = some none) (hsub : subIn K (.ref D) (.type "BaseException") = some true)
    (hdct : hasDictIn K D = true) (ha : findIn K (.ref D) "__class__" = some (some (.builtin "object.__class__")))
    (hn : specialIn K (.builtin "object.__class__") "__get__" = some (some (.builtin "getset_descriptor.__get__"))) (htk : takesIn K (.builtin "object.__class__") = some true) (hm : mroIn K D (.type "object") = some true)
    (X : K.In s.heap) (I : InstAt s.heap x ox D od) (h : Q (some (.ref D)) { s with toks := s.toks + 1 }) : wpAny (model prog w) A (getAttr? (.ref x) "__class__") Q E s := by
  have hf : findObj K D od "__class__" = some (.bind (.builtin "getset_descriptor.__get__") (.builtin "object.__class__")) := findObj_dataG (by obtain ⟨cd, hc, _⟩ := any_some hdct; rw [hc]; rfl) ha hn htk
  obtain ⟨hp, g, d, t, os⟩ := s
  have L0 := I.type (M := model prog w)
  have L1 := looks_findIn (M := model prog w) X hga
  have L2 := looks_findIn (M := model prog w) X hgt
  have L3 := looks_find (M := model prog w) X I hf
  have sub : Looks (model prog w) hp (isInstance (.ref x) (.type "BaseException")) true := L0.andThen (looks_subIn X hsub)
  have hx0 : (false && onTheHeap (Value.builtin "BaseException.__getattribute__")) = false := rfl
  have hx2 : (Value.builtin "BaseException.__getattribute__" == Value.builtin "object.__getattribute__") = false := by decide +kernel
  have hx1 : (onTheHeap (Value.ref D) && Value.builtin "BaseException.__getattribute__" == Value.builtin "object.__getattribute__") = false := by rw [hx2]; rfl
  unfold getAttr? getAttrBy? getAttrBy
  refine wpAny_bind (wpAny_mkText (wpAny_bind (wpAny_attempt (wpAny_holding (wpAny_bind (L0.at (wpAny_bind (L1.at ?_))))))))
  show wpAny _ _ (if (onTheHeap (Value.ref D) && Value.builtin "BaseException.__getattribute__" == Value.builtin "object.__getattribute__") = true then _ else _) _ _ _
  rw [hx1, if_neg Bool.false_ne_true]
  unfold getAttrByItsOwn hookBefore
  refine wpAny_bind ?_
  rw [if_pos (show onTheHeap (Value.ref D) = true from rfl)]
  refine L2.at ?_
  refine wpAny_bind (wpAny_attempt (wpAny_holding ?_))
  unfold callGetattribute
  rw [hx0, if_neg Bool.false_ne_true]
  unfold boundAndCalled
  rw [PySem.F.excAttr_ValueError.ga.bind (.ref x)]
  refine wpAny_bind (wpAny_pure ?_)
  show wpAny _ _ (call (.builtin "BaseException.__getattribute__") [.ref x, .str "__class__" t]) _ _ _
  refine wpAny_call (codeAny_call_builtin PySem.F.excAttr_ValueError.ga.plain PySem.F.entry_bexc_ga ?_)
  refine @check_slot (model prog w) _ _ ⟨hp, g, d, t + 1, os⟩ "BaseException.__getattribute__" "BaseException" "__getattribute__" (.ref x) [.str "__class__" t] [] _ (by decide +kernel) (by decide +kernel) sub (PySem.F.args_bexc_ga (.ref x) (.str "__class__" t)) ?_
  unfold Builtin.«object.__getattribute__»
  refine wpAny_bind (wpAny_of_eq (a := ((Value.ref x : Value), [Value.str "__class__" t])) (by first | rfl | (simp only [slotArgs]; rfl)) ?_)
  refine wpAny_bind (wpAny_pure (wpAny_bind (L0.at (wpAny_bind (L3.at ?_)))))
  show wpAny _ _ (holding [Value.builtin "object.__class__"] (call (.builtin "getset_descriptor.__get__") [.builtin "object.__class__", .ref x, .ref D]) >>= ret) _ _ _
  refine wpAny_bind (wpAny_holding (wpAny_call (class_get (s := ⟨hp, g, d, t + 1, os⟩) (ox := ox) (od := od) X I hm ?_)))
  refine wpAny_pure ?_
  show wpAny _ _ (handedOut (.ref D)) _ _ _
  rw [handedOut_of (v := .ref D) rfl]
  first
    | exact wpAny_pure (wpAny_pure h)
    | exact wpAny_pure h
    | exact wpAny_pure (wpAny_bind (wpAny_pure (wpAny_pure h)))
theorem kitx_excG {od : Option Obj} (hga : findIn K (.ref D) "__getattribute__" = some (some (.builtin "BaseException.__getattribute__"))) (hgt : findIn K (.ref D) "__getattr__" = some none) (hsub : subIn K (.ref D) (.type "BaseException") = some true) (hdct : hasDictIn K D = true) (ha : findIn K (.ref D) "__class__" = some (some (.builtin "object.__class__")))
    (hn : specialIn K (.builtin "object.__class__") "__get__" = some (some (.builtin "getset_descriptor.__get__"))) (htk : takesIn K (.builtin "object.__class__") = some true) (hm : mroIn K D (.type "object") = some true) :
    KitX K (.ref x) (.ref D) (fun h => InstAt h x ox D od) where
  ty := fun _ _ _ I => I.type
  it := fun _ _ X _ => by
    obtain ⟨cdD, hcD, _⟩ := any_some hdct
    unfold clsIn at hcD
    split at hcD
    · rename_i c' d' cd' sl' ho
      intro A' Q' E' s' k q
      unfold isType loadHead
      exact wpAny_bind (wpAny_loadPart (k _ _ (X _ _ ho)) (wpAny_pure q))
    · cases hcD
  ne := fun h tp dd its n sl X htp => by
    obtain ⟨cdD, hcD, _⟩ := any_some hdct
    refine Bool.eq_false_iff.mpr fun q => ?_
    have e : D = tp := Value.ref.inj (beq_iff_eq.mp q)
    subst e
    unfold clsIn at hcD
    split at hcD
    · rename_i c' d' cd' sl' ho
      have z := (X _ _ ho).symm.trans htp
      cases z
    · cases hcD
  ca := fun X I k => kin_classG hga hgt hsub hdct ha hn htk hm X I k
end
end HOT
namespace DL
open PySem PySem.Spec L2 L2H HOT
/-- what an own error keeps of itself in its dict -/
def DictAt (d : Option Addr) (H : Hp) : Prop := ∀ dd, d = some dd → ∃ fs, H dd = some (.xd fs)
def rIsG (K : PySem.W.Frag) (D a : Addr) (d : Option Addr) : List V → Hp → VK → Prop := fun xs H Q => ∃ (c : V) (cv : Value) (b : Bool), xs = [.ref a, c] ∧ (∀ u, RelV c u → u = cv) ∧ PySem.W.kitOne K (.ref D) cv = some b ∧ DictAt d H ∧ Q (.bl b) H
theorem call_isG {X : Cx} {a D : Addr} {oe : Obj} {d : Option Addr} (T : ExcC X.K D) (hp : (a, oe) ∈ X.pn) (hz : Zc (.ref D) d oe) (hf : ∃ vs, oe.data = .fields vs) : CallR X (.builtin "isinstance") (rIsG X.K D a d) := by
  intro pins s σ H xs us Q I r h
  obtain ⟨c, cv, b, rfl, hcv, e, hd, q⟩ := h
  obtain ⟨u1, u2, rfl, r1, r2⟩ : ∃ u1 u2, us = [u1, u2] ∧ RelV (.ref a) u1 ∧ RelV c u2 := by
    cases r with
    | cons rx rr => cases rr with
      | cons rt rr => cases rr; exact ⟨_, _, rfl, rx, rt⟩
  cases r1
  have ec := hcv _ r2
  subst ec
  obtain ⟨hget, _⟩ := I.pin (a, oe) (List.mem_append_left _ hp)
  obtain ⟨vs, hv⟩ := hf
  have J : ∃ od, PySem.W.InstAt s.heap a oe D od := by
    obtain ⟨oc, od, oda, osl⟩ := oe
    obtain ⟨h1, h2⟩ := hz
    dsimp only at h1 h2 hv
    subst h1 h2 hv
    cases od with
    | none => exact ⟨none, hget, rfl, rfl, trivial⟩
    | some dd =>
      obtain ⟨fs, hx⟩ := hd dd rfl
      have hx : ObjOk X.prog X.w H s.heap dd (.xd fs) := I.hok dd _ hx
      obtain ⟨mA, hns, hr⟩ := hx
      obtain ⟨o, ho, hl⟩ := lookIn_ns hns
      exact ⟨some o, hget, rfl, rfl, ho⟩
  obtain ⟨od, J⟩ := J
  exact PySem.W.kia_one (kitx_excG T.hg T.hk T.hs T.hd T.ha T.hn T.ht T.hm) I.kIn J e (fun z => nomatch z) fun tk => ⟨.bl b, H, I.kept (t' := tk) fun _ _ z => z, rfl, q⟩
/-- the surroundings of an error's dict -/
def excC (d : Option Addr) : DC where
  M := fun _ => False
  F := fun b => d = some b
  J := DictAt d
  mf := fun _ h => h.elim
  js := fun H H' k j dd e => let ⟨fs, h⟩ := j dd e; ⟨fs, k _ _ (.inl e) h⟩
section
variable {Z : DC → Prop} {X : Cx} {E : XK} {e c : Expr} {p p1 pos : Pos} {y : Str} {a D : Addr} {d : Option Addr} {oe : Obj}
@[simp] def wIsE (i : Nat) (a : Addr) (b : Bool) : DW := fun ρ Q _ => ρ[i]? = some (.fn a) ∧ Q (.bool b)
/-- isinstance(e, C), C a class that the module names (cV its value) -/
theorem pd_isE (i : Nat) {cV : V} {cv : Value} {b : Bool} (T : ExcC X.K D) (hp : (a, oe) ∈ X.pn) (hz : Zc (.ref D) d oe) (hf : ∃ vs, oe.data = .fields vs) (hZ : ∀ C, Z C → (excC d).Sub C) (hcv : ∀ u, RelV cV u → u = cv) (hb : PySem.W.kitOne X.K (.ref D) cv = some b)
    (he : PE X e (tVar i)) (hc : PE X c (tC cV)) (hm : X.mg "isinstance" = none) (hv : bootBuiltins "isinstance" = some (.builtin "isinstance") := by decide +kernel) (hg : Gl X "isinstance" := by rfl)
    (h1 : starEach [e, c] X.env = (false, eval e X.env) :: starEach [c] X.env := by rfl) (h2 : starEach [c] X.env = (false, eval c X.env) :: starEach [] X.env := by rfl) (hpl : (backTo pos (starEach [c] X.env)).any (·.1) = false := by rfl) :
    PD Z X E (.Call (.Name "isinstance" p) [e, c] [] pos) (wIsE i a b) := by
  refine ⟨PEimp (pe_callB (call_isG T hp hz hf) hg hm hv (pa_cons he (pa_cons hc pa_nil h2) h1) (by decide) (by decide) h1 hpl) fun σ H Q ⟨C, H0, G0, G, ρ, S, e1, q⟩ => ?_, fun ρ Q Q' Y Y' k ky ⟨e1, q⟩ => ⟨e1, k _ q⟩⟩
  obtain ⟨o, e2, e3⟩ := S.sl i _ e1
  have e3 : o = some (.ref a) := e3
  subst e3
  exact ⟨_, e2, cV, cv, b, rfl, hcv, hb, (hZ C S.z).j H S.j, q.now S.sub S.j (.bl b)⟩
end
/-! ### a comprehension over zip of two lists while an error is handled -/
structure PDIH (Z : DC → Prop) (X : Cx) (E : XK) (tg iter : Expr) (w : DAW) : Prop where
  pi : PIH X tg iter (tWI Z X E w)
  mono : MoA w
def zipD : List PyData → List PyData → List PyData
  | d :: ds, e :: es => .tuple [d, e] :: zipD ds es
  | _, _ => []
theorem zipD_get : ∀ (ds es : List PyData) (i : Nat) {d : PyData}, (zipD ds es)[i]? = some d → ∃ x y, ds[i]? = some x ∧ es[i]? = some y ∧ d = .tuple [x, y]
  | [], _, i, d, h => by simp [zipD] at h
  | _ :: _, [], i, d, h => by simp [zipD] at h
  | x :: ds, y :: es, 0, d, h => by
    simp [zipD] at h
    exact ⟨x, y, rfl, rfl, h.symm⟩
  | x :: ds, y :: es, i + 1, d, h => by
    simp only [zipD, List.getElem?_cons_succ] at h
    simpa using zipD_get ds es i h
theorem zipD_length : ∀ (ds es : List PyData), ds.length = es.length → (zipD ds es).length = ds.length
  | [], [], _ => rfl
  | [], _ :: _, h => by simp at h
  | _ :: _, [], h => by simp at h
  | _ :: ds, _ :: es, h => by
    simp only [zipD, List.length_cons] at h ⊢
    rw [zipD_length ds es (by omega)]
theorem itd_zipE {K : PySem.W.Frag} {a b : Addr} {vs us : List V} {ds es : List PyData} {G0 : Hp} (h : G0 a = some (.lst vs)) (t : AtAll K G0 vs ds) (h' : G0 b = some (.lst us)) (t' : AtAll K G0 us es) (hl : ds.length = es.length) : ItD K (ItzE K a b) (zipD ds es) G0 := fun i G H s1 s2 => by
  have hq : SqL K H a vs := SqL.of (s2 _ _ (s1 _ _ h))
  have hq' : SqL K H b us := SqL.of (s2 _ _ (s1 _ _ h'))
  refine ⟨fun d e => ?_, fun hle => ⟨vs, us, hq, hq', by rw [t.length]; rw [zipD_length _ _ hl] at hle; exact hle⟩⟩
  obtain ⟨x, y, ex, ey, rfl⟩ := zipD_get ds es i e
  obtain ⟨v, e1, av⟩ := t.get' ex
  obtain ⟨u, e2, au⟩ := t'.get' ey
  refine ⟨⟨vs, us, v, u, hq, hq', e1, e2⟩, fun z H' hz => ?_⟩
  obtain ⟨T, v', u', rfl, hT, rfl, hv, hu⟩ := hz
  have f1 := hv vs hq
  rw [e1] at f1
  cases f1
  have f2 := hu us hq'
  rw [e2] at f2
  cases f2
  have x1 : Ext (fun _ => False) G H (upd G T (.tup [v, u])) (upd H T (.tup [v, u])) := Ext.new s2 hT
  exact ⟨_, x1, .tup (SqT.of upd_same) (.cons ((av.same s1).same x1.gs) (.cons ((au.same s1).same x1.gs) .nil))⟩
section
variable {Z : DC → Prop} {X : Cx} {E : XK} {e e2 : Expr} {pos p : Pos} {w w' : DW}
@[simp] def wZip (w w' : DW) : DAW := fun ρ Q Y => w ρ (fun d => w' ρ (fun d' => ∃ ds es, d = .list ds ∧ d' = .list es ∧ ds.length = es.length ∧ Q (zipD ds es)) Y) Y
theorem pdi_zipH {elts : List Expr} {kk : Nat} {tpos : Pos} (hm : X.mg "zip" = none) (h : PD Z X E e w) (h' : PD Z X E e2 w') (hg : Gl X "zip" := by rfl) (hs : starEach [e, e2] X.env = (false, eval e X.env) :: starEach [e2] X.env := by rfl) (hs2 : starEach [e2] X.env = (false, eval e2 X.env) :: starEach [] X.env := by rfl)
    (hpl : (backTo pos (starEach [e2] X.env)).any (·.1) = false := by rfl) : PDIH Z X E (.Tuple elts kk tpos) (.Call (.Name "zip" p) [e, e2] [] pos) (wZip w w') := by
  have pi := pi_zipH (p := p) (pos := pos) (tpos := tpos) (elts := elts) (kk := kk) hg hm (pa_cons h.pe (pa_cons h'.pe pa_nil hs2) hs) hs hpl
  refine ⟨⟨fun pins s σ H R I q => pi.run pins s σ H R I ?_⟩, fun ρ Q Q' Y Y' k ky q => h.mono _ _ _ _ _ (fun d q => h'.mono _ _ _ _ _ (fun d' ⟨ds, es, e1, e2, hl, q⟩ => ⟨ds, es, e1, e2, hl, k _ q⟩) ky q) ky q⟩
  obtain ⟨C, H0, G0, G, ρ, S, q⟩ := q
  refine ⟨C, H0, G0, G, ρ, S, h.mono _ _ _ _ _ (fun d q => ?_) idY q⟩
  intro v H1 G1 x1 j1 a1
  refine ⟨C, H0, G0, G1, ρ, S.step x1 j1, h'.mono _ _ _ _ _ (fun d' q => ?_) (RX.step x1) q⟩
  obtain ⟨ds, es, rfl, rfl, hl, q⟩ := q
  intro u H2 G2 x2 j2 a2
  have a1' := a1.same x2.gs
  cases a1' with
  | lst c1 t1 => cases a2 with
    | lst c2 t2 => exact ⟨_, _, _, _, rfl, SqL.of (x2.sub _ _ c1), SqL.of (x2.sub _ _ c2), q _ H2 G2 (x1.trans x2) j2 (itd_zipE c1 t1 c2 t2 hl)⟩
end
theorem pgd_tupH {Z : DC → Prop} {X : Cx} {pos : Pos} {es : List Expr} {k : Nat} {is : List Nat} (hc : HotC X) (h : PGs X es (gs is)) (hn : (assignEach es X.env).length = is.length := by rfl) (hst : (assignEach es X.env).findIdx? (·.1) = none := by rfl) : PG X (.Tuple es k pos) (tG Z X.K (.tup is)) := by
  refine PGimp (pg_tupH hc h hn hst) fun v σ H Q ⟨C, H0, G0, G, ρ, d, S, a, q⟩ => ?_
  unfold setT at q
  split at q
  · rename_i z; cases z
  · rename_i is' ds z
    cases z
    cases a with
    | tup a1 t => exact ⟨_, _, rfl, SqT.same S.sub a1, by rw [t.length]; exact q.1, gs_go _ _ _ _ _ S t q.1 q.2⟩
  · exact q.elim
theorem psf_lcH {Z : DC → Prop} {X : Cx} {E : XK} {wt : DT} {w : DW} {i : Nat} {y : Str} {elt tg iter : Expr} {ifs : List Expr} {scope : Scope} {own : List (Str × Nat)} {pos spos py : Pos} {wi : DAW} {t : Tg} (hc : HotC X) (hN : X.N.Nodup) (hi : PDIH Z X E tg iter wi) (ok : BlkOk X.N X.env.scope scope own)
    (hg : ∀ (s : Shared) (H : Hp) (C : Addr) (cl : List (Str × Addr)) (fp : List Addr), PG (blkH X s H scope (compEnvC scope cl C X.env) fp) tg (tG Z X.K t)) (ht : ∀ (s : Shared) (H : Hp) (C : Addr) (cl : List (Str × Addr)) (fp : List Addr), PDTs Z (blkH X s H scope (compEnvC scope cl C X.env) fp) E0 ifs wt)
    (he : ∀ (s : Shared) (H : Hp) (C : Addr) (cl : List (Str × Addr)) (fp : List Addr), PD Z (blkH X s H scope (compEnvC scope cl C X.env) fp) E0 elt w)
    (hy : X.N[i]? = some y := by rfl) (hyl : X.env.scope.names.lookup y = some .local := by rfl) (hk : X.env.scope.kind = .function := by rfl) (hl : (py.line == pos.line) = true := by rfl) (hsh : (scope.names.any fun (n, k) => n == y && (k == .local || k == .cell)) = false := by decide +kernel)
    (hv : ∀ i ∈ t.slots, i ∈ own.map (·.2) := by decide) (hs : ∀ x, foldedSetIterable iter X.env x = pure x := by intro _; rfl) :
    PSF Z X E (.Assign [.Name y py] (.ListComp elt [⟨tg, iter, ifs, 0⟩] scope pos) spos) i (wLc t wt w (own.map (·.2)) wi) := by
  have m1 := (he X.s_0 (fun _ => none) 0 [] []).mono
  have m2 := (ht X.s_0 (fun _ => none) 0 [] []).mono
  refine ⟨PSimp (ps_setLcH hc hN hy hyl (sw_true hk hyl hl hsh) hi.pi ok hg (fun s H C cl fp => (ht s H C cl fp).pts) (fun s H C cl fp => (he s H C cl fp).pe) hs) (fun D σ H q => lc_read hi.mono m2 m1 hv σ H _ q), fun ρ Q Q' Y Y' k ky q => ?_⟩
  exact hi.mono _ _ _ _ _ (fun ds q => compW_mono m2 m1 k ds _ q) ky q
end DL

namespace DL
open PySem PySem.Spec L2 L2H HOT LamX
open PyProof.Rows (envOfC)
/-! ### the one word of a refusal -/
def wordsL : List (Str × Str) := [("InvalidRule", "rule"), ("InvalidHistory", "history"), ("InvalidHarm", "harm"), ("InvalidNews", "news"), ("InvalidEvent", "event"), ("InvalidIndex", "index"), ("InvalidPerson", "person"), ("NotNow", "notnow"), ("TooMany", "many"), ("NothingToUndo", "nothing"), ("InvalidText", "text")]
def ExD.nm : ExD → Str
  | .plain nm => nm
  | .field nm _ _ => nm
def wordD (x : ExD) : Option Str := wordsL.lookup x.nm
/-- what the top has written of the own errors -/
structure WordTx (K : PySem.W.Frag) (mg : Str → Option Value) : Prop where
  cls : ∀ nm w, wordsL.lookup nm = some w → ∃ C, mg nm = some (.ref C) ∧ ExcC K C ∧ PySem.W.kitOne K (.ref C) (.type "ValueError") = some true
  one : ∀ nm w nm' w' C C', wordsL.lookup nm = some w → wordsL.lookup nm' = some w' → mg nm = some (.ref C) → mg nm' = some (.ref C') → PySem.W.kitOne K (.ref C) (.ref C') = some (decide (nm = nm'))
  le : ∃ L, mg "ListError" = some (.ref L) ∧ ∀ nm w C, wordsL.lookup nm = some w → mg nm = some (.ref C) → PySem.W.exmOne K (.ref C) (.ref L) = some true
/-- the class's value as the module names it -/
theorem relV_ref {C : Addr} : ∀ u, RelV (V.ref C) u → u = .ref C := fun u h => h
theorem relV_ty {T : String} : ∀ u, RelV (V.ty T) u → u = .type T := fun u h => h
/-- the error nm, its dict at d -/
def ErrAt (mg : Str → Option Value) (cls : Value) (d : Option Addr) (w : Str) (H : Hp) : Prop := ∃ nm D, cls = .ref D ∧ mg nm = some (.ref D) ∧ wordsL.lookup nm = some w ∧ DictAt d H
/-- what _law_word keeps -/
def spWord (K : PySem.W.Frag) (mg : Str → Option Value) : Addr × Obj → Sp := fun p vs H Q _ => ∃ cls d w, vs = [.ref p.1] ∧ L2N.Zn cls d p.2 ∧ (∃ us, p.2.data = .fields us) ∧ ErrAt mg cls d w H ∧ ∀ H', Same H H' → Q (.str w) H'
/-! ### told: try: return a() / except ListError as e: return _law_word(e) -/
def TTold (mg : Str → Option Value) : (XK → Hp → VK → Prop) → Hp → VK → Prop := fun tl H Q => tl (fun cls d H' => ∃ w, ErrAt mg cls d w H' ∧ ∀ H'', Same H' H'' → Q (.str w) H'') H Q
theorem told_givesN {X : Cx} {Ng : List Str} {x a e el q wn : Str} {sg : Scope} {g L : Addr} {cdg : Value} {p1 p2 p3 p4 p5 p6 p7 p8 p9 p10 : Pos} {fw : Addr} {fdw : FuncData} {k i : Nat}
    (hN : Ng.Nodup) (hi : Ng[i]? = some e) (hln : sg.names.lookup e = some .local) (he2 : (e == ("__debug__" : Str)) = false) (he3 : (e == ("__classdict__" : Str)) = false)
    (hge : sg.names.lookup el = some .globalImplicit) (hme : X.mg el = some (.ref L)) (hde : (el == ("__debug__" : Str)) = false) (hL : ∀ nm w C, wordsL.lookup nm = some w → X.mg nm = some (.ref C) → PySem.W.exmOne X.K (.ref C) (.ref L) = some true)
    (Fw : FnHp X.prog X.w X.K X.mg X.base CX0 k fw fdw ["e"] (spWord X.K X.mg)) (hgw : sg.names.lookup wn = some .globalImplicit) (hwd : (wn == ("__debug__" : Str)) = false) (hmw : X.mg wn = some (.ref fw)) (hkw : PySem.W.keepIn X.K (.ref fw) = true) (hbw : Binds X.K fdw ["e"] []) (hr : Room (k + 1) X.A)
    (h0 : ∀ f : Addr, (L2.start Ng [V.ref f])[0]? = some (some (V.ref f))) :
    GivesN X Ng x sg g cdg [.Try [.Return (some (.Call (.Name a p1) [] [] p2)) p3] [.ExceptHandler (some (.Name el p4)) (some e) [.Return (some (.Call (.Name wn p5) [.Name e p6] [] p7)) p8] p9] [] [] p10] a q (TTold X.mg) := by
  intro f c' s H Q tl act hc h
  have hgl : Gl (cxOf C8.CX0 X.prog X.w X.K X.mg X.base Ng x sg g cdg X.A X.stack s H C8.E0).nox el := hge
  refine ⟨_, pss_one (L2N.ps_try_as (X := (cxOf C8.CX0 X.prog X.w X.K X.mg X.base Ng x sg g cdg X.A X.stack s H C8.E0).nox) (i := i) (c := .ref L) (Wout := fun _ _ _ _ => False)
      (tb := fun W D σ H => ∃ Ech : XK, (∀ cls d σ' H', Ech cls d H' → W cls d σ' H') ∧ σ[0]? = some (some (.ref f)) ∧ H c' = some (CodeO c' q) ∧ tl Ech H D.rt)
      (ts := fun a cls d D σ H => (∃ σ0 : L2.St, σ = σ0.set i (some (.ref a))) ∧ ∃ w, ErrAt X.mg cls d w H ∧ ∀ H', Same H H' → D.rt (.str w) H')
      rfl rfl hN hi hln ⟨hgl, hde, .inl hme⟩ ?_ (fun W pn xe tk _ => ?_) (fun a oe cls d pn hz hf => ?_)), ?_⟩
  · intro u s' ⟨_, _, _, _, _, _, _, _, _, _, _, _, _, _, _, _, z⟩
    exact z.elim
  · refine ⟨fun pins s' σ H' D I h' => ?_⟩
    obtain ⟨Ech, hW, h1, h2, h3⟩ := h'
    have hp := act W pn xe Ech p1 p2 tk hW
    have hq := pss_one (ps_ret (pos := p3) hp)
    exact hq.run pins s' σ H' D I ⟨h1, h2, h3⟩
  · have rH : RoomH k (cxOf C8.CX0 X.prog X.w X.K X.mg X.base Ng x sg g cdg X.A X.stack s H C8.E0).nox.A := (roomH_of hr).deeper _
    have hv : PE ((cxOf C8.CX0 X.prog X.w X.K X.mg X.base Ng x sg g cdg X.A X.stack s H C8.E0).nox.suite a ((a, oe) :: pn)) (.Name e p6) (tVar i) := pe_var hi (.inl hln) he2 he3
    refine ⟨fun pins s' σ H' D I ⟨⟨σ0, es⟩, w, h2, h3⟩ => ?_⟩
    have hlen : σ.length = Ng.length := I.len
    have hlt : i < σ0.length := by
      have e1 : σ.length = σ0.length := by rw [es, List.length_set]
      have e2 := (List.getElem?_eq_some_iff.mp hi).1
      omega
    refine (pss_one (ps_ret (pe_callHp (X := (cxOf C8.CX0 X.prog X.w X.K X.mg X.base Ng x sg g cdg X.A X.stack s H C8.E0).nox) (E := C8.E0) Fw rH hz hf hgw hmw hkw hbw passA hv hwd))).run pins s' σ H' D I ?_
    exact ⟨_, by rw [es, List.getElem?_set_self hlt], cls, d, w, rfl, hz, hf, h2, h3⟩
  · refine ⟨fun cls d H' => ∃ w, ErrAt X.mg cls d w H' ∧ ∀ H'', Same H' H'' → Q (.str w) H'', fun cls d σ' H' ⟨w, e1, e2⟩ => ?_, h0 f, hc, h⟩
    obtain ⟨nm, D, rfl, hm, hw, hd⟩ := id e1
    exact ⟨true, hL nm w D hw hm, fun _ a _ => ⟨⟨σ', rfl⟩, w, e1, e2⟩, fun z => nomatch z⟩
end DL

namespace DL
open PySem PySem.Spec L2 L2H HOT LamX
open PyProof.Rows (envOfC)
/-! ### tables of code objects around -/
theorem Tabs.js {T : List (Addr × Str)} {H H' : Hp} (k : ∀ b o, (b ∈ T.map (·.1) ∨ ∃ φ, o = HO.ext φ) → H b = some o → H' b = some o) (t : Tabs T H) : Tabs T H' := fun p hp => by
  obtain ⟨ps, h1, h2, h3⟩ := t p hp
  refine ⟨ps, k _ _ (.inl (List.mem_map_of_mem hp)) h1, h2, fun pos cv hc => ?_⟩
  obtain ⟨c, e1, e2⟩ := h3 pos cv hc
  exact ⟨c, e1, k _ _ (.inr ⟨_, rfl⟩) e2⟩
def tabC (T : List (Addr × Str)) : DC where
  M := fun b => b ∈ T.map (·.1)
  F := fun b => b ∈ T.map (·.1)
  J := Tabs T
  mf := fun _ h => h
  js := fun H H' k t => Tabs.js k t
def tpC (t s : Addr) (ns : List Int) (T : List (Addr × Str)) : DC where
  M := fun b => b = t ∨ b ∈ T.map (·.1)
  F := fun b => (b = t ∨ b = s) ∨ b ∈ T.map (·.1)
  J := fun H => (tapeC t s ns).J H ∧ Tabs T H
  mf := fun b h => h.elim (fun e => .inl (.inl e)) .inr
  js := fun H H' k ⟨h1, h2⟩ => ⟨(tapeC t s ns).js H H' (fun b o f => k b o (f.elim (fun e => .inl (.inl e)) .inr)) h1, Tabs.js (fun b o f => k b o (f.elim (fun e => .inl (.inr e)) .inr)) h2⟩
theorem tab_not {T : List (Addr × Str)} {H : Hp} {b : Addr} {o : HO} (t : Tabs T H) (e : H b = some o) (n : ∀ ps, o ≠ .tbl ps) : b ∉ T.map (·.1) := fun hm => by
  obtain ⟨p, hp, rfl⟩ := List.mem_map.mp hm
  obtain ⟨ps, h1, _⟩ := t p hp
  rw [h1] at e
  exact n ps (Option.some.inj e).symm
theorem tape_sub (t s : Addr) (ns : List Int) (T : List (Addr × Str)) : (tapeC t s ns).Sub (tpC t s ns T) where
  m := fun _ h => .inl h
  j := fun _ h => h.1
  back := fun H H' k ⟨⟨i, c, h0, h1, h2, h3⟩, h4⟩ j => by
    refine ⟨j, fun p hp => ?_⟩
    obtain ⟨ps, e1, e2, e3⟩ := h4 p hp
    refine ⟨ps, k _ _ (fun z => ?_) e1, e2, fun pos cv hc => ?_⟩
    · have z : p.1 = t := z
      rw [z, h2] at e1; cases e1
    · obtain ⟨c', f1, f2⟩ := e3 pos cv hc
      refine ⟨c', f1, k _ _ (fun z => ?_) f2⟩
      have z : c' = t := z
      rw [z, h2] at f2; cases f2
theorem tab_sub (t s : Addr) (ns : List Int) (T : List (Addr × Str)) : (tabC T).Sub (tpC t s ns T) where
  m := fun _ h => .inr h
  j := fun _ h => h.2
  back := fun H H' k ⟨⟨i, c, h0, h1, h2, h3⟩, h4⟩ j =>
    ⟨⟨i, c, h0, h1, k _ _ (tab_not h4 h2 fun ps z => by cases z) h2, k _ _ (tab_not h4 h3 fun ps z => by cases z) h3⟩, j⟩
/-! ### a def in given surroundings -/
def spC (C : DC) (K : PySem.W.Frag) (mg : Str → Option Value) (c : FNC) : Sp := fun vs H Q E => ∃ G ds, Same G H ∧ (∀ b, C.M b → G b = none) ∧ (∀ b, C.F b → H b ≠ none) ∧ C.J H ∧ AtAll K G vs ds ∧ c ds (RQ C K G H Q) (RX K mg C G H E)
theorem ds_startC {Z : DC → Prop} {C : DC} {K : PySem.W.Frag} {N : List Str} {G H : Hp} {vs : List V} {ds : List PyData} (s : Same G H) (hm : ∀ b, C.M b → G b = none) (hf : ∀ b, C.F b → H b ≠ none) (j : C.J H) (a : AtAll K G vs ds) (hZ : Z C) : DS Z C K H G G H (L2.start N vs) (startD N ds) := by
  have hl := a.length
  refine ⟨hZ, Ext.refl s, hf, hm, j, ?_, ?_, fun i j xs ys b n e1 => ?_⟩
  · unfold startD L2.start; simp [hl]
  · unfold startD L2.start; rw [hl]; exact start_sl a
  · exact (no_ml e1).elim
/-- a def whose code object is known -/
structure FunC (K : PySem.W.Frag) (x qual : Str) (st : Stmt) (f : Addr) (fd : FuncData) (c : Addr) : Prop where
  ex : ∃ (oc : Value) (od : Option Addr) (kV doc pm : Value) (an : Option Addr) (ct : Value) (osl : Array (Option Value)),
    fd = PySem.W.fnOf x qual (defArgs st) (defBody st) (defScope st) .none kV doc pm an (.ref c) ct ∧ K.lookup f = some ⟨oc, od, .func fd, osl⟩ ∧ PySem.W.codeIn K (.ref c) qual = true
  kp : PySem.W.keepIn K (.ref f) = true
structure DefC (K : PySem.W.Frag) (mg : Str → Option Value) (x qual : Str) (st : Stmt) (ps : List Str) (c : Addr) : Prop where
  ex : ∃ f fd, FunC K x qual st f fd c ∧ mg x = some (.ref f) ∧ Binds K fd ps []
section
variable {P : Program} {w : World} {K : PySem.W.Frag} {mg : Str → Option Value} {base : Heap} {CX : CXT} {x qual : Str} {st : Stmt} {f c : Addr} {fd : FuncData} {N ps : List Str} {k : Nat}
theorem okC {sp : Sp} (F : FunC K x qual st f fd c) (S : FnScope N ps (defScope st)) (len : ∀ vs H Q E, sp vs H Q E → vs.length = ps.length)
    (hbody : ∀ (A : Around) (outer : List Env) (s : Shared) (H : Hp) (vs : List V) (Q : VK) (E : XK), Room k (A.deeper (envOfC qual (defScope st) s.heap.objs.size f (.ref c))) → sp vs H Q E →
      ∃ t, PSs (cxOf CX P w K mg base N qual (defScope st) f (.ref c) A outer s H E) (defBody st) t ∧ t { nx := fun _ H' => Q .non H', rt := Q } (start N vs) H) : FnOk P w K mg base CX (k + 1) f fd ps sp := by
  obtain ⟨oc, od, kV, doc, pm, an, ct, osl, rfl, lk, hcd⟩ := F.ex
  exact fn_of lk hcd S len fun A outer s H vs Q E hr hsp => hbody A outer s H vs Q E hr hsp
theorem fn_C {C : DC} {cc : FNC} {W : DWS} (F : FunC K x qual st f fd c) (S : FnScope N ps (defScope st))
    (vc : ∀ ds Q Y, cc ds Q Y → ds.length = ps.length ∧ W (startD N ds) (fun _ => Q .none) Q Y)
    (body : ∀ (A : Around) (outer : List Env) (s : Shared) (H : Hp) (E : XK), Room k (A.deeper (envOfC qual (defScope st) s.heap.objs.size f (.ref c))) → PDs (fun D => C.Sub D) (cxOf CX0 P w K mg base N qual (defScope st) f (.ref c) A outer s H E).nox E (defBody st) W) : FnOk P w K mg base CX0 (k + 1) f fd ps (spC C K mg cc) := by
  refine okC F S (fun vs H Q E ⟨G, ds, _, _, _, _, a, q⟩ => by rw [a.length]; exact (vc _ _ _ q).1) fun A outer s0 H vs Q E hr h => ⟨tWS _ _ E W, (body A outer s0 H E hr).ps.nox, ?_⟩
  obtain ⟨G, ds, s, hm, hf, j, a, q⟩ := h
  refine ⟨C, H, G, G, _, ds_startC s hm hf j a (DC.Sub.refl C), (body A outer s0 H E hr).mono _ _ _ _ _ _ _ (fun ρ' q => ?_) (fun _ h => h) idY (vc _ _ _ q).2⟩
  intro σ' H' G' S' g'
  exact q .non H' G' S'.ext S'.j .non
end
section
variable {Z : DC → Prop} {X : Cx} {E : XK} {CX : CXT} {x : Str} {ps : List Str} {k : Nat} {c : FNC} {e : Expr} {es : List Expr} {wA : DAW} {p pos : Pos} {C : DC}
theorem pd_callC (hZ : ∀ D, Z D → C.Sub D) (hF : ∀ H, C.J H → ∀ b, C.F b → H b ≠ none) (D : FD X.prog X.w X.K X.mg X.base CX x ps k (spC C X.K X.mg c)) (mc : MoF c) (hr : Room k X.A) (hx : Passes CX X E) (ha : PDA Z X E (e :: es) wA) (hg : Gl X x := by rfl)
    (hdb : (x == ("__debug__" : Str)) = false := by decide) (he : starEach (e :: es) X.env = (false, eval e X.env) :: starEach es X.env := by rfl) (hpl : (backTo pos (starEach es X.env)).any (·.1) = false := by rfl) :
    PD Z X E (.Call (.Name x p) (e :: es) [] pos) (wFn c wA) := by
  obtain ⟨f, fd, F, hm, hk, hb⟩ := D.ex
  refine ⟨PEimp (pe_call F hr hg hm hk hb .nil hx ha.pa hdb he hpl) fun σ H Q ⟨C', H0, G0, G, ρ, S, q⟩ => ?_, fun ρ Q Q' Y Y' k ky q => ha.mono _ _ _ _ _ (fun ds q => mc _ _ _ _ _ k ky q) ky q⟩
  refine ⟨C', H0, G0, G, ρ, S, ha.mono _ _ _ _ _ (fun ds q => ?_) idY q⟩
  intro vs H1 G1 x1 j1 a1
  have S1 := S.step x1 j1
  have hs := hZ C' S.z
  exact ⟨G1, ds, x1.sub, fun b m => S1.mG b (hs.m b m), hF _ (hs.j _ j1), hs.j _ j1, by rw [List.append_nil]; exact a1, mc _ _ _ _ _ (fun d q => (RQ.step q x1).part hs j1) (fun y q => RX.part hs j1 y (RX.step x1 y q)) q⟩
end
theorem tabF {T : List (Addr × Str)} : ∀ H, (tabC T).J H → ∀ b, (tabC T).F b → H b ≠ none := fun H j b hm => by
  obtain ⟨p, hp, rfl⟩ := List.mem_map.mp hm
  obtain ⟨ps, h1, _⟩ := j p hp
  rw [h1]; simp
/-! ### told -/
/-- the def that calls its argument and tells the word of a refusal -/
structure ToldD (P : Program) (w : World) (K : PySem.W.Frag) (mg : Str → Option Value) (base : Heap) (x a : Str) (k : Nat) : Prop where
  ex : ∃ (g : Addr) (fd : FuncData) (st : Stmt) (Ng : List Str), Fun K x x st g fd ∧ mg x = some (.ref g) ∧ Binds K fd [a] [] ∧ FnScope Ng [a] (defScope st) ∧ Ng[0]? = some a ∧ Vis (defScope st) a ∧
    ∀ X : Cx, X.prog = P → X.w = w → X.K = K → X.mg = mg → X.base = base → Room k X.A → ∀ cdv q, GivesN X Ng x (defScope st) g cdv (defBody st) a q (TTold mg)
@[simp] def wTold (w : DW) : DW := fun ρ Q _ => w ρ Q (fun x => ∃ wd, wordD x = some wd ∧ Q (.str wd))
/-- where the maker's table lies -/
structure MkL (X : Cx) (T : List (Addr × Str)) (c P : Addr) : Prop where
  tb : TabB X.base X.mg c P
  mem : (P, X.env.qual ++ "<lambda>") ∈ T
  uniq : ∀ p ∈ T, p.1 = P → p.2 = X.env.qual ++ "<lambda>"
theorem pd_told {Z : DC → Prop} {X : Cx} {E : XK} {T : List (Addr × Str)} {x a : Str} {c P : Addr} {k kt : Nat} {params : Arguments} {body : Expr} {scope : Scope} {w : DW} {p lpos pos : Pos} (D : ToldD X.prog X.w X.K X.mg X.base x a kt) (hZ : ∀ D, Z D → (tabC T).Sub D) (M : MkL X T c P) (hr : Room (k + 2) X.A)
    (hbody : ∀ (A : Around) (outer : List Env) (s : Shared) (H : Hp) (E : XK) (f c' : Addr), Room k (A.deeper (lamEnv X scope s.heap.objs.size f c')) → PD Z (lamCxN X A outer s H E scope f c') E body w)
    (hkt : kt ≤ k + 2 := by omega) (hg : Gl X x := by rfl) (hcode : X.env.code = .ref c := by rfl) (L : LamS X.env.scope scope := by exact lamS_by (by with_unfolding_all rfl)) (hdef : defaultsOf params X.env = ([], []) := by rfl)
    (hbind : ∀ (q : Str) (cl : List (Str × Addr)) (pm cv ctv : Value), bindArgs (PySem.W.kla_fn "<lambda>" q params body scope cl pm cv ctv) ⟨[], []⟩ = pure [] := by intro _ _ _ _ _; rfl)
    (hdb : (x == ("__debug__" : Str)) = false := by decide) (hd : (a == ("__debug__" : Str)) = false := by decide) (hcd : (a == ("__classdict__" : Str)) = false := by decide) :
    PD Z X E (.Call (.Name x p) [.Lambda params body scope lpos] [] pos) (wTold w) := by
  have hmo : Mo w := (hbody X.A [] X.s_0 (fun _ => none) E 0 0 ((hr.deeper _).mono (by omega))).mono
  obtain ⟨g, fd, st, Ng, F, hm, hb, Sg, hN0, hva, hG⟩ := D.ex
  obtain ⟨oc, od, kV, doc, pm, an, cdv, ct, osl, rfl, lk, hcg⟩ := F.ex
  refine ⟨PEimp (pe_lamcallN (T := T) (t := fun E' => tW Z X E' w) hg hm F.kp lk hcg hb Sg hN0 hva (hG X rfl rfl rfl rfl rfl (hr.mono hkt) cdv _) M.tb hcode M.mem M.uniq hr L hdef hbind (fun A outer s H E f c' hr' => (hbody A outer s H E f c' hr').pe) hdb hd hcd) fun σ H Q ⟨C, H0, G0, G, ρ, S, q⟩ => ?_,
    fun ρ Q Q' Y Y' k ky q => hmo _ _ _ _ _ k (fun y ⟨wd, e, q⟩ => ⟨wd, e, k _ q⟩) q⟩
  have hs := hZ C S.z
  have hT : Tabs T H := hs.j H S.j
  have mP : (tabC T).M P := List.mem_map.mpr ⟨_, M.mem, rfl⟩
  refine ⟨hT, fun H1 hx hT1 => ?_⟩
  have gP : G P = none := S.mG P (hs.m P mP)
  have x1 : Ext C.M G H G H1 := by
    refine ⟨fun b o n e => hx b o e (fun z => n (by rw [z]; exact hs.m P mP)), fun b o e => ?_, fun b o e => hx b o (S.sub b o e) (fun z => by rw [z, gP] at e; cases e), fun _ _ e => e, fun _ _ _ e => e⟩
    by_cases hb : b = P
    · obtain ⟨ps, h1, _⟩ := hT1 _ M.mem
      exact ⟨_, by rw [hb]; exact h1⟩
    · exact ⟨o, hx b o e hb⟩
  have j1 : C.J H1 := hs.back H H1 (fun b o n e => hx b o e (fun z => n (by rw [z]; exact mP))) S.j hT1
  refine ⟨C, H0, G0, G, ρ, S.step x1 j1, hmo _ _ _ _ _ (fun d q => RQ.step q x1) (fun y hy => ?_) q⟩
  obtain ⟨wd, e, q⟩ := hy
  have fin : ∀ {cc : Addr} {d : Option Addr} {H' G' : Hp}, X.mg y.nm = some (.ref cc) → DictAt d H' → Ext C.M G H1 G' H' → C.J H' → ∃ w, ErrAt X.mg (.ref cc) d w H' ∧ ∀ H'', Same H' H'' → Q (.str w) H'' := fun {cc d H' G'} hm hd x2 j2 => by
    refine ⟨wd, ⟨y.nm, cc, rfl, hm, e, hd⟩, fun H'' sm => ?_⟩
    have x3 : Ext C.M G' H' G' H'' := ⟨fun b o _ e => sm b o e, fun b o e => ⟨o, sm b o e⟩, fun b o e => sm b o (x2.sub b o e), fun _ _ e => e, fun _ _ _ e => e⟩
    exact q _ H'' G' ((x1.trans x2).trans x3) (C.js H' H'' (fun b o _ e => sm b o e) j2) (.str wd)
  cases y with
  | plain nm => exact fun cc H' G' hm x2 j2 => fin hm (fun _ z => nomatch z) x2 j2
  | field nm f d => exact fun cc dx v H' G' hm x2 j2 e1 _ _ _ => fin hm (fun dd z => by cases z; exact ⟨_, e1⟩) x2 j2
/-! ### the law's start with tables -/
def spLawT (T : List (Addr × Str)) (K : PySem.W.Frag) : Sp := fun vs H Q _ => ∃ (a : Addr) (ns : List Int), vs = [.ref a] ∧ SqL K H a (ns.map V.int) ∧ ns.length ≤ 63 ∧ Tabs T H ∧ ∀ H', Q (.bl true) H'
theorem tWS_lawT {T : List (Addr × Str)} {X : Cx} {E : XK} {W : DWS} {n : Nat} {H : Hp} {a s t : Addr} {ns : List Int} {Q : VK} (vc : ∀ N R Y, R (.bool true) → W (rho0 n) N R Y) (hT : Tabs T H) (hs : H s = none) (ht : upd H s (.lst (ns.map V.int)) t = none) (hq : ∀ H', Q (.bl true) H') :
    tWS (fun D => (tabC T).Sub D) X E W { nx := fun _ H' => Q .non H', rt := Q } (some (.ref a) :: some (.ref t) :: List.replicate n none) (upd (upd H s (.lst (ns.map V.int))) t (.lst [.ref s, .int 0, .int 0])) := by
  have hts : t ≠ s := fun e => by rw [e, upd_same] at ht; cases ht
  have hT1 : Tabs T (upd H s (.lst (ns.map V.int))) := hT.ext fun b o e => by rw [upd_ne (ne_of_none e hs)]; exact e
  have hT2 : Tabs T (upd (upd H s (.lst (ns.map V.int))) t (.lst [.ref s, .int 0, .int 0])) := hT1.ext fun b o e => by rw [upd_ne (ne_of_none e ht)]; exact e
  have jt : (tapeC t s ns).J (upd (upd H s (.lst (ns.map V.int))) t (.lst [.ref s, .int 0, .int 0])) := ⟨0, 0, Int.le_refl _, Int.le_refl _, upd_same, by rw [upd_ne (Ne.symm hts), upd_same]⟩
  refine ⟨tpC t s ns T, _, fun _ => none, fun _ => none, rho0 n, ⟨tab_sub t s ns T, Ext.refl (fun b o e => by cases e), fun b hb => ?_, fun b _ => rfl, ⟨jt, hT2⟩, ?_, ?_, ?_⟩, vc _ _ _ ?_⟩
  · rcases hb with (rfl | rfl) | hb
    · rw [upd_same]; simp
    · rw [upd_ne (Ne.symm hts), upd_same]; simp
    · exact tabF _ hT2 b hb
  · unfold rho0; simp
  · intro i sv e
    match i with
    | 0 => simp [rho0] at e; subst e; exact ⟨_, rfl, trivial⟩
    | 1 => simp [rho0] at e; subst e; exact ⟨_, rfl, t, s, ns, tape_sub t s ns T, rfl⟩
    | i + 2 =>
      simp [rho0] at e
      rw [List.getElem?_replicate] at e
      split at e
      · rename_i h
        cases e
        exact ⟨none, by simp [List.getElem?_replicate, h], trivial⟩
      · cases e
  · intro i j xs ys b n1 e1
    exfalso
    match i with
    | 0 => simp [rho0] at e1
    | 1 => simp [rho0] at e1
    | i + 2 =>
      simp [rho0] at e1
      rw [List.getElem?_replicate] at e1
      split at e1 <;> cases e1
  · intro v H' G' x j av
    rw [bool_of av]
    exact hq H'
end DL

namespace DL
open PySem PySem.Spec L2 HOT LamX
open PyProof.Rows (envOfC)
/-! ### slots that hold defs -/
theorem DS.setFn {Z : DC → Prop} {C : DC} {K : PySem.W.Frag} {H0 G0 G H : Hp} {σ : St} {ρ : DE} (S : DS Z C K H0 G0 G H σ ρ) {i : Nat} {a : Addr} : DS Z C K H0 G0 G H (σ.set i (some (.ref a))) (ρ.set i (.fn a)) := by
  refine ⟨S.z, S.ext, S.f0, S.m0, S.j, by simp [S.len], fun j s e => ?_, fun j k xs ys b n e1 e2 e3 e4 => ?_⟩
  · rcases get_set e with ⟨rfl, rfl, hlt⟩ | ⟨hj, e⟩
    · exact ⟨some (.ref a), by rw [List.getElem?_set_self (by rw [← S.len]; exact hlt)], rfl⟩
    · rw [List.getElem?_set_ne hj]
      exact S.sl j s e
  · rcases get_set e1 with ⟨rfl, q, _⟩ | ⟨hj, e1⟩
    · cases q
    · rcases get_set e2 with ⟨rfl, q, _⟩ | ⟨hk, e2⟩
      · cases q
      · rw [List.getElem?_set_ne hj] at e3
        rw [List.getElem?_set_ne hk] at e4
        exact S.inj j k xs ys b n e1 e2 e3 e4
@[simp] def forFn (i : Nat) (Wb : DWS) : List Addr → DWS
  | [], ρ, N, _, _ => N ρ
  | a :: as, ρ, N, R, Y => Wb (ρ.set i (.fn a)) (fun ρ2 => forFn i Wb as ρ2 N R Y) R Y
theorem forFn_mono {i : Nat} {Wb : DWS} (m : MoS Wb) : ∀ as : List Addr, MoS (forFn i Wb as)
  | [], _, _, _, _, _, _, _, k, _, _, h => k _ h
  | a :: as, ρ, N, N', R, R', Y, Y', k, kr, ky, h => m _ _ _ _ _ _ _ (fun ρ2 h => forFn_mono m as _ _ _ _ _ _ _ k kr ky h) kr ky h
/-- a display of defs -/
def tFns (as : List Addr) : TE := fun _ H Q => ∀ l, H l = none → Q (.ref l) (upd H l (.tup (as.map V.ref)))
section
variable {Z : DC → Prop} {X : Cx} {E : XK} {e : Expr} {es : List Expr} {pos p : Pos} {k : Nat} {wA : DAW} {Wb : DWS}
theorem pd1_forFn {x : Str} {tp : Pos} {iter : Expr} {body : List Stmt} {i : Nat} {as : List Addr} (hp : PassesOwn (model X.prog X.w) X.A X.env X.xe) (hc : X.calm = true) (hi : PE X iter (tFns as)) (hN : X.N.Nodup) (hb : PDs Z X E body Wb)
    (hx : X.N[i]? = some x := by rfl) (hl : Loc X.env.scope x := by first | exact Or.inl rfl | exact Or.inr rfl) (hf : X.fn x = true ∨ X.env.scope.names.lookup x = some .local := by first | exact .inl rfl | exact .inr rfl)
    (hs : ∀ x, foldedSetIterable iter X.env x = pure x := by intro _; rfl) : PD1 Z X E (.For (.Name x tp) iter body [] pos) (forFn i Wb as) := by
  refine ⟨PSimp (ps_for hp hc (pi_tup hi) (pg_name hN hx hl hf) hb.ps hs) fun D σ H ⟨C, H0, G0, G, ρ, S, q⟩ => ?_, forFn_mono hb.mono as⟩
  intro l hl0
  have x1 : Ext C.M G H (upd G l (.tup (as.map V.ref))) (upd H l (.tup (as.map V.ref))) := Ext.new S.sub hl0
  have j1 : C.J (upd H l (.tup (as.map V.ref))) := C.jnew hl0 S.j
  have q0 : SqT X.K (upd G l (.tup (as.map V.ref))) l (as.map V.ref) := SqT.of upd_same
  refine ⟨l, rfl, ⟨_, SqT.of upd_same⟩, ?_⟩
  refine ⟨fun i' m σ2 H2 => m = as.length - i' ∧ i' ≤ as.length ∧ ∃ G2 ρ2, Same (upd G l (.tup (as.map V.ref))) G2 ∧ DS Z C X.K H0 G0 G2 H2 σ2 ρ2 ∧ forFn i Wb (as.drop i') ρ2 (RN Z C X.K H0 G0 G D.nx) (RQ C X.K G0 H0 D.rt) (RX X.K X.mg C G0 H0 E),
    ⟨as.length, by simp, Nat.zero_le _, _, ρ, fun _ _ h => h, S.step x1 j1, by simpa using q⟩, ?_⟩
  rintro i' m σ2 H2 ⟨rfl, hi2, G2, ρ2, g2, S2, q⟩
  have hq : SqT X.K H2 l (as.map V.ref) := SqT.same S2.sub (SqT.same g2 q0)
  by_cases hlt : i' < as.length
  · right
    have ed : as.drop i' = as[i'] :: as.drop (i' + 1) := List.drop_eq_getElem_cons hlt
    rw [ed] at q
    refine ⟨⟨_, V.ref as[i'], hq, by simp [hlt]⟩, fun σ' H' => i' + 1 ≤ as.length ∧ ∃ G2 ρ2, Same (upd G l (.tup (as.map V.ref))) G2 ∧ DS Z C X.K H0 G0 G2 H' σ' ρ2 ∧ forFn i Wb (as.drop (i' + 1)) ρ2 (RN Z C X.K H0 G0 G D.nx) (RQ C X.K G0 H0 D.rt) (RX X.K X.mg C G0 H0 E), fun σ' H' hn => ⟨as.length - (i' + 1), by omega, rfl, hn⟩, fun y H3 hy => ?_⟩
    obtain ⟨rfl, hy⟩ := hy
    have e2 := hy _ hq
    have e3 : (as.map V.ref)[i']? = some (V.ref as[i']) := by simp [hlt]
    rw [e3] at e2
    cases e2
    refine ⟨C, H0, G0, G2, _, S2.setFn, hb.mono _ _ _ _ _ _ _ (fun ρ3 q => ?_) (fun _ h => h) idY q⟩
    intro σ4 H4 G4 S4 g4
    exact ⟨hlt, G4, ρ3, fun b o e => g4 b o (g2 b o e), S4, q⟩
  · left
    have e : i' = as.length := by omega
    subst e
    rw [List.drop_length] at q
    exact ⟨⟨_, hq, by simp⟩, RN.now q S2 fun b o e => g2 b o (x1.gs b o e)⟩
/-- of several defs that the slot may hold -/
structure HeldD (P : Program) (w : World) (K : PySem.W.Frag) (mg : Str → Option Value) (base : Heap) (CX : CXT) (f : Addr) (k : Nat) (sp : Sp) : Prop where
  ex : ∃ (fd : FuncData) (ps : List Str), FnOk P w K mg base CX k f fd ps sp ∧ PySem.W.keepIn K (.ref f) = true ∧ Binds K fd ps []
@[simp] def wCallFn (i : Nat) (cs : List (Addr × FNC)) (wA : DAW) : DW := fun ρ Q Y => ∃ a c, ρ[i]? = some (.fn a) ∧ (a, c) ∈ cs ∧ wA ρ (fun ds => c ds Q Y) Y
theorem pd_callFn {x : Str} {cs : List (Addr × FNC)} {CX : CXT} (i : Nat) (A : ∀ a c, (a, c) ∈ cs → HeldD X.prog X.w X.K X.mg X.base CX a k (spP X.K X.mg c) ∧ MoF c) (hr : Room k X.A) (hx : Passes CX X E) (ha : PDA Z X E (e :: es) wA)
    (hN : X.N[i]? = some x := by rfl) (hv : Vis X.env.scope x := by first | exact Or.inl rfl | exact Or.inr (Or.inl rfl) | exact Or.inr (Or.inr rfl))
    (hdb : (x == ("__debug__" : Str)) = false := by decide) (hcd : (x == ("__classdict__" : Str)) = false := by decide)
    (he : starEach (e :: es) X.env = (false, eval e X.env) :: starEach es X.env := by rfl) (hpl : (backTo pos (starEach es X.env)).any (·.1) = false := by rfl) : PD Z X E (.Call (.Name x p) (e :: es) [] pos) (wCallFn i cs wA) := by
  refine ⟨⟨fun pins s σ H Q I h => ?_⟩, fun ρ Q Q' Y Y' kk ky ⟨a, c, e1, hm, q⟩ => ⟨a, c, e1, hm, ha.mono _ _ _ _ _ (fun ds q => (A a c hm).2 _ _ _ _ _ kk ky q) ky q⟩⟩
  obtain ⟨C, H0, G0, G, ρ, S, a, c, e1, hm, q⟩ := h
  obtain ⟨fd, ps, F, hk, hb⟩ := (A a c hm).1.ex
  have mc := (A a c hm).2
  obtain ⟨o, e2, e3⟩ := S.sl i _ e1
  have e3 : o = some (.ref a) := e3
  subst e3
  refine (pe_callL (i := i) (f := a) (dvs := []) F hr hN hv hk hb .nil hx ha.pa hdb hcd he hpl).run pins s σ H Q I ⟨e2, C, H0, G0, G, ρ, S, ha.mono _ _ _ _ _ (fun ds q => ?_) idY q⟩
  intro vs H1 G1 x1 j1 a1
  exact ⟨G1, ds, x1.sub, by rw [List.append_nil]; exact a1, mc _ _ _ _ _ (fun d q => (RQ.step q x1).pure j1) (fun y q => RX.pure j1 y (RX.step x1 y q)) q⟩
end
theorem FnOk.imp {P : Program} {w : World} {K : PySem.W.Frag} {mg : Str → Option Value} {base : Heap} {CX : CXT} {k : Nat} {f : Addr} {fd : FuncData} {ps : List Str} {sp sp' : Sp} (F : FnOk P w K mg base CX k f fd ps sp) (h : ∀ vs H Q E, sp' vs H Q E → sp vs H Q E) : FnOk P w K mg base CX k f fd ps sp' :=
  ⟨fun vs H Q E q => F.len vs H Q E (h _ _ _ _ q), fun A outer s H args us vs Q E hr h0 hb r q => F.run A outer s H args us vs Q E hr h0 hb r (h _ _ _ _ q)⟩
theorem FD.held {P : Program} {w : World} {K : PySem.W.Frag} {mg : Str → Option Value} {base : Heap} {CX : CXT} {x : Str} {ps : List Str} {j k : Nat} {sp sp' : Sp} (F : FD P w K mg base CX x ps j sp) (hk : j ≤ k) (h : ∀ vs H Q E, sp' vs H Q E → sp vs H Q E) : ∃ f, mg x = some (.ref f) ∧ HeldD P w K mg base CX f k sp' := by
  obtain ⟨f, fd, F, hm, hk', hb⟩ := F.ex
  exact ⟨f, hm, fd, ps, FnOk.imp (F.mono hk) h, hk', hb⟩
end DL

namespace DL
open PySem PySem.Spec L2 HOT
/-! ### _law_word -/
def isN (a : Addr) (nm : Str) (c : Str) : DW := wIsE 0 a (decide (nm = c))
def W_word (a : Addr) (nm : Str) : DWS := (wSeq (wSet 1 (wLst (wCons (isN a nm "InvalidRule") (wCons (isN a nm "InvalidHistory") (wCons (isN a nm "InvalidHarm") wNil)))))
  (wSeq (wSet 1 (w2 fAdd (wVar 1) (wLst (wCons (isN a nm "InvalidNews") (wCons (isN a nm "InvalidEvent") (wCons (isN a nm "InvalidIndex") wNil))))))
  (wSeq (wSet 1 (w2 fAdd (wVar 1) (wLst (wCons (isN a nm "InvalidPerson") (wCons (isN a nm "NotNow") (wCons (isN a nm "TooMany") wNil))))))
  (wSeq (wSet 1 (w2 fAdd (wVar 1) (wLst (wCons (isN a nm "NothingToUndo") (wCons (isN a nm "InvalidText") wNil)))))
  (wSeq (wSet 2 (wLst (wCons (wC (.str "rule")) (wCons (wC (.str "history")) (wCons (wC (.str "harm")) (wCons (wC (.str "news")) (wCons (wC (.str "event")) (wCons (wC (.str "index")) (wCons (wC (.str "person")) (wCons (wC (.str "notnow")) (wCons (wC (.str "many")) (wCons (wC (.str "nothing")) (wCons (wC (.str "text")) wNil)))))))))))))
  (wSeq (wNewD 3 (wLc (.tup [4, 5]) (wT (wVar 5)) (wVar 4) [4, 5] (wZip (wVar 2) (wVar 1))))
  (wRet (wIf (wAnd (wT (w2 fEq (wCall fLen (wCons (wVar 3) wNil)) (wC (.int 1)))) (wT (wIsE 0 a true))) (w2 fIx (wVar 3) (wC (.int 0))) (wC (.str "several"))))))))))
abbrev rho_word (a : Addr) : DE := [.fn a, .un, .un, .un, .un, .un]
theorem comp_zip {ρ : DE} {Q : List PyData → Prop} (hl : ρ.length = 6) : ∀ (ws : List Str) (bs : List Bool) (acc : List PyData), ws.length = bs.length → acc.length + ws.length ≤ 100 → Q (acc ++ strsD ((ws.zip bs).filterMap fun p => if p.2 then some p.1 else none)) →
    compW (.tup [4, 5]) (wT (wVar 5)) (wVar 4) ρ (zipD (strsD ws) (bs.map PyData.bool)) acc Q
  | [], [], acc, _, _, q => by simpa [zipD, strsD] using q
  | [], _ :: _, _, h, _, _ => by simp at h
  | _ :: _, [], _, h, _, _ => by simp at h
  | w :: ws, b :: bs, acc, h, hz, q => by
    simp only [List.length_cons] at h hz
    have e : zipD (strsD (w :: ws)) ((b :: bs).map PyData.bool) = .tuple [.str w, .bool b] :: zipD (strsD ws) (bs.map PyData.bool) := rfl
    rw [e]
    have e4 : ((ρ.set 4 (.d (.str w))).set 5 (.d (.bool b)))[5]? = some (.d (.bool b)) := by rw [List.getElem?_set_self (by rw [List.length_set, hl]; decide)]
    have e5 : ((ρ.set 4 (.d (.str w))).set 5 (.d (.bool b)))[4]? = some (.d (.str w)) := by
      rw [List.getElem?_set_ne (by decide), List.getElem?_set_self (by rw [hl]; decide)]
    refine ⟨rfl, ?_⟩
    show wT (wVar 5) ((ρ.set 4 (.d (.str w))).set 5 (.d (.bool b))) _ _
    have v5 : ∀ Q Y, Q (.bool b) → wVar 5 ((ρ.set 4 (.d (.str w))).set 5 (.d (.bool b))) Q Y := fun Q Y q => by
      unfold wVar; rw [e4]; exact q
    have v4 : ∀ Q Y, Q (.str w) → wVar 4 ((ρ.set 4 (.d (.str w))).set 5 (.d (.bool b))) Q Y := fun Q Y q => by
      unfold wVar; rw [e5]; exact q
    refine v5 _ _ ⟨b, rfl, ?_⟩
    cases b with
    | true =>
      rw [if_pos rfl]
      refine v4 _ _ ?_
      refine ⟨by rw [line24]; omega, comp_zip hl ws bs _ (by omega) (by rw [List.length_append, List.length_singleton]; omega) ?_⟩
      rw [List.append_assoc]
      exact q
    | false =>
      rw [if_neg Bool.false_ne_true]
      exact comp_zip hl ws bs _ (by omega) (by omega) q
theorem words_cases {nm wd : Str} (h : wordsL.lookup nm = some wd) : (nm, wd) ∈ wordsL := by
  have : ∀ l : List (Str × Str), l.lookup nm = some wd → (nm, wd) ∈ l := fun l => by
    induction l with
    | nil => intro h; cases h
    | cons p l ih =>
      intro h
      rw [List.lookup_cons] at h
      split at h
      · rename_i e
        cases h
        rw [eq_of_beq e]
        exact List.mem_cons_self
      · exact List.mem_cons_of_mem _ (ih h)
  exact this _ h
theorem words_one : ∀ p ∈ wordsL, ((["rule", "history", "harm", "news", "event", "index", "person", "notnow", "many", "nothing", "text"] : List Str).zip (wordsL.map fun q => decide (p.1 = q.1))).filterMap (fun p => if p.2 then some p.1 else none) = [p.2] := by decide +kernel
theorem vc_word (a : Addr) {nm wd : Str} (hw : wordsL.lookup nm = some wd) : ∀ N R Y, R (.str wd) → W_word a nm (rho_word a) N R Y := by
  intro N R Y q
  have hm := words_one _ (words_cases hw)
  unfold W_word isN
  refine ⟨rfl, rfl, rfl, by rw [line24]; simp, ?_⟩
  refine ⟨rfl, rfl, rfl, by rw [line24]; simp, ?_⟩
  refine ⟨by rw [line24]; simp, ?_⟩
  refine ⟨rfl, rfl, rfl, by rw [line24]; simp, ?_⟩
  refine ⟨by rw [line24]; simp, ?_⟩
  refine ⟨rfl, rfl, by rw [line24]; simp, ?_⟩
  refine ⟨by rw [line24]; simp, ?_⟩
  refine ⟨by rw [line24]; simp, ?_⟩
  refine ⟨_, _, rfl, rfl, rfl, ?_⟩
  refine comp_zip (ρ := wipeD [_, _, _, _, _, _] [4, 5]) rfl ["rule", "history", "harm", "news", "event", "index", "person", "notnow", "many", "nothing", "text"] (wordsL.map fun q => decide (nm = q.1)) [] rfl (by decide) ?_
  rw [hm]
  refine ⟨shaped_int _, shaped_int _, ?_⟩
  refine ⟨true, rfl, ?_⟩
  refine ⟨rfl, true, rfl, ?_⟩
  exact ⟨.str wd, rfl, q⟩
end DL

namespace DL
open PySem PySem.Spec L2 HOT LamX
/-! ### the end: what the top has written of the own errors, and the tables -/
structure WC (K : PySem.W.Frag) (L C : Addr) : Prop where
  x : ExcC K C
  t : PySem.W.typeIn K (.ref C) = some (.type "type")
  s : PySem.W.subIn K (.ref C) (.ref C) = some true
  v : PySem.W.subIn K (.ref C) (.type "ValueError") = some true
  l : PySem.W.subIn K (.ref C) (.ref L) = some true
def allNo (K : PySem.W.Frag) (C : Addr) : List Addr → Prop
  | [] => True
  | D :: r => (PySem.W.subIn K (.ref C) (.ref D) = some false ∧ PySem.W.subIn K (.ref D) (.ref C) = some false) ∧ allNo K C r
def Sep (K : PySem.W.Frag) : List Addr → Prop
  | [] => True
  | C :: r => allNo K C r ∧ Sep K r
def NamedL (mg : Str → Option Value) : List Str → List Addr → Prop
  | n :: ns, C :: Cs => mg n = some (.ref C) ∧ NamedL mg ns Cs
  | _, _ => True
def WCs (K : PySem.W.Frag) (L : Addr) : List Addr → Prop
  | [] => True
  | C :: r => WC K L C ∧ WCs K L r
section
variable {K : PySem.W.Frag} {mg : Str → Option Value} {L : Addr}
theorem allNo_get {C : Addr} : ∀ {r : List Addr} {i : Nat} {D : Addr}, allNo K C r → r[i]? = some D → PySem.W.subIn K (.ref C) (.ref D) = some false ∧ PySem.W.subIn K (.ref D) (.ref C) = some false
  | [], i, D, _, e => by simp at e
  | D :: r, 0, E, h, e => by simp at e; subst e; exact h.1
  | D :: r, i + 1, E, h, e => allNo_get h.2 (by simpa using e)
theorem sep_get : ∀ {Cs : List Addr} {i j : Nat} {C D : Addr}, Sep K Cs → i ≠ j → Cs[i]? = some C → Cs[j]? = some D → PySem.W.subIn K (.ref C) (.ref D) = some false
  | [], i, j, C, D, _, _, e, _ => by simp at e
  | A :: r, 0, 0, C, D, _, h, _, _ => absurd rfl h
  | A :: r, 0, j + 1, C, D, s, _, e1, e2 => by simp at e1 e2; subst e1; exact (allNo_get s.1 e2).1
  | A :: r, i + 1, 0, C, D, s, _, e1, e2 => by simp at e1 e2; subst e2; exact (allNo_get s.1 e1).2
  | A :: r, i + 1, j + 1, C, D, s, h, e1, e2 => sep_get (i := i) (j := j) s.2 (fun e => h (by rw [e])) (by simpa using e1) (by simpa using e2)
theorem named_get : ∀ {ns : List Str} {Cs : List Addr} {i : Nat} {n : Str}, ns.length = Cs.length → NamedL mg ns Cs → ns[i]? = some n → ∃ C, Cs[i]? = some C ∧ mg n = some (.ref C)
  | [], Cs, i, n, _, _, e => by simp at e
  | m :: ns, [], i, n, hl, _, _ => by simp at hl
  | m :: ns, C :: Cs, 0, n, _, h, e => by simp at e; subst e; exact ⟨C, rfl, h.1⟩
  | m :: ns, C :: Cs, i + 1, n, hl, h, e => named_get (i := i) (by simpa using hl) h.2 (by simpa using e)
theorem wcs_get : ∀ {Cs : List Addr} {i : Nat} {C : Addr}, WCs K L Cs → Cs[i]? = some C → WC K L C
  | [], i, C, _, e => by simp at e
  | D :: r, 0, C, h, e => by simp at e; subst e; exact h.1
  | D :: r, i + 1, C, h, e => wcs_get (i := i) h.2 (by simpa using e)
theorem lookup_ix {α β : Type} [BEq α] [LawfulBEq α] {a : α} {b : β} : ∀ {l : List (α × β)}, l.lookup a = some b → ∃ i : Nat, (l.map (·.1))[i]? = some a
  | [], e => by cases e
  | (x, y) :: l, e => by
    rw [List.lookup_cons] at e
    cases h : a == x with
    | true => exact ⟨0, by simp [eq_of_beq h]⟩
    | false =>
      rw [h] at e
      obtain ⟨i, hi⟩ := lookup_ix e
      exact ⟨i + 1, by simpa using hi⟩
theorem kit_self (C : Addr) : PySem.W.kitOne K (.ref C) (.ref C) = some true := by
  unfold PySem.W.kitOne
  rw [if_pos (by simp)]
theorem kit_no {C D : Addr} (hs : PySem.W.subIn K (.ref C) (.ref C) = some true) (hd : PySem.W.hasDictIn K D = true) (ht : PySem.W.typeIn K (.ref D) = some (.type "type")) (h : PySem.W.subIn K (.ref C) (.ref D) = some false) : PySem.W.kitOne K (.ref C) (.ref D) = some false := by
  have ne : C ≠ D := fun e => by rw [e] at hs; rw [e, hs] at h; cases h
  obtain ⟨cd, hc, _⟩ := PySem.W.any_some hd
  have e2 : ((PySem.W.clsIn K D).isSome && PySem.W.typeIn K (.ref D) == some (.type "type")) = true := by rw [hc, ht] <;> rfl
  unfold PySem.W.kitOne
  rw [if_neg (fun z => ne (Value.ref.inj (beq_iff_eq.mp z)))]
  show (if ((PySem.W.clsIn K D).isSome && PySem.W.typeIn K (.ref D) == some (.type "type")) = true then PySem.W.subIn K (.ref C) (.ref D) else none) = some false
  rw [if_pos e2]
  exact h
theorem kit_ve {C : Addr} (h : PySem.W.subIn K (.ref C) (.type "ValueError") = some true) : PySem.W.kitOne K (.ref C) (.type "ValueError") = some true := by
  unfold PySem.W.kitOne
  have ne : ¬ ((Value.ref C == Value.type "ValueError") = true) := fun z => by
    have e : Value.ref C = Value.type "ValueError" := beq_iff_eq.mp z
    cases e
  rw [if_neg ne]
  show (if PySem.W.kitMeta "ValueError" = true then PySem.W.subIn K (.ref C) (.type "ValueError") else none) = some true
  rw [if_pos (by decide +kernel)]
  exact h
theorem wordTx_mk {Cs : List Addr} (hl : Cs.length = 11) (hm : NamedL mg (wordsL.map (·.1)) Cs) (hw : WCs K L Cs) (hs : Sep K Cs) (gL : mg "ListError" = some (.ref L)) (bL : PySem.W.subIn K (.ref L) (.type "BaseException") = some true) (dL : PySem.W.hasDictIn K L = true) (tL : PySem.W.typeIn K (.ref L) = some (.type "type")) : WordTx K mg := by
  have len : (wordsL.map (·.1)).length = Cs.length := by rw [hl]; rfl
  refine ⟨fun nm w h => ?_, fun nm w nm' w' C C' h h' hC hC' => ?_, L, gL, fun nm w C h hC => ?_⟩
  · obtain ⟨i, hi⟩ := lookup_ix h
    obtain ⟨C, e1, e2⟩ := named_get len hm hi
    have k := wcs_get hw e1
    exact ⟨C, e2, k.x, kit_ve k.v⟩
  · obtain ⟨i, hi⟩ := lookup_ix h
    obtain ⟨j, hj⟩ := lookup_ix h'
    obtain ⟨D, e1, e2⟩ := named_get len hm hi
    obtain ⟨D', f1, f2⟩ := named_get len hm hj
    rw [hC] at e2; cases e2
    rw [hC'] at f2; cases f2
    by_cases e : nm = nm'
    · subst e
      rw [hC] at hC'; cases hC'
      rw [kit_self, decide_eq_true rfl]
    · rw [decide_eq_false e]
      have k := wcs_get hw f1
      refine kit_no (wcs_get hw e1).s k.x.hd k.t (sep_get hs (fun z => e ?_) e1 f1)
      rw [z, hj] at hi
      exact (Option.some.inj hi).symm
  · obtain ⟨i, hi⟩ := lookup_ix h
    obtain ⟨D, e1, e2⟩ := named_get len hm hi
    rw [hC] at e2; cases e2
    exact PySem.W.exm_ref bL dL tL (wcs_get hw e1).l
theorem tabs_start {Pt : Addr} {q : Str} {H : Hp} (h : H Pt = some (.tbl #[])) : TabS H Pt q := ⟨#[], h, trivial, fun pos cv hc => by cases hc⟩
end
end DL

namespace DL
open PySem PySem.Spec L2 HOT
/-! ### an error made, held as a value -/
def ExV (cls : Value) (d : Option Addr) (a : Addr) : HO := .ext fun h => ∃ (oe : Obj) (vs : Array Value), h.get? a = some oe ∧ Zc cls d oe ∧ oe.data = .fields vs
theorem exV_ok {P : Program} {w : World} {H : Hp} {h : Heap} {a : Addr} {cls : Value} {d : Option Addr} {oe : Obj} {vs : Array Value} (e : h.get? a = some oe) (z : Zc cls d oe) (dt : oe.data = .fields vs) : ObjOk P w H h a (ExV cls d a) :=
  ⟨⟨oe, vs, e, z, dt⟩, ⟨oe, e⟩, fun _ _ ⟨o, v, q, r⟩ k => ⟨o, v, k o q, r⟩⟩
/-- what makes an error to be raised gives it as a value, too -/
theorem pe_of_pmk {X : Cx} {e : Expr} {t : L2.St → Hp → XK → Prop} (h : PMk X e t) : PE X e (fun σ H Q => t σ H fun cls d H' => ∀ a, H' a = none → Q (.ref a) (upd H' a (ExV cls d a))) := by
  refine ⟨fun pins s σ H Q I q => wpAny_mono (h pins s σ H _ I q) (fun u s1 hu => ?_) fun _ _ x => x⟩
  obtain ⟨a, oe, vs, sI, H', cls, d, rfl, J, k, hne, ha, hz, hd, h1, na, os, ag, r, q⟩ := hu
  have new : ObjOk X.prog X.w (upd H' a (ExV cls d a)) s1.heap a (ExV cls d a) := exV_ok ha hz hd
  obtain ⟨hp, g, dr, tk, os0⟩ := sI
  obtain ⟨hp1, g1, dr1, tk1, os1⟩ := s1
  exact ⟨.ref a, _, J.call' (ch := []) os (Un.laidN k hne na) (J.hok.laidN k na new) ag (fun b z => absurd z (by simp)), rfl, q a na⟩
/-- an own error of a class with an own __init__, made where no error is around -/
theorem pmkN_oex {X : Cx} {CX : CXT} {x : Str} {C fI : Addr} {k : Nat} {fd : FuncData} {ps : List Str} {sp : Sp} {ta : TA} {e : Expr} {es : List Expr} {p pos : Pos} {ds : List Value} {dvs : List V} (T : OexC X.K C) (iC : PySem.W.findIn X.K (.ref C) "__init__" = some (some (.ref fI))) (tI : PySem.W.typeIn X.K (.ref fI) = some (.type "function"))
    (F1 : FnOk X.prog X.w X.K X.mg X.base CX k fI fd ps sp) (hr : Room (k + 1) X.A) (hb : Binds X.K fd ps ds) (hd : Vals dvs ds) (hx : Passes CX X (fun _ _ _ => False)) (hg : Gl X x) (hm : X.mg x = some (.ref C)) (ha : PA X (e :: es) ta)
    (hdb : (x == ("__debug__" : Str)) = false := by decide) (he : starEach (e :: es) X.env = (false, eval e X.env) :: starEach es X.env := by rfl) (hpl : (backTo pos (starEach es X.env)).any (·.1) = false := by rfl) :
    L2N.PMk X (.Call (.Name x p) (e :: es) [] pos) (tMkO C sp dvs ta) := by
  intro pins s σ H Q I hw
  obtain ⟨nm, q, N, bs, bm, sn, sub, ab, col, dd, k0, k1, k2, k3, k5, hC, hbm⟩ := T.cls
  refine wpAny_Call_Name_kw (ld_glob I hg hm ?_ hdb)
  refine PySem.W.callWith_K (h₀ := X.base) I.ok.mod.kin T.kC (thn (ha.run pos pins s σ H _ I hw) fun us s1 ⟨vs, H1, I1, r1, hz, q1⟩ => ⟨I1.kIn, ?_⟩) he hpl
  show wpAny _ _ (call (.ref C) us) _ _ _
  obtain ⟨h0, g, dr, tk, os⟩ := s1
  generalize ee : h0.objs.size + 1 = ea0
  have hsz : h0.objs.size ≤ ea0 := by omega
  have hq := q1 ea0 (I1.hok.fresh hsz)
  generalize eh : (h0.push (PySem.W.kdv_tup us)).push (PySem.HandSPX.excO C h0.objs.size) = h1
  have kk : ∀ b o, h0.get? b = some o → h1.get? b = some o := fun b o e => by rw [← eh]; exact Heap.get?_push_of_some _ (Heap.get?_push_of_some _ e)
  have hget : h1.get? ea0 = some (PySem.HandSPX.excO C h0.objs.size) := by subst eh ee; heap_get
  have I2 : Inv X pins σ (upd H1 ea0 (exo ea0 C none)) ⟨h1, g, dr, tk, os⟩ := I1.laid (t' := tk) (a := ea0) (o := exo ea0 C none) (h' := h1) kk hsz (exo_ok hget)
  have r2 : Vals (V.ref ea0 :: (vs ++ dvs)) (Value.ref ea0 :: (us ++ ds)) := .cons rfl (r1.append hd)
  have hl : (Value.ref ea0 :: us ++ ds).length = ps.length := by
    have e1 := r2.length
    rw [F1.len _ _ _ _ hq] at e1
    exact e1.symm
  have hus : us.length ≤ sizeLine := by
    have := Paired.length r1
    rw [line24] at *
    omega
  subst ee eh
  refine wpAny_call (PySem.HandSPX.call_own F.excBase_ValueError (fun Y => PySem.HandSPX.refsVE_contains Y bm hbm) (I1.kIn _ _ hC) (PySem.W.looks_findIn I1.kIn iC) (fun self => PySem.W.bind_fn I1.kIn self tI) hus
    (codeAny_mono (F1.run _ X.stack _ _ ⟨Value.ref (h0.objs.size + 1) :: us, []⟩ (Value.ref (h0.objs.size + 1) :: (us ++ ds)) _ _ (fun _ _ _ => False) (hr.make C us []) (I2.env0.make C us []) (hb _ (Value.ref (h0.objs.size + 1) :: us) I2.kIn hl) r2 hq) fun r s' hq' => ?_))
  match r, hq' with
  | .error er, hq' => exact hx pins σ _ _ er s' I2 hq'
  | .ok (.ret u), hq' =>
    obtain ⟨v, H2, os2, bare2, un2, hok2, rv, ev, d, fs, e1, e2, hd1, q2⟩ := hq'
    subst ev
    obtain ⟨h2, g2, d2, t2, os'⟩ := s'
    obtain ⟨t0, G, J, kG, ge, hoe, na⟩ := mk_end0 (d2 := d2) (t2 := t2) I1 hsz kk un2 hok2 os2 bare2 e1 e2 hd1
    exact ⟨rv, _, _, _, ⟨G, g2, d2, t2, os'⟩, _, .ref C, some d, rfl, J, kG, ge, hoe, ⟨rfl, rfl, fun vs e => by cases e; rfl⟩, rfl, rfl, na, rfl, bare2, raises_own T.exC T.tyC, q2⟩
end DL

namespace DL
open PySem PySem.Spec L2 HOT
/-! ### own errors held as values -/
def ErrO (D a : Addr) (d : Option Addr) (H : Hp) : Prop := H a = some (ExV (.ref D) d a) ∧ DictAt d H
def rIsV (K : PySem.W.Frag) (D a : Addr) (d : Option Addr) : List V → Hp → VK → Prop := fun xs H Q => ∃ (c : V) (cv : Value) (b : Bool), xs = [.ref a, c] ∧ (∀ u, RelV c u → u = cv) ∧ PySem.W.kitOne K (.ref D) cv = some b ∧ ErrO D a d H ∧ Q (.bl b) H
theorem call_isV {X : Cx} {a D : Addr} {d : Option Addr} (T : ExcC X.K D) : CallR X (.builtin "isinstance") (rIsV X.K D a d) := by
  intro pins s σ H xs us Q I r h
  obtain ⟨c, cv, b, rfl, hcv, e, hd, q⟩ := h
  obtain ⟨u1, u2, rfl, r1, r2⟩ : ∃ u1 u2, us = [u1, u2] ∧ RelV (.ref a) u1 ∧ RelV c u2 := by
    cases r with
    | cons rx rr => cases rr with
      | cons rt rr => cases rr; exact ⟨_, _, rfl, rx, rt⟩
  cases r1
  have ec := hcv _ r2
  subst ec
  have J : ∃ oe od, PySem.W.InstAt s.heap a oe D od := by
    obtain ⟨h1, h2⟩ := hd
    obtain ⟨⟨oe, vs, ho, hz, hdt⟩, _⟩ := (show ObjOk X.prog X.w H s.heap a (ExV (.ref D) d a) from I.hok a _ h1)
    obtain ⟨oc, od, oda, osl⟩ := oe
    obtain ⟨z1, z2⟩ := hz
    dsimp only at z1 z2 hdt
    subst z1 z2 hdt
    cases od with
    | none => exact ⟨_, none, ho, rfl, rfl, trivial⟩
    | some dd =>
      obtain ⟨fs, hx⟩ := h2 dd rfl
      obtain ⟨mA, hns, hr⟩ := (show ObjOk X.prog X.w H s.heap dd (.xd fs) from I.hok dd _ hx)
      obtain ⟨o, hl, _⟩ := lookIn_ns hns
      exact ⟨_, some o, ho, rfl, rfl, hl⟩
  obtain ⟨oe, od, J⟩ := J
  exact PySem.W.kia_one (kitx_excG T.hg T.hk T.hs T.hd T.ha T.hn T.ht T.hm) I.kIn J e (fun z => nomatch z) fun tk => ⟨.bl b, H, I.kept (t' := tk) fun _ _ z => z, rfl, q⟩
def errC (D a : Addr) (d : Option Addr) : DC where
  M := fun _ => False
  F := fun b => d = some b
  J := ErrO D a d
  mf := fun _ h => h.elim
  js := fun H H' k ⟨j1, j2⟩ => ⟨k _ _ (.inr ⟨_, rfl⟩) j1, fun dd e => let ⟨fs, h⟩ := j2 dd e; ⟨fs, k _ _ (.inl e) h⟩⟩
section
variable {Z : DC → Prop} {X : Cx} {E : XK} {e c : Expr} {p p1 pos : Pos} {y : Str} {a D : Addr} {d : Option Addr}
theorem pd_isV (i : Nat) {cV : V} {cv : Value} {b : Bool} (T : ExcC X.K D) (hZ : ∀ C, Z C → (errC D a d).Sub C) (hcv : ∀ u, RelV cV u → u = cv) (hb : PySem.W.kitOne X.K (.ref D) cv = some b)
    (he : PE X e (tVar i)) (hc : PE X c (tC cV)) (hm : X.mg "isinstance" = none) (hv : bootBuiltins "isinstance" = some (.builtin "isinstance") := by decide +kernel) (hg : Gl X "isinstance" := by rfl)
    (h1 : starEach [e, c] X.env = (false, eval e X.env) :: starEach [c] X.env := by rfl) (h2 : starEach [c] X.env = (false, eval c X.env) :: starEach [] X.env := by rfl) (hpl : (backTo pos (starEach [c] X.env)).any (·.1) = false := by rfl) :
    PD Z X E (.Call (.Name "isinstance" p) [e, c] [] pos) (wIsE i a b) := by
  refine ⟨PEimp (pe_callB (call_isV (a := a) (d := d) T) hg hm hv (pa_cons he (pa_cons hc pa_nil h2) h1) (by decide) (by decide) h1 hpl) fun σ H Q ⟨C, H0, G0, G, ρ, S, e1, q⟩ => ?_, fun ρ Q Q' Y Y' k ky ⟨e1, q⟩ => ⟨e1, k _ q⟩⟩
  obtain ⟨o, e2, e3⟩ := S.sl i _ e1
  have e3 : o = some (.ref a) := e3
  subst e3
  exact ⟨_, e2, cV, cv, b, rfl, hcv, hb, (hZ C S.z).j H S.j, q.now S.sub S.j (.bl b)⟩
end
/-! ### zip of two lists, calm -/
theorem itd_zip {K : PySem.W.Frag} {a b : Addr} {vs us : List V} {ds es : List PyData} {G0 : Hp} (h : G0 a = some (.lst vs)) (t : AtAll K G0 vs ds) (h' : G0 b = some (.lst us)) (t' : AtAll K G0 us es) (hl : ds.length = es.length) : ItD K (Itz K a b) (zipD ds es) G0 := fun i G H s1 s2 => by
  have hq : SqL K H a vs := SqL.of (s2 _ _ (s1 _ _ h))
  have hq' : SqL K H b us := SqL.of (s2 _ _ (s1 _ _ h'))
  refine ⟨fun d e => ?_, fun hle => ⟨vs, us, hq, hq', .inl (by rw [t.length]; rw [zipD_length _ _ hl] at hle; exact hle)⟩⟩
  obtain ⟨x, y, ex, ey, rfl⟩ := zipD_get ds es i e
  obtain ⟨v, e1, av⟩ := t.get' ex
  obtain ⟨u, e2, au⟩ := t'.get' ey
  refine ⟨⟨vs, us, v, u, hq, hq', e1, e2⟩, fun z H' hz => ?_⟩
  obtain ⟨T, v', u', rfl, hT, rfl, hv, hu⟩ := hz
  have f1 := hv vs hq
  rw [e1] at f1
  cases f1
  have f2 := hu us hq'
  rw [e2] at f2
  cases f2
  have x1 : Ext (fun _ => False) G H (upd G T (.tup [v, u])) (upd H T (.tup [v, u])) := Ext.new s2 hT
  exact ⟨_, x1, .tup (SqT.of upd_same) (.cons ((av.same s1).same x1.gs) (.cons ((au.same s1).same x1.gs) .nil))⟩
section
variable {Z : DC → Prop} {X : Cx} {E : XK} {e e2 : Expr} {pos p : Pos} {w w' : DW}
theorem pdi_zip {elts : List Expr} {kk : Nat} {tpos : Pos} (hm : X.mg "zip" = none) (h : PD Z X E e w) (h' : PD Z X E e2 w') (hg : Gl X "zip" := by rfl) (hs : starEach [e, e2] X.env = (false, eval e X.env) :: starEach [e2] X.env := by rfl) (hs2 : starEach [e2] X.env = (false, eval e2 X.env) :: starEach [] X.env := by rfl)
    (hpl : (backTo pos (starEach [e2] X.env)).any (·.1) = false := by rfl) : PDI Z X E (.Tuple elts kk tpos) (.Call (.Name "zip" p) [e, e2] [] pos) (wZip w w') := by
  have pi := pi_zip (p := p) (pos := pos) (tpos := tpos) (elts := elts) (kk := kk) hg hm (pa_cons h.pe (pa_cons h'.pe pa_nil hs2) hs) hs hpl
  refine ⟨⟨fun pins s σ H R I q => pi.run pins s σ H R I ?_⟩, fun ρ Q Q' Y Y' k ky q => h.mono _ _ _ _ _ (fun d q => h'.mono _ _ _ _ _ (fun d' ⟨ds, es, e1, e2, hl, q⟩ => ⟨ds, es, e1, e2, hl, k _ q⟩) ky q) ky q⟩
  obtain ⟨C, H0, G0, G, ρ, S, q⟩ := q
  refine ⟨C, H0, G0, G, ρ, S, h.mono _ _ _ _ _ (fun d q => ?_) idY q⟩
  intro v H1 G1 x1 j1 a1
  refine ⟨C, H0, G0, G1, ρ, S.step x1 j1, h'.mono _ _ _ _ _ (fun d' q => ?_) (RX.step x1) q⟩
  obtain ⟨ds, es, rfl, rfl, hl, q⟩ := q
  intro u H2 G2 x2 j2 a2
  have a1' := a1.same x2.gs
  cases a1' with
  | lst c1 t1 => cases a2 with
    | lst c2 t2 => exact ⟨_, _, _, _, rfl, SqL.of (x2.sub _ _ c1), SqL.of (x2.sub _ _ c2), q _ H2 G2 (x1.trans x2) j2 (itd_zip c1 t1 c2 t2 hl)⟩
end
/-- what _law_word keeps of an error held as a value -/
def spWordV (K : PySem.W.Frag) (mg : Str → Option Value) : Sp := fun vs H Q _ => ∃ a D d nm wd, vs = [.ref a] ∧ mg nm = some (.ref D) ∧ wordsL.lookup nm = some wd ∧ ErrO D a d H ∧ ∀ H', Same H H' → Q (.str wd) H'
end DL

namespace DL
open PySem PySem.Spec L2 HOT
/-! ### statements by hand over data -/
def SlAll (K : PySem.W.Frag) (G : Hp) : DE → L2.St → Prop
  | [], [] => True
  | sv :: ρ, o :: σ => (match sv with | .un => True | .d x => ∃ v, o = some v ∧ At K G v x | .fn a => o = some (.ref a) | _ => False) ∧ SlAll K G ρ σ
  | _, _ => False
theorem SlAll.len {K : PySem.W.Frag} {G : Hp} : ∀ {ρ : DE} {σ : L2.St}, SlAll K G ρ σ → ρ.length = σ.length
  | [], [], _ => rfl
  | [], _ :: _, h => h.elim
  | _ :: _, [], h => h.elim
  | _ :: ρ, _ :: σ, h => by rw [List.length_cons, List.length_cons, SlAll.len h.2]
theorem SlAll.get {K : PySem.W.Frag} {C : DC} {H0 G H : Hp} : ∀ {ρ : DE} {σ : L2.St} {i : Nat} {sv : SV}, SlAll K G ρ σ → ρ[i]? = some sv → (∃ o, σ[i]? = some o ∧ SVAt C K H0 G H sv o) ∧ ∀ xs, sv ≠ .ml xs
  | [], _, i, sv, _, e => by simp at e
  | _ :: _, [], i, sv, h, _ => h.elim
  | s :: ρ, o :: σ, 0, sv, h, e => by
    simp at e
    subst e
    obtain ⟨h1, _⟩ := h
    cases s with
    | un => exact ⟨⟨o, rfl, trivial⟩, fun xs z => nomatch z⟩
    | d x => exact ⟨⟨o, rfl, h1⟩, fun xs z => nomatch z⟩
    | fn a => exact ⟨⟨o, rfl, h1⟩, fun xs z => nomatch z⟩
    | ml xs => exact h1.elim
    | tp => exact h1.elim
  | s :: ρ, o :: σ, i + 1, sv, h, e => by
    have := SlAll.get (C := C) (H0 := H0) (H := H) (i := i) h.2 (by simpa using e)
    simpa using this
theorem ds_raw {K : PySem.W.Frag} {G H : Hp} {ρ : DE} {σ : L2.St} (s : Same G H) (h : SlAll K G ρ σ) : DS (fun _ => True) pureC K H G G H σ ρ :=
  ⟨trivial, Ext.refl s, fun _ z => z.elim, fun _ z => z.elim, trivial, h.len, fun i sv e => (h.get e).1, fun i j xs ys a n e1 _ _ _ => (h.get (C := pureC) (H0 := H) (H := H) e1).2 xs rfl⟩
theorem ps_never {X : Cx} {st : Stmt} : PS X st (fun _ _ _ => False) := ⟨fun _ _ _ _ _ _ h => h.elim⟩
theorem pss_never {X : Cx} {sts : List Stmt} : PSs X sts (fun _ _ _ => False) := ⟨fun _ _ _ _ _ _ h => h.elim⟩
theorem Ext.chgM {M : Addr → Prop} {G H : Hp} {p : Addr} {o : HO} (s : Same G H) (m : M p) (hg : G p = none) : Ext M G H G (upd H p o) where
  same := fun b u n e => by rw [upd_ne (fun z => n (by rw [z]; exact m))]; exact e
  there := fun b u e => by
    by_cases hb : b = p
    · exact ⟨o, by rw [hb, upd_same]⟩
    · exact ⟨u, by rw [upd_ne hb]; exact e⟩
  sub := fun b u e => by rw [upd_ne (ne_of_none e hg)]; exact s b u e
  gs := fun b u e => e
  sep := fun b u e n => n
/-! ### a party -/
structure PtyAt (K : PySem.W.Frag) (CP a : Addr) (R : List Cl) (now : PyData) (past : List PyData) (G H : Hp) : Prop where
  ex : ∃ dx fs r n l xs, H a = some (.ins CP dx fs) ∧ fs.length ≤ 10 ∧ (∀ m : Str, m ≠ ("rule_so" : Str) → m ≠ ("now" : Str) → m ≠ ("past" : Str) → fs.lookup m = none) ∧ fs.lookup ("rule_so" : Str) = some r ∧ fs.lookup ("now" : Str) = some n ∧ fs.lookup ("past" : Str) = some (.ref l) ∧
    H l = some (.lst xs) ∧ AtAll K G xs past ∧ At K G r (ruD R) ∧ At K G n now ∧ G a = none ∧ G l = none
theorem putF_len (f : Str) (v : V) : ∀ fs : List (Str × V), (putF f v fs).length ≤ fs.length + 1
  | [] => Nat.le_refl _
  | (g, x) :: r => by
    unfold putF
    split
    · simp
    · have := putF_len f v r
      simp only [List.length_cons]
      omega
theorem none_same {G H : Hp} {b : Addr} (s : Same G H) (h : H b = none) : G b = none := by
  cases e : G b with
  | none => rfl
  | some o => rw [s b o e] at h; cases h
def now0 : PyData := .tuple [sdD sd0, .tuple [], .tuple []]
def spPI (K : PySem.W.Frag) (CP : Addr) : Sp := fun vs H Q _ => ∃ a r dx G R, vs = [.ref a, r] ∧ H a = some (.ins CP dx []) ∧ Same G H ∧ G a = none ∧ At K G r (ruD R) ∧ okRu R = true ∧ ∀ H' G', Ext (fun b => b = a) G H G' H' → PtyAt K CP a R now0 [] G' H' → Q .non H'
/-! ### an own binary operator, an int on the right -/
section
variable {X : Cx} {C g : Addr} {op : Operator} {CX : CXT} {k : Nat} {fd : FuncData} {ps : List Str} {sp : Sp} {E : XK}
def rOwnI (C : Addr) (sp : Sp) (E : XK) : R2 := fun x y H Q => ∃ a dx fs i, x = .ref a ∧ y = .int i ∧ H a = some (.ins C dx fs) ∧ sp [x, y] H Q E
/-- what the class C tells of its own op with an int -/
structure BinI (K : PySem.W.Frag) (C g : Addr) (op : Operator) : Prop where
  hc : PySem.W.selfFirst K C = true
  hs : PySem.W.findIn K (.ref C) (PySem.dunder op.info.2) = some (some (.ref g))
  hf : PySem.W.isFn K (.ref g) = true
  hr : ∃ rc, PySem.W.findIn K (.ref C) (dunderR op.info.2) = some rc ∧ (rc = none ∨ ∃ g : Addr, rc = some (.ref g))
  h1 : ∃ fo, PySem.W.findIn K (.type "int") (PySem.dunder op.info.2) = some fo
  h2 : ∃ ro, PySem.W.findIn K (.type "int") (dunderR op.info.2) = some ro
  hsub : PySem.W.subIn K (.type "int") (.ref C) = some false
theorem op_binI (T : BinI X.K C g op) (F : FnOk X.prog X.w X.K X.mg X.base CX k g fd ps sp) (hb : Binds X.K fd ps []) (hr : Room k X.A) (hx : Passes CX X E) : OpR X (binaryOp op) (rOwnI C sp E) := by
  intro pins s σ H x y v u Q I rx ry h
  obtain ⟨a, dx, fs, i, rfl, rfl, ha, q⟩ := h
  cases (show v = Value.ref a from rx)
  obtain ⟨t, rfl⟩ := (show ∃ t, u = Value.int i t from ry)
  obtain ⟨mA, O, _⟩ := ins_get I.hok ha
  obtain ⟨od, J, _⟩ := O.look
  obtain ⟨m, hF⟩ := I.fr
  obtain ⟨rc, r1, r2⟩ := T.hr
  obtain ⟨fo, e1⟩ := T.h1
  obtain ⟨ro, e2⟩ := T.h2
  refine PySem.W.ksp_binT (T := "int") hF I.ok.mod.kin J rfl T.hc T.hs T.hf r1 r2 e1 e2 T.hsub ?_
  refine wpAny_mono (run_fn (us := [.ref a, .int i t]) (vs := [.ref a, .int i]) F hr hb .nil hx I (.cons rfl (.cons ⟨_, rfl⟩ .nil)) q) (fun w s' z => ?_) fun _ _ x => x
  obtain ⟨z', H', I', rz, qz⟩ := z
  exact SlX.cmpback rz ⟨z', H', I', rz, qz⟩
end
end DL

namespace DL
open PySem PySem.Spec L2 HOT
section
variable {Z : DC → Prop} {X : Cx} {E : XK} {e : Expr} {nm f : Str} {w : DW} {C : Addr} {p pos pos2 : Pos} {k : Nat}
/-- raise X(e), X with an own __init__, where no error is around -/
theorem pd1_raiseFN (T : FErr X.prog X.w X.K X.mg X.base nm f k C) (hc : X.calm = true) (hr : Room (k + 1) X.A) (tk : TkN X E) (h : PD Z X E e w) (hg : Gl X nm := by rfl)
    (hdb : (nm == ("__debug__" : Str)) = false := by decide) (he : starEach (e :: []) X.env = (false, eval e X.env) :: starEach [] X.env := by rfl) (hpl : (backTo pos (starEach [] X.env)).any (·.1) = false := by rfl) :
    PD1 Z X E (.Raise (some (.Call (.Name nm p) [e] [] pos)) none pos2) (wRaiseF nm f w) := by
  obtain ⟨fI, fd, iC, tI, F1, hb⟩ := T.init
  refine ⟨PSimp (L2N.ps_raise hc tk (pmkN_oex T.ox iC tI F1 hr hb .nil passA hg T.gC (pa_cons h.pe pa_nil he) hdb he hpl)) fun D σ H ⟨C0, H0, G0, G, ρ, S, q⟩ => ?_, fun ρ N N' R R' Y Y' k kr ky q => h.mono _ _ _ _ _ (fun d q => ky _ q) ky q⟩
  refine ⟨C0, H0, G0, G, ρ, S, h.mono _ _ _ _ _ (fun d q => ?_) (RX.step S.ext) q⟩
  intro v H1 G1 x1 j1 a1
  have S1 := S.step x1 j1
  refine ⟨by show 1 ≤ 1000; decide, fun a ha => ?_⟩
  refine ⟨a, v, rfl, upd_same, fun dx hd hda => ⟨rfl, dx, [(f, v)], upd_same, by rw [upd_ne hda, upd_same], ?_, ?_⟩⟩
  · rwa [upd_ne hda] at hd
  · have hd1 : H1 dx = none := by rwa [upd_ne hda] at hd
    have eH : upd (del (upd (upd (upd H1 a (exo a C none)) dx (exd dx [(f, v)])) a (exo a C (some dx))) a) dx (.xd [(f, v)]) = upd H1 dx (.xd [(f, v)]) := by
      funext b
      by_cases hb : b = dx
      · rw [hb, upd_same, upd_same]
      · rw [upd_ne hb, upd_ne hb]
        by_cases hb2 : b = a
        · rw [hb2, del_same, ha]
        · rw [del_ne hb2, upd_ne hb2, upd_ne hb, upd_ne hb2]
    rw [eH]
    have g1 : G1 dx = none := by
      cases z : G1 dx with
      | none => rfl
      | some o => rw [x1.sub _ _ z] at hd1; cases hd1
    have h0 : H0 dx = none := by
      cases z : H0 dx with
      | none => rfl
      | some o =>
        obtain ⟨o', e'⟩ := S1.ext.there dx o z
        rw [hd1] at e'; cases e'
    exact q C dx v _ G1 T.gC (S1.ext.trans (Ext.newM x1.sub hd1)) (C0.jnew hd1 j1) upd_same h0 g1 a1
end
/-! ### a chain as a test -/
section
variable {Z : DC → Prop} {X : Cx} {E : XK} {a b c : Expr} {wa wb wc : DW} {pos : Pos}
theorem pdt_chain {op op' : CmpOp} {p p' : Int → Int → Bool} (ho : OpR X (compareOp op) (rI0 fun i j => .bl (p i j))) (ho' : OpR X (compareOp op') (rI0 fun i j => .bl (p' i j))) (ha : PD Z X E a wa) (hb : PD Z X E b wb) (hc : PD Z X E c wc)
    (hm : lastMarks [op, op'] [b, c] = false := by with_unfolding_all rfl) : PDT Z X E (.Compare a [op, op'] [b, c] pos) (wT (wChain p p' wa wb wc)) := by
  have mo := (pd_chain (pos := pos) ho ho' ha hb hc hm).mono
  refine ⟨PTimp (pt_chain ho ho' ha.pe hb.pe hc.pe hm) fun σ H Q h => ?_, wT_mono mo⟩
  obtain ⟨C, H0, G0, G, ρ, S, q⟩ := tT_of mo σ H Q h
  refine ⟨C, H0, G0, G, ρ, S, ha.mono _ _ _ _ _ (fun x q => ?_) idY q⟩
  intro v H1 G1 x1 j1 a1
  refine ⟨C, H0, G0, G1, ρ, S.step x1 j1, hb.mono _ _ _ _ _ (fun y q => ?_) (RX.step x1) q⟩
  intro u H2 G2 x2 j2 a2
  obtain ⟨i, j, rfl, rfl, q⟩ := q
  have S2 := (S.step x1 j1).step x2 j2
  cases a1
  cases a2
  refine ⟨i, j, rfl, rfl, p i j, rfl, ?_⟩
  cases hp : p i j with
  | false =>
    rw [hp, if_neg Bool.false_ne_true] at q
    simpa using (RQ.step (RQ.step q x1) x2).now x2.sub j2 (.bl false)
  | true =>
    rw [hp, if_pos rfl] at q
    rw [if_pos rfl]
    refine ⟨C, H0, G0, G2, ρ, S2, hc.mono _ _ _ _ _ (fun z q => ?_) (fun y q => RX.step x2 y (RX.step x1 y q)) q⟩
    obtain ⟨k, rfl, q⟩ := q
    intro s H3 G3 x3 j3 a3
    cases a3
    exact ⟨j, k, rfl, rfl, (RQ.step (RQ.step (RQ.step q x1) x2) x3).now x3.sub j3 (.bl _)⟩
end
/-! ### a rule as a value -/
def RuAt (K : PySem.W.Frag) (CR a : Addr) (R : List Cl) (G H : Hp) : Prop := ∃ dx fs r, H a = some (.ins CR dx fs) ∧ (∀ m : Str, m ≠ ("rows" : Str) → fs.lookup m = none) ∧ fs.lookup ("rows" : Str) = some r ∧ At K G r (ruD R) ∧ G a = none
def spRI (K : PySem.W.Frag) (CR : Addr) : Sp := fun vs H Q _ => ∃ a r dx G R, vs = [.ref a, r] ∧ H a = some (.ins CR dx []) ∧ Same G H ∧ G a = none ∧ At K G r (ruD R) ∧ okRu R = true ∧ ∀ H' G', Ext (fun b => b = a) G H G' H' → RuAt K CR a R G' H' → Q .non H'
def spSub (K : PySem.W.Frag) (mg : Str → Option Value) (CR : Addr) : Sp := fun vs H _ E => ∃ a G, vs = [.ref a, .int 0] ∧ Same G H ∧ RuAt K CR a [] G H ∧ ∀ c H' G', mg "InvalidIndex" = some (.ref c) → Ext (fun _ => False) G H G' H' → E (.ref c) none H'
def c_check_index : FNC := fun ds Q Y => ∃ R i, ds = [ruD R, .int i] ∧ if 0 ≤ i ∧ i < (R.length : Int) then Q .none else Y (.plain "InvalidIndex")
theorem mo_check_index : MoF c_check_index := fun ds Q Q' Y Y' k ky ⟨R, i, e, q⟩ => ⟨R, i, e, by
  split
  · rename_i h; rw [if_pos h] at q; exact k _ q
  · rename_i h; rw [if_neg h] at q; exact ky _ q⟩
abbrev N_check_index : List Str := ["rule", "index"]
def W_check_index  : DWS := (wIfS (wOr (wNot (wT (wIsi .int (wVar 1)))) (wOr (wT (wIsi .bool (wVar 1))) (wNot (wT (wChain (fun i j => decide (i ≤ j)) (fun i j => decide (i < j)) (wC (.int 0)) (wVar 1) (wCall fLen (wCons (wVar 0) wNil))))))) (wRaiseP "InvalidIndex") wNx)
theorem vc_check_index : ∀ ds Q Y, c_check_index ds Q Y → ds.length = ["rule", "index"].length ∧ W_check_index (startD N_check_index ds) (fun _ => Q .none) Q Y := by
  rintro ds Q Y ⟨R, i, rfl, q⟩
  refine ⟨rfl, ?_⟩
  unfold W_check_index
  refine ⟨true, rfl, ?_⟩
  refine ⟨false, rfl, ?_⟩
  have key : ∀ b : Bool, b = decide (0 ≤ i ∧ i < (R.length : Int)) → (if (!b) = true then Y (.plain "InvalidIndex") else Q .none) := by
    rintro b rfl
    by_cases h : 0 ≤ i ∧ i < (R.length : Int)
    · rw [if_pos h] at q
      rw [decide_eq_true h]
      exact q
    · rw [if_neg h] at q
      rw [decide_eq_false h]
      exact q
  have l : ((R.map clD).length : Int) = (R.length : Int) := by rw [List.length_map]
  refine ⟨0, i, rfl, rfl, ?_⟩
  by_cases h0 : 0 ≤ i
  · rw [if_pos (decide_eq_true h0)]
    refine ⟨((R.map clD).length : Nat), rfl, _, rfl, ?_⟩
    refine key _ ?_
    rw [l]
    exact decide_eq_decide.mpr ⟨fun h => ⟨h0, h⟩, fun h => h.2⟩
  · rw [if_neg (by show ¬ (decide (0 ≤ i) = true); rw [decide_eq_false h0]; exact Bool.false_ne_true)]
    refine ⟨false, rfl, ?_⟩
    exact key false (by rw [decide_eq_false (fun h => h0 h.1)])
end DL

namespace DL
open PySem PySem.Spec L2 HOT LamX
section
variable {X : Cx} {nm f m : Str} {C : Addr} {p p2 pos : Pos} {j k i : Nat} {e : Expr} {te : TE}
/-- X('m') as a value -/
theorem pe_errP (T : PErr X.K X.mg nm C) (hg : Gl X nm := by rfl) (hdb : (nm == ("__debug__" : Str)) = false := by decide) : PE X (.Call (.Name nm p) [.Constant (.str m) j p2] [] pos) (fun σ H Q => ∀ a, H a = none → Q (.ref a) (upd H a (ExV (.ref C) none a))) :=
  pe_of_pmk (pmk_own PySem.F.excBase_ValueError T.x T.gC T.k (raises_own T.b T.t) hg hdb)
/-- X(y), X with an own __init__, as a value -/
theorem pe_errV (T : FErr X.prog X.w X.K X.mg X.base nm f k C) (hr : Room (k + 1) X.A) (h : PE X e (tVar i)) (hg : Gl X nm := by rfl)
    (hdb : (nm == ("__debug__" : Str)) = false := by decide) (he : starEach (e :: []) X.env = (false, eval e X.env) :: starEach [] X.env := by rfl) (hpl : (backTo pos (starEach [] X.env)).any (·.1) = false := by rfl) :
    PE X (.Call (.Name nm p) [e] [] pos) (fun σ H Q => ∃ v, σ[i]? = some (some v) ∧ ∀ dx, H dx = none → ∀ a, (upd H dx (.xd [(f, v)])) a = none → Q (.ref a) (upd (upd H dx (.xd [(f, v)])) a (ExV (.ref C) (some dx) a))) := by
  obtain ⟨fI, fd, iC, tI, F1, hb⟩ := T.init
  refine PEimp (pe_of_pmk (pmk_oex T.ox iC tI F1 hr hb .nil passA hg T.gC (pa_cons h pa_nil he) hdb he hpl)) fun σ H Q ⟨v, e1, q⟩ => ?_
  refine ⟨v, e1, by show 1 ≤ 1000; decide, fun a ha => ?_⟩
  refine ⟨a, v, rfl, upd_same, fun dx hd hda => ⟨rfl, dx, [(f, v)], upd_same, by rw [upd_ne hda, upd_same], ?_, ?_⟩⟩
  · rwa [upd_ne hda] at hd
  · have hd1 : H dx = none := by rwa [upd_ne hda] at hd
    have eH : upd (del (upd (upd (upd H a (exo a C none)) dx (exd dx [(f, v)])) a (exo a C (some dx))) a) dx (.xd [(f, v)]) = upd H dx (.xd [(f, v)]) := by
      funext b
      by_cases hb : b = dx
      · rw [hb, upd_same, upd_same]
      · rw [upd_ne hb, upd_ne hb]
        by_cases hb2 : b = a
        · rw [hb2, del_same, ha]
        · rw [del_ne hb2, upd_ne hb2, upd_ne hb, upd_ne hb2]
    rw [eH]
    exact q dx hd1
/-- e.f, e such an error held as a value -/
theorem pe_errF (T : FErr X.prog X.w X.K X.mg X.base nm f k C) (he : PE X e te) (hb : attributeBase e f X.env (eval e X.env) = eval e X.env := by rfl) :
    PE X (.Attribute e f pos) (fun σ H Q => te σ H fun x H1 => ∃ a dd v, x = .ref a ∧ H1 a = some (ExV (.ref C) (some dd) a) ∧ H1 dd = some (.xd [(f, v)]) ∧ Q v H1) := by
  refine ⟨fun pins s σ H Q I h => ?_⟩
  refine attr_of hb (thn (he.run pins s σ H _ I h) fun u s1 hh => ?_)
  obtain ⟨x, H1, I1, rx, a, dd, v, ex, ha, ea, q⟩ := hh
  subst ex
  obtain rfl : u = Value.ref a := rx
  obtain ⟨⟨oe, vs, ho, hz, hd⟩, _⟩ := (show ObjOk X.prog X.w H1 s1.heap a (ExV (.ref C) (some dd) a) from I1.hok a _ ha)
  obtain ⟨mA, hns, hr⟩ := (show ObjOk X.prog X.w H1 s1.heap dd (.xd [(f, v)]) from I1.hok dd _ ea)
  obtain ⟨od, ho2, hl⟩ := lookIn_ns hns
  have l : List.lookup f [(f, v)] = some v := by simp [List.lookup]
  obtain ⟨u, hu, ru⟩ := RelO.some_of (v := v) (o := mA f) (by rw [← l]; exact hr f)
  have J : PySem.W.InstAt s1.heap a oe C (some od) := ⟨ho, hz.1, by unfold PySem.W.notCls; rw [hd] <;> rfl, by rw [hz.2]; exact ho2⟩
  exact HandSPX.exc_get I1.kIn J T.ga T.gg T.ox.exC (PySem.W.findObj_own T.hdC T.noN rfl (by rw [hl, hu])) (handed_of ru) ⟨v, H1, I1.tok _, ru, q⟩
/-- isinstance(e, c) of any error held as a value -/
def rIsX (K : PySem.W.Frag) : List V → Hp → VK → Prop := fun xs H Q => ∃ a D d c cv b, xs = [.ref a, c] ∧ ExcC K D ∧ (∀ u, RelV c u → u = cv) ∧ PySem.W.kitOne K (.ref D) cv = some b ∧ ErrO D a d H ∧ Q (.bl b) H
theorem call_isX : CallR X (.builtin "isinstance") (rIsX X.K) := by
  intro pins s σ H xs us Q I r h
  obtain ⟨a, D, d, c, cv, b, rfl, T, hcv, e, hd, q⟩ := h
  exact call_isV T pins s σ H _ us Q I r ⟨c, cv, b, rfl, hcv, e, hd, q⟩
theorem kit_yes {K : PySem.W.Frag} {C D : Addr} (hd : PySem.W.hasDictIn K D = true) (ht : PySem.W.typeIn K (.ref D) = some (.type "type")) (h : PySem.W.subIn K (.ref C) (.ref D) = some true) : PySem.W.kitOne K (.ref C) (.ref D) = some true := by
  unfold PySem.W.kitOne
  split
  · rfl
  · obtain ⟨cd, hc, _⟩ := PySem.W.any_some hd
    have e2 : ((PySem.W.clsIn K D).isSome && PySem.W.typeIn K (.ref D) == some (.type "type")) = true := by rw [hc, ht] <;> rfl
    show (if ((PySem.W.clsIn K D).isSome && PySem.W.typeIn K (.ref D) == some (.type "type")) = true then PySem.W.subIn K (.ref C) (.ref D) else none) = some true
    rw [if_pos e2]
    exact h
end
/-! ### rows of errors -/
def RowsAt (mg : Str → Option Value) (H : Hp) : List Addr → List (Str × Str) → Prop
  | [], [] => True
  | e :: es, p :: ps => (∃ D d, mg p.1 = some (.ref D) ∧ wordsL.lookup p.1 = some p.2 ∧ ErrO D e d H) ∧ RowsAt mg H es ps
  | _, _ => False
theorem ErrO.same {D a : Addr} {d : Option Addr} {H H' : Hp} (s : Same H H') (h : ErrO D a d H) : ErrO D a d H' := ⟨s _ _ h.1, fun dd e => let ⟨fs, z⟩ := h.2 dd e; ⟨fs, s _ _ z⟩⟩
theorem RowsAt.same {mg : Str → Option Value} {H H' : Hp} (s : Same H H') : ∀ {es : List Addr} {ps : List (Str × Str)}, RowsAt mg H es ps → RowsAt mg H' es ps
  | [], [], _ => trivial
  | [], _ :: _, h => h.elim
  | _ :: _, [], h => h.elim
  | e :: es, p :: ps, ⟨⟨D, d, h1, h2, h3⟩, h⟩ => ⟨⟨D, d, h1, h2, h3.same s⟩, RowsAt.same s h⟩
theorem RowsAt.len {mg : Str → Option Value} {H : Hp} : ∀ {es : List Addr} {ps : List (Str × Str)}, RowsAt mg H es ps → es.length = ps.length
  | [], [], _ => rfl
  | [], _ :: _, h => h.elim
  | _ :: _, [], h => h.elim
  | e :: es, p :: ps, ⟨_, h⟩ => by rw [List.length_cons, List.length_cons, RowsAt.len h]
theorem RowsAt.get {mg : Str → Option Value} {H : Hp} : ∀ {es : List Addr} {ps : List (Str × Str)} {i : Nat} {e : Addr}, RowsAt mg H es ps → es[i]? = some e → ∃ p D d, ps[i]? = some p ∧ mg p.1 = some (.ref D) ∧ wordsL.lookup p.1 = some p.2 ∧ ErrO D e d H
  | [], [], i, e, _, h => by simp at h
  | [], _ :: _, _, _, h, _ => h.elim
  | _ :: _, [], _, _, h, _ => h.elim
  | a :: es, p :: ps, 0, e, ⟨⟨D, d, h1, h2, h3⟩, _⟩, h => by
    simp at h
    subst h
    exact ⟨p, D, d, rfl, h1, h2, h3⟩
  | a :: es, p :: ps, i + 1, e, ⟨_, h⟩, he => by simpa using RowsAt.get (i := i) h (by simpa using he)
theorem same_upd {H : Hp} {a : Addr} {o : HO} (h : H a = none) : Same H (upd H a o) := fun b u e => by rw [upd_ne (ne_of_none e h)]; exact e
end DL

namespace DL
open PySem PySem.Spec L2 LamX HOT
open PyProof.Rows (envOfC)
def top (i : Nat) : Stmt := PySem.Challenge.pw_boughttwice_k19_names_of_refusals.main.body.getD i (.Pass ⟨0, 0, 0, 0⟩)
structure Tx (K : PySem.W.Frag) (mg : Str → Option Value) : Prop where
  nValueError : mg "ValueError" = none
  nbool : mg "bool" = none
  nenumerate : mg "enumerate" = none
  nint : mg "int" = none
  nisinstance : mg "isinstance" = none
  nlen : mg "len" = none
  nlist : mg "list" = none
  nstr : mg "str" = none
  ntuple : mg "tuple" = none
  nzip : mg "zip" = none
  kBEGINNER : ∃ a : Addr, mg "BEGINNER" = some (.ref a) ∧ ∀ H, At K H (.ref a) BEGINd
  kDEEDS : ∃ a : Addr, mg "DEEDS" = some (.ref a) ∧ ∀ H, At K H (.ref a) DEEDSd
  kEVENTS : ∃ a : Addr, mg "EVENTS" = some (.ref a) ∧ ∀ H, At K H (.ref a) EVENTSd
  kMOST : ∃ v, mg "MOST" = some v ∧ RelV (.int 40) v
  kTESTS : ∃ a : Addr, mg "TESTS" = some (.ref a) ∧ ∀ H, At K H (.ref a) TESTSd
section
variable {P : Program} {w : World} {K : PySem.W.Frag} {mg : Str → Option Value} {base : Heap}
abbrev s_is_test : Stmt := top 20
theorem sc_is_test : FnScope N_is_test ["value"] (defScope s_is_test) := ⟨rfl, rfl, rfl, by decide +kernel, rfl, by decide +kernel, by decide +kernel⟩
theorem fd_is_test  (T : Tx K mg) (D : Def K mg "is_test" "is_test" s_is_test ["value"]) : FD P w K mg base CX0 "is_test" ["value"] (0 + 1) (spP K mg c_is_test) := by
  obtain ⟨f, fd, F, hm, hb⟩ := D.ex
  refine ⟨f, fd, fn_pure (W := W_is_test) F sc_is_test (vc_is_test) (fun cdv A outer s H E hr => ?_), hm, F.kp, hb⟩
  have hu := hr.units
  exact (pds_cons (pd1_if (pdt_not (pdt_val (pd_isi .str (pe_ty .str T.nstr (by rfl) (by decide +kernel) (by decide) (by decide)) T.nisinstance (pd_var 0)))) (pds_one (pd1_ret pd_bl)) pds_nil)
      (pds_one (pd1_ret (pd_or (pd_in (pd_var 0) (pd_globE T.kTESTS)) (pd_one (pd_and (pd_eq hu (pd_slice (pd_var 0) pdo_none (pdo_some pd_int)) pd_str) (pd_one (pd_in (pd_slice (pd_var 0) (pdo_some pd_int) pdo_none) (pd_globE T.kTESTS)))))))))
abbrev s_is_clause : Stmt := top 21
theorem sc_is_clause : FnScope N_is_clause ["value"] (defScope s_is_clause) := ⟨rfl, rfl, rfl, by decide +kernel, rfl, by decide +kernel, by decide +kernel⟩
theorem fd_is_clause  (T : Tx K mg) (D : Def K mg "is_clause" "is_clause" s_is_clause ["value"]) (Fis_test : FD P w K mg base CX0 "is_test" ["value"] 1 (spP K mg c_is_test)): FD P w K mg base CX0 "is_clause" ["value"] (1 + 1) (spP K mg c_is_clause) := by
  obtain ⟨f, fd, F, hm, hb⟩ := D.ex
  refine ⟨f, fd, fn_pure (W := W_is_clause) F sc_is_clause (vc_is_clause) (fun cdv A outer s H E hr => ?_), hm, F.kp, hb⟩
  have hu := hr.units
  exact (pds_cons (pd1_if (pdw_or (pdt_not (pdt_val (pd_isi .tuple (pe_ty .tuple T.ntuple (by rfl) (by decide +kernel) (by decide) (by decide)) T.nisinstance (pd_var 0)))) (pdw_or (pdt_ne hu (pd_len T.nlen (pda_cons (pd_var 0) pda_nil)) pd_int) (pdw_or (pdt_not (pdt_val (pd_isi .tuple (pe_ty .tuple T.ntuple (by rfl) (by decide +kernel) (by decide) (by decide)) T.nisinstance (pd_ix (pd_var 0) pd_int)))) (pdw_or1 (pdt_gt (pd_len T.nlen (pda_cons (pd_ix (pd_var 0) pd_int) pda_nil)) pd_int))))).pt (pds_one (pd1_ret pd_bl)) pds_nil)
      (pds_cons (pd1_if (pdt_ne hu (pd_ofF (pf_lc (own := [("test", 1)]) (t := (.one 1)) rfl sc_is_clause.nd (pdi_tup (pd_ix (pd_var 0) pd_int)) (blkOk_by (N := N_is_clause) (sc := defScope s_is_clause) (by decide +kernel)) (fun _ _ _ _ _ => (pgd_one (i := 1) sc_is_clause.nd)) (fun _ _ _ _ _ => (pdts_one (pdt_not (pdt_val (pd_call Fis_test mo_is_test (hr.mono (by first | decide | omega)) passA (pda_cons (pd_var 1) pda_nil)))))) (fun _ _ _ _ _ => (pd_var 1)))) (pd_lst pda_nil)) (pds_one (pd1_ret pd_bl)) pds_nil)
      (pds_one (pd1_ret (pd_and (pd_isi .str (pe_ty .str T.nstr (by rfl) (by decide +kernel) (by decide) (by decide)) T.nisinstance (pd_ix (pd_var 0) pd_int)) (pd_one (pd_in (pd_ix (pd_var 0) pd_int) (pd_globE T.kDEEDS))))))))
abbrev s_is_rule : Stmt := top 22
theorem sc_is_rule : FnScope N_is_rule ["value"] (defScope s_is_rule) := ⟨rfl, rfl, rfl, by decide +kernel, rfl, by decide +kernel, by decide +kernel⟩
theorem fd_is_rule  (T : Tx K mg) (D : Def K mg "is_rule" "is_rule" s_is_rule ["value"]) (Fis_clause : FD P w K mg base CX0 "is_clause" ["value"] 2 (spP K mg c_is_clause)): FD P w K mg base CX0 "is_rule" ["value"] (2 + 1) (spP K mg c_is_rule) := by
  obtain ⟨f, fd, F, hm, hb⟩ := D.ex
  refine ⟨f, fd, fn_pure (W := W_is_rule) F sc_is_rule (vc_is_rule) (fun cdv A outer s H E hr => ?_), hm, F.kp, hb⟩
  have hu := hr.units
  exact (pds_cons (pd1_if (pdw_or (pdt_not (pdt_val (pd_isi .tuple (pe_ty .tuple T.ntuple (by rfl) (by decide +kernel) (by decide) (by decide)) T.nisinstance (pd_var 0)))) (pdw_or1 (pdt_gt (pd_len T.nlen (pda_cons (pd_var 0) pda_nil)) pd_int))).pt (pds_one (pd1_ret pd_bl)) pds_nil)
      (pds_one (pd1_ret (pd_eq hu (pd_ofF (pf_lc (own := [("clause", 1)]) (t := (.one 1)) rfl sc_is_rule.nd (pdi_tup (pd_var 0)) (blkOk_by (N := N_is_rule) (sc := defScope s_is_rule) (by decide +kernel)) (fun _ _ _ _ _ => (pgd_one (i := 1) sc_is_rule.nd)) (fun _ _ _ _ _ => (pdts_one (pdt_not (pdt_val (pd_call Fis_clause mo_is_clause (hr.mono (by first | decide | omega)) passA (pda_cons (pd_var 1) pda_nil)))))) (fun _ _ _ _ _ => (pd_var 1)))) (pd_lst pda_nil)))))
abbrev s_check_rule : Stmt := top 23
theorem sc_check_rule : FnScope N_check_rule ["rule"] (defScope s_check_rule) := ⟨rfl, rfl, rfl, by decide +kernel, rfl, by decide +kernel, by decide +kernel⟩
theorem fd_check_rule  (T : Tx K mg) (D : Def K mg "check_rule" "check_rule" s_check_rule ["rule"]) (Fis_rule : FD P w K mg base CX0 "is_rule" ["value"] 3 (spP K mg c_is_rule)): FD P w K mg base CX0 "check_rule" ["rule"] (3 + 1) (spP K mg c_check_rule) := by
  obtain ⟨f, fd, F, hm, hb⟩ := D.ex
  refine ⟨f, fd, fn_pure (W := W_check_rule) F sc_check_rule (vc_check_rule) (fun cdv A outer s H E hr => ?_), hm, F.kp, hb⟩
  have hu := hr.units
  exact (pds_one (pd1_if (pdt_not (pdt_val (pd_call Fis_rule mo_is_rule (hr.mono (by first | decide | omega)) passA (pda_cons (pd_var 0) pda_nil)))) (pds_one pd1_never) pds_nil))
abbrev s_holds : Stmt := top 24
theorem sc_holds : FnScope N_holds ["test", "house", "copy"] (defScope s_holds) := ⟨rfl, rfl, rfl, by decide +kernel, rfl, by decide +kernel, by decide +kernel⟩
theorem fd_holds (n : Nat) (T : Tx K mg) (D : Def K mg "holds" "holds" s_holds ["test", "house", "copy"]) (Fholds : FD P w K mg base CX0 "holds" ["test", "house", "copy"] (n + 1) (spP K mg (c_holds n))): FD P w K mg base CX0 "holds" ["test", "house", "copy"] ((n + 1) + 1) (spP K mg (c_holds (n + 1))) := by
  obtain ⟨f, fd, F, hm, hb⟩ := D.ex
  refine ⟨f, fd, fn_pure (W := W_holds n) F sc_holds (vc_holds n) (fun cdv A outer s H E hr => ?_), hm, F.kp, hb⟩
  have hu := hr.units
  exact (pds_cons (pd1_if (pdt_eq hu (pd_slice (pd_var 0) pdo_none (pdo_some pd_int)) pd_str) (pds_one (pd1_ret (pd_not (pd_call Fholds (mo_holds n) (hr.mono (by first | decide | omega)) passA (pda_cons (pd_slice (pd_var 0) (pdo_some pd_int) pdo_none) (pda_cons (pd_var 1) (pda_cons (pd_var 2) pda_nil))))))) pds_nil)
      (pds_cons (pd1_if (pdt_eq hu (pd_var 0) pd_str) (pds_one (pd1_ret (pd_ix (pd_var 2) pd_int))) pds_nil)
      (pds_cons (pd1_if (pdt_eq hu (pd_var 0) pd_str) (pds_one (pd1_ret (pd_ix (pd_var 2) pd_int))) pds_nil)
      (pds_one (pd1_ret (pd_eq hu (pd_if (pdt_eq hu (pd_slice (pd_var 0) pdo_none (pdo_some pd_int)) pd_str) (pd_var 1) (pd_ix (pd_var 2) pd_int)) (pd_ix (pd_split (pd_var 0) pd_str) pd_int)))))))
abbrev s_clause_of : Stmt := top 25
theorem sc_clause_of : FnScope N_clause_of ["rule", "house", "copy"] (defScope s_clause_of) := ⟨rfl, rfl, rfl, by decide +kernel, rfl, by decide +kernel, by decide +kernel⟩
theorem fd_clause_of  (T : Tx K mg) (D : Def K mg "clause_of" "clause_of" s_clause_of ["rule", "house", "copy"]) (Fholds : FD P w K mg base CX0 "holds" ["test", "house", "copy"] 3 (spP K mg (c_holds 2))): FD P w K mg base CX0 "clause_of" ["rule", "house", "copy"] (3 + 1) (spP K mg c_clause_of) := by
  obtain ⟨f, fd, F, hm, hb⟩ := D.ex
  refine ⟨f, fd, fn_pure (W := W_clause_of) F sc_clause_of (vc_clause_of) (fun cdv A outer s H E hr => ?_), hm, F.kp, hb⟩
  have hu := hr.units
  exact (pds_cons (pd1_for PassesOwn.never rfl (pdi_enumT T.nenumerate (pd_var 0)) (pgd_tup (is := [3, 4]) rfl (pgs_cons (pg_name (i := 3) sc_clause_of.nd rfl (by first | exact Or.inl rfl | exact Or.inr rfl)) (pgs_cons (pg_name (i := 4) sc_clause_of.nd rfl (by first | exact Or.inl rfl | exact Or.inr rfl)) pgs_nil))) (pds_one (pd1_if (pdt_eq hu (pd_ofF (pf_lc (own := [("test", 5)]) (t := (.one 5)) rfl sc_clause_of.nd (pdi_tup (pd_ix (pd_var 4) pd_int)) (blkOk_by (N := N_clause_of) (sc := defScope s_clause_of) (by decide +kernel)) (fun _ _ _ _ _ => (pgd_one (i := 5) sc_clause_of.nd)) (fun _ _ _ _ _ => (pdts_one (pdt_not (pdt_val (pd_call Fholds (mo_holds 2) (hr.mono (by first | decide | omega)) passA (pda_cons (pd_var 5) (pda_cons (pd_var 1) (pda_cons (pd_var 2) pda_nil)))))))) (fun _ _ _ _ _ => (pd_var 5)))) (pd_lst pda_nil)) (pds_one (pd1_ret (pd_var 3))) pds_nil)))
      (pds_one (pd1_ret pd_non)))
abbrev s_met : Stmt := top 26
theorem sc_met : FnScope N_met ["rule", "house", "copy"] (defScope s_met) := ⟨rfl, rfl, rfl, by decide +kernel, rfl, by decide +kernel, by decide +kernel⟩
theorem fd_met  (T : Tx K mg) (D : Def K mg "met" "met" s_met ["rule", "house", "copy"]) (Fclause_of : FD P w K mg base CX0 "clause_of" ["rule", "house", "copy"] 4 (spP K mg c_clause_of)): FD P w K mg base CX0 "met" ["rule", "house", "copy"] (4 + 1) (spP K mg c_met) := by
  obtain ⟨f, fd, F, hm, hb⟩ := D.ex
  refine ⟨f, fd, fn_pure (W := W_met) F sc_met (vc_met) (fun cdv A outer s H E hr => ?_), hm, F.kp, hb⟩
  have hu := hr.units
  exact (pds_cons (pd1_set 3 (pd_call Fclause_of mo_clause_of (hr.mono (by first | decide | omega)) passA (pda_cons (pd_var 0) (pda_cons (pd_var 1) (pda_cons (pd_var 2) pda_nil)))) sc_met.nd)
      (pds_cons (pd1_set 4 (pd_if (pdt_isN (pd_var 3)) pd_str (pd_ix (pd_ix (pd_var 0) (pd_var 3)) pd_int)) sc_met.nd)
      (pds_cons (pd1_if (pdt_eq hu (pd_var 4) pd_str) (pds_one (pd1_ret (pd_tup (pda_cons (pd_var 1) (pda_cons (pd_var 2) pda_nil))))) pds_nil)
      (pds_cons (pd1_set 5 (pd_if (pdt_eq hu (pd_var 4) pd_str) (pd_var 1) (pd_if (pdt_eq hu (pd_var 4) pd_str) (pd_ix (pd_var 2) pd_int) (pd_var 4))) sc_met.nd)
      (pds_one (pd1_ret (pd_tup (pda_cons (pd_var 5) (pda_cons (pd_tup (pda_cons (pd_var 5) (pda_cons pd_bl (pda_cons pd_bl (pda_cons (pd_ix (pd_var 2) pd_int) pda_nil))))) pda_nil)))))))))
abbrev s_stale : Stmt := top 38
theorem sc_stale : FnScope N_stale ["copy"] (defScope s_stale) := ⟨rfl, rfl, rfl, by decide +kernel, rfl, by decide +kernel, by decide +kernel⟩
theorem fd_stale  (T : Tx K mg) (D : Def K mg "stale" "stale" s_stale ["copy"]) : FD P w K mg base CX0 "stale" ["copy"] (0 + 1) (spP K mg c_stale) := by
  obtain ⟨f, fd, F, hm, hb⟩ := D.ex
  refine ⟨f, fd, fn_pure (W := W_stale) F sc_stale (vc_stale) (fun cdv A outer s H E hr => ?_), hm, F.kp, hb⟩
  have hu := hr.units
  exact (pds_one (pd1_ret (pd_tup (pda_cons (pd_ix (pd_var 0) pd_int) (pda_cons (pd_ix (pd_var 0) pd_int) (pda_cons pd_bl (pda_cons (pd_ix (pd_var 0) pd_int) pda_nil)))))))
abbrev s_first_stand : Stmt := top 39
theorem sc_first_stand : FnScope N_first_stand [] (defScope s_first_stand) := ⟨rfl, rfl, rfl, by decide +kernel, rfl, by decide +kernel, by decide +kernel⟩
theorem fd_first_stand  (T : Tx K mg) (D : Def K mg "first_stand" "first_stand" s_first_stand []) : FD P w K mg base CX0 "first_stand" [] (0 + 1) (spP K mg c_first_stand) := by
  obtain ⟨f, fd, F, hm, hb⟩ := D.ex
  refine ⟨f, fd, fn_pure (W := W_first_stand) F sc_first_stand (vc_first_stand) (fun cdv A outer s H E hr => ?_), hm, F.kp, hb⟩
  have hu := hr.units
  exact (pds_one (pd1_ret (pd_tup (pda_cons pd_str (pda_cons pd_bl (pda_cons pd_bl (pda_cons (pd_tup pda_nil) pda_nil)))))))
abbrev s_bought : Stmt := top 36
theorem sc_bought : FnScope N_bought ["lead", "copy"] (defScope s_bought) := ⟨rfl, rfl, rfl, by decide +kernel, rfl, by decide +kernel, by decide +kernel⟩
theorem fd_bought  (T : Tx K mg) (D : Def K mg "bought" "bought" s_bought ["lead", "copy"]) : FD P w K mg base CX0 "bought" ["lead", "copy"] (0 + 1) (spP K mg c_bought) := by
  obtain ⟨f, fd, F, hm, hb⟩ := D.ex
  refine ⟨f, fd, fn_pure (W := W_bought) F sc_bought (vc_bought) (fun cdv A outer s H E hr => ?_), hm, F.kp, hb⟩
  have hu := hr.units
  exact (pds_cons (pd1_setT (pd_var 0) (pgd_tup (is := [2, 3, 4]) rfl (pgs_cons (pg_name (i := 2) sc_bought.nd rfl (by first | exact Or.inl rfl | exact Or.inr rfl)) (pgs_cons (pg_name (i := 3) sc_bought.nd rfl (by first | exact Or.inl rfl | exact Or.inr rfl)) (pgs_cons (pg_name (i := 4) sc_bought.nd rfl (by first | exact Or.inl rfl | exact Or.inr rfl)) pgs_nil)))))
      (pds_cons (pd1_set 5 (pd_if (pdw_and (pdt_val (pd_var 3)) (pdw_and1 (pdt_val (pd_var 4)))).pt (pd_lst (pda_cons pd_str pda_nil)) (pd_if (pdt_val (pd_var 3)) (pd_lst pda_nil) (pd_lst (pda_cons pd_str pda_nil)))) sc_bought.nd)
      (pds_one (pd1_ret (pd_tup (pda_cons (pd_tup (pda_cons (pd_var 2) (pda_cons (pd_var 3) (pda_cons pd_bl pda_nil)))) (pda_cons (pd_tup (pda_cons pd_str (pda_cons pd_bl (pda_cons (pd_ix (pd_var 1) pd_int) (pda_cons (pd_not (pd_var 4)) pda_nil))))) (pda_cons (pd_var 5) pda_nil))))))))
abbrev s_met_so : Stmt := top 37
theorem sc_met_so : FnScope N_met_so ["rule", "lead", "copy"] (defScope s_met_so) := ⟨rfl, rfl, rfl, by decide +kernel, rfl, by decide +kernel, by decide +kernel⟩
theorem fd_met_so  (T : Tx K mg) (D : Def K mg "met_so" "met_so" s_met_so ["rule", "lead", "copy"]) (Fmet : FD P w K mg base CX0 "met" ["rule", "house", "copy"] 5 (spP K mg c_met)): FD P w K mg base CX0 "met_so" ["rule", "lead", "copy"] (5 + 1) (spP K mg c_met_so) := by
  obtain ⟨f, fd, F, hm, hb⟩ := D.ex
  refine ⟨f, fd, fn_pure (W := W_met_so) F sc_met_so (vc_met_so) (fun cdv A outer s H E hr => ?_), hm, F.kp, hb⟩
  have hu := hr.units
  exact (pds_cons (pd1_setT (pd_var 1) (pgd_tup (is := [3, 4, 5]) rfl (pgs_cons (pg_name (i := 3) sc_met_so.nd rfl (by first | exact Or.inl rfl | exact Or.inr rfl)) (pgs_cons (pg_name (i := 4) sc_met_so.nd rfl (by first | exact Or.inl rfl | exact Or.inr rfl)) (pgs_cons (pg_name (i := 5) sc_met_so.nd rfl (by first | exact Or.inl rfl | exact Or.inr rfl)) pgs_nil)))))
      (pds_cons (pd1_setT (pd_call Fmet mo_met (hr.mono (by first | decide | omega)) passA (pda_cons (pd_var 0) (pda_cons (pd_var 3) (pda_cons (pd_var 2) pda_nil)))) (pgd_tup (is := [6, 7]) rfl (pgs_cons (pg_name (i := 6) sc_met_so.nd rfl (by first | exact Or.inl rfl | exact Or.inr rfl)) (pgs_cons (pg_name (i := 7) sc_met_so.nd rfl (by first | exact Or.inl rfl | exact Or.inr rfl)) pgs_nil))))
      (pds_cons (pd1_parM (i := 8) (j := 9) rfl (pf_lst pda_nil) (pd_tup (pda_cons (pd_tup (pda_cons (pd_var 3) (pda_cons (pd_var 6) pda_nil))) (pda_cons (pd_tup (pda_cons (pd_ix (pd_var 2) pd_int) (pda_cons (pd_ix (pd_var 7) pd_int) pda_nil))) pda_nil))) sc_met_so.nd)
      (pds_cons (pd1_if (pdw_and (pdt_val (pd_var 4)) (pdw_and (pdt_not (pdt_val (pd_var 5))) (pdw_and (pdt_in pd_str (pd_tup (pda_cons (pd_var 3) (pda_cons (pd_ix (pd_var 2) pd_int) pda_nil)))) (pdw_and1 (pdt_notin pd_str (pd_tup (pda_cons (pd_var 6) (pda_cons (pd_ix (pd_var 7) pd_int) pda_nil)))))))).pt (pds_one (pd1_app 8 pd_str (pv 8))) pds_nil)
      (pds_cons (pd1_if (pdw_and (pdt_val (pd_var 4)) (pdw_and (pdt_val (pd_var 5)) (pdw_and1 (pdt_inT (room65 hr) (pd_tup (pda_cons pd_str (pda_cons pd_str pda_nil))) (pd_var 9))))).pt (pds_one (pd1_app 8 pd_str (pv 8))) pds_nil)
      (pds_cons (pd1_if (pdw_and (pdt_not (pdt_val (pd_var 4))) (pdw_and1 (pdt_ne hu (pd_ofF (pf_lc (own := [("pair", 10)]) (t := (.one 10)) rfl sc_met_so.nd (pdi_tup (pd_var 9)) (blkOk_by (N := N_met_so) (sc := defScope s_met_so) (by decide +kernel)) (fun _ _ _ _ _ => (pgd_one (i := 10) sc_met_so.nd)) (fun _ _ _ _ _ => (pdts_one (pdw_and (pdt_ne hu (pd_ix (pd_var 10) pd_int) pd_str) (pdw_and1 (pdt_eq hu (pd_ix (pd_var 10) pd_int) pd_str))).pt)) (fun _ _ _ _ _ => (pd_var 10)))) (pd_lst pda_nil)))).pt (pds_one (pd1_app 8 pd_str (pv 8))) pds_nil)
      (pds_one (pd1_frz 8 (pd1_ret (pd_tup (pda_cons (pd_tup (pda_cons (pd_var 6) (pda_cons (pd_var 4) (pda_cons (pd_var 5) pda_nil)))) (pda_cons (pd_var 7) (pda_cons (pd_var 8) pda_nil)))))))))))))
abbrev s_acted : Stmt := top 35
theorem sc_acted : FnScope N_acted ["rule", "lead", "copy", "event"] (defScope s_acted) := ⟨rfl, rfl, rfl, by decide +kernel, rfl, by decide +kernel, by decide +kernel⟩
theorem fd_acted  (T : Tx K mg) (D : Def K mg "acted" "acted" s_acted ["rule", "lead", "copy", "event"]) (Fmet_so : FD P w K mg base CX0 "met_so" ["rule", "lead", "copy"] 6 (spP K mg c_met_so)) (Fbought : FD P w K mg base CX0 "bought" ["lead", "copy"] 1 (spP K mg c_bought)): FD P w K mg base CX0 "acted" ["rule", "lead", "copy", "event"] (6 + 1) (spP K mg c_acted) := by
  obtain ⟨f, fd, F, hm, hb⟩ := D.ex
  refine ⟨f, fd, fn_pure (W := W_acted) F sc_acted (vc_acted) (fun cdv A outer s H E hr => ?_), hm, F.kp, hb⟩
  have hu := hr.units
  exact (pds_cons (pd1_setT (pd_var 1) (pgd_tup (is := [4, 5, 6]) rfl (pgs_cons (pg_name (i := 4) sc_acted.nd rfl (by first | exact Or.inl rfl | exact Or.inr rfl)) (pgs_cons (pg_name (i := 5) sc_acted.nd rfl (by first | exact Or.inl rfl | exact Or.inr rfl)) (pgs_cons (pg_name (i := 6) sc_acted.nd rfl (by first | exact Or.inl rfl | exact Or.inr rfl)) pgs_nil)))))
      (pds_cons (pd1_setT (pd_var 2) (pgd_tup (is := [7, 8, 9, 10]) rfl (pgs_cons (pg_name (i := 7) sc_acted.nd rfl (by first | exact Or.inl rfl | exact Or.inr rfl)) (pgs_cons (pg_name (i := 8) sc_acted.nd rfl (by first | exact Or.inl rfl | exact Or.inr rfl)) (pgs_cons (pg_name (i := 9) sc_acted.nd rfl (by first | exact Or.inl rfl | exact Or.inr rfl)) (pgs_cons (pg_name (i := 10) sc_acted.nd rfl (by first | exact Or.inl rfl | exact Or.inr rfl)) pgs_nil))))))
      (pds_cons (pd1_if (pdt_eq hu (pd_var 3) pd_str) (pds_one (pd1_ret (pd_call Fmet_so mo_met_so (hr.mono (by first | decide | omega)) passA (pda_cons (pd_var 0) (pda_cons (pd_var 1) (pda_cons (pd_var 2) pda_nil)))))) pds_nil)
      (pds_cons (pd1_if (pdt_eq hu (pd_var 3) pd_str) (pds_one (pd1_ret (pd_tup (pda_cons (pd_tup (pda_cons (pd_var 4) (pda_cons pd_bl (pda_cons (pd_var 6) pda_nil)))) (pda_cons (pd_tup (pda_cons pd_str (pda_cons pd_bl (pda_cons (pd_var 9) (pda_cons (pd_var 10) pda_nil))))) (pda_cons (pd_lst pda_nil) pda_nil)))))) pds_nil)
      (pds_cons (pd1_if (pdt_eq hu (pd_var 3) pd_str) (pds_one (pd1_ret (pd_if (pdt_eq hu (pd_var 7) pd_str) (pd_tup (pda_cons (pd_tup (pda_cons (pd_var 4) (pda_cons pd_bl (pda_cons (pd_var 6) pda_nil)))) (pda_cons (pd_tup (pda_cons pd_str (pda_cons pd_bl (pda_cons (pd_var 9) (pda_cons (pd_var 10) pda_nil))))) (pda_cons (pd_lst pda_nil) pda_nil)))) pd_non))) pds_nil)
      (pds_cons (pd1_if (pdt_eq hu (pd_var 3) pd_str) (pds_one (pd1_ret (pd_if (pdt_eq hu (pd_var 7) pd_str) (pd_tup (pda_cons (pd_var 1) (pda_cons (pd_tup (pda_cons pd_str (pda_cons pd_bl (pda_cons (pd_var 9) (pda_cons (pd_var 10) pda_nil))))) (pda_cons (pd_lst pda_nil) pda_nil)))) pd_non))) pds_nil)
      (pds_cons (pd1_if (pdt_eq hu (pd_var 3) pd_str) (pds_one (pd1_ret (pd_if (pdw_and (pdt_eq hu (pd_var 7) pd_str) (pdw_and1 (pdt_not (pdt_val (pd_var 10))))).pt (pd_call Fbought mo_bought (hr.mono (by first | decide | omega)) passA (pda_cons (pd_var 1) (pda_cons (pd_var 2) pda_nil))) pd_non))) pds_nil)
      (pds_cons (pd1_if (pdt_not (pdt_val (pd_var 10))) (pds_one (pd1_ret pd_non)) pds_nil)
      (pds_cons (pd1_if (pdt_eq hu (pd_var 3) pd_str) (pds_one (pd1_ret (pd_tup (pda_cons (pd_tup (pda_cons (pd_var 4) (pda_cons (pd_var 5) (pda_cons pd_bl pda_nil)))) (pda_cons (pd_tup (pda_cons pd_str (pda_cons pd_bl (pda_cons (pd_var 9) (pda_cons pd_bl pda_nil))))) (pda_cons (pd_lst pda_nil) pda_nil)))))) pds_nil)
      (pds_one (pd1_ret (pd_tup (pda_cons (pd_tup (pda_cons (pd_var 4) (pda_cons pd_bl (pda_cons pd_bl pda_nil)))) (pda_cons (pd_tup (pda_cons (pd_var 7) (pda_cons (pd_var 8) (pda_cons (pd_var 9) (pda_cons pd_bl pda_nil))))) (pda_cons (pd_lst pda_nil) pda_nil)))))))))))))))
abbrev s_behind : Stmt := top 40
theorem sc_behind : FnScope N_behind ["rule", "stand", "event"] (defScope s_behind) := ⟨rfl, rfl, rfl, by decide +kernel, rfl, by decide +kernel, by decide +kernel⟩
theorem fd_behind  (T : Tx K mg) (D : Def K mg "behind" "behind" s_behind ["rule", "stand", "event"]) (Facted : FD P w K mg base CX0 "acted" ["rule", "lead", "copy", "event"] 7 (spP K mg c_acted)) (Fstale : FD P w K mg base CX0 "stale" ["copy"] 1 (spP K mg c_stale)): FD P w K mg base CX0 "behind" ["rule", "stand", "event"] (7 + 1) (spP K mg c_behind) := by
  obtain ⟨f, fd, F, hm, hb⟩ := D.ex
  refine ⟨f, fd, fn_pure (W := W_behind) F sc_behind (vc_behind) (fun cdv A outer s H E hr => ?_), hm, F.kp, hb⟩
  have hu := hr.units
  exact (pds_cons (pd1_setT (pd_var 2) (pgd_tup (is := [3, 4]) rfl (pgs_cons (pg_name (i := 3) sc_behind.nd rfl (by first | exact Or.inl rfl | exact Or.inr rfl)) (pgs_cons (pg_name (i := 4) sc_behind.nd rfl (by first | exact Or.inl rfl | exact Or.inr rfl)) pgs_nil))))
      (pds_cons (pd1_set 5 (pd_ix (pd_var 1) pd_int) sc_behind.nd)
      (pds_cons (pd1_if (pdt_gt (pd_var 3) (pd_len T.nlen (pda_cons (pd_var 5) pda_nil))) (pds_one (pd1_ret pd_non)) pds_nil)
      (pds_cons (pd1_set 6 (pd_if (pdt_lt (pd_var 3) (pd_len T.nlen (pda_cons (pd_var 5) pda_nil))) (pd_ix (pd_var 5) (pd_var 3)) (pd_globE T.kBEGINNER)) sc_behind.nd)
      (pds_cons (pd1_set 7 (pd_call Facted mo_acted (hr.mono (by first | decide | omega)) passA (pda_cons (pd_var 0) (pda_cons (pd_slice (pd_var 1) pdo_none (pdo_some pd_int)) (pda_cons (pd_var 6) (pda_cons (pd_var 4) pda_nil))))) sc_behind.nd)
      (pds_cons (pd1_if (pdt_isN (pd_var 7)) (pds_one (pd1_ret pd_non)) pds_nil)
      (pds_cons (pd1_setT (pd_var 7) (pgd_tup (is := [8, 9, 10]) rfl (pgs_cons (pg_name (i := 8) sc_behind.nd rfl (by first | exact Or.inl rfl | exact Or.inr rfl)) (pgs_cons (pg_name (i := 9) sc_behind.nd rfl (by first | exact Or.inl rfl | exact Or.inr rfl)) (pgs_cons (pg_name (i := 10) sc_behind.nd rfl (by first | exact Or.inl rfl | exact Or.inr rfl)) pgs_nil)))))
      (pds_cons (pd1_set 11 (pd_if (pdt_eq hu (pd_ix (pd_var 8) pd_int) (pd_ix (pd_var 1) pd_int)) (pd_var 5) (pd_toTuple T.ntuple (pda_cons (pd_ofF (pf_lc (own := [("one", 12)]) (t := (.one 12)) rfl sc_behind.nd (pdi_tup (pd_var 5)) (blkOk_by (N := N_behind) (sc := defScope s_behind) (by decide +kernel)) (fun _ _ _ _ _ => (pgd_one (i := 12) sc_behind.nd)) (fun _ _ _ _ _ => pdts_nil) (fun _ _ _ _ _ => (pd_call Fstale mo_stale (hr.mono (by first | decide | omega)) passA (pda_cons (pd_var 12) pda_nil))))) pda_nil))) sc_behind.nd)
      (pds_one (pd1_ret (pd_tup (pda_cons (pd_add (pd_var 8) (pd_tup (pda_cons (pd_add (pd_add (pd_slice (pd_var 11) pdo_none (pdo_some (pd_var 3))) (pd_tup (pda_cons (pd_var 9) pda_nil))) (pd_slice (pd_var 11) (pdo_some (pd_add (pd_var 3) pd_int)) pdo_none)) pda_nil))) (pda_cons (pd_var 10) pda_nil)))))))))))))
abbrev s_is_event : Stmt := top 41
theorem sc_is_event : FnScope N_is_event ["value"] (defScope s_is_event) := ⟨rfl, rfl, rfl, by decide +kernel, rfl, by decide +kernel, by decide +kernel⟩
theorem fd_is_event  (T : Tx K mg) (D : Def K mg "is_event" "is_event" s_is_event ["value"]) : FD P w K mg base CX0 "is_event" ["value"] (0 + 1) (spP K mg c_is_event) := by
  obtain ⟨f, fd, F, hm, hb⟩ := D.ex
  refine ⟨f, fd, fn_pure (W := W_is_event) F sc_is_event (vc_is_event) (fun cdv A outer s H E hr => ?_), hm, F.kp, hb⟩
  have hu := hr.units
  exact (pds_cons (pd1_if (pdw_or (pdt_not (pdt_val (pd_isi .tuple (pe_ty .tuple T.ntuple (by rfl) (by decide +kernel) (by decide) (by decide)) T.nisinstance (pd_var 0)))) (pdw_or (pdt_ne hu (pd_len T.nlen (pda_cons (pd_var 0) pda_nil)) pd_int) (pdw_or (pdt_not (pdt_val (pd_isi .int (pe_ty .int T.nint (by rfl) (by decide +kernel) (by decide) (by decide)) T.nisinstance (pd_ix (pd_var 0) pd_int)))) (pdw_or1 (pdt_val (pd_isi .bool (pe_ty .bool T.nbool (by rfl) (by decide +kernel) (by decide) (by decide)) T.nisinstance (pd_ix (pd_var 0) pd_int))))))).pt (pds_one (pd1_ret pd_bl)) pds_nil)
      (pds_one (pd1_ret (pd_and (pd_chain (p := (fun i j => decide (i ≤ j))) (p' := (fun i j => decide (i ≤ j))) op_le op_le pd_int (pd_ix (pd_var 0) pd_int) (pd_globI T.kMOST)) (pd_and (pd_isi .str (pe_ty .str T.nstr (by rfl) (by decide +kernel) (by decide) (by decide)) T.nisinstance (pd_ix (pd_var 0) pd_int)) (pd_one (pd_in (pd_ix (pd_var 0) pd_int) (pd_globE T.kEVENTS))))))))
abbrev s_check_index : Stmt := top 63
theorem sc_check_index : FnScope N_check_index ["rule", "index"] (defScope s_check_index) := ⟨rfl, rfl, rfl, by decide +kernel, rfl, by decide +kernel, by decide +kernel⟩
theorem fd_check_index  (T : Tx K mg) (D : Def K mg "check_index" "check_index" s_check_index ["rule", "index"]) {CInvalidIndex : Addr} (TInvalidIndex : PErr K mg "InvalidIndex" CInvalidIndex) : FD P w K mg base (L2N.CX P w) "check_index" ["rule", "index"] (0 + 1) (spP K mg c_check_index) := by
  obtain ⟨f, fd, F, hm, hb⟩ := D.ex
  refine ⟨f, fd, fn_pureN (W := W_check_index) F sc_check_index (vc_check_index) (fun cdv A outer s H E hr => ?_), hm, F.kp, hb⟩
  have hu := hr.units
  exact (pds_one (pd1_if (pdw_or (pdt_not (pdt_val (pd_isi .int (pe_ty .int T.nint (by rfl) (by decide +kernel) (by decide) (by decide)) T.nisinstance (pd_var 1)))) (pdw_or (pdt_val (pd_isi .bool (pe_ty .bool T.nbool (by rfl) (by decide +kernel) (by decide) (by decide)) T.nisinstance (pd_var 1))) (pdw_or1 (pdt_not (pdt_chain (p := (fun i j => decide (i ≤ j))) (p' := (fun i j => decide (i < j))) op_le op_lt pd_int (pd_var 1) (pd_len T.nlen (pda_cons (pd_var 0) pda_nil))))))).pt (pds_one (pd1_raiseP TInvalidIndex rfl (L2N.takes_of rfl rfl rfl rfl))) pds_nil))
abbrev N_law_draw : List Str := ["tape", "many", "prime", "cell", "found"]
abbrev s_law_draw : Stmt := top 66
theorem sc_law_draw : FnScope N_law_draw ["tape", "many"] (defScope s_law_draw) := ⟨rfl, rfl, rfl, by decide +kernel, rfl, by decide +kernel, by decide +kernel⟩
theorem fd_law_draw (T : Tx K mg) (D : Def K mg "_law_draw" "_law_draw" s_law_draw ["tape", "many"]) : FD P w K mg base CX0 "_law_draw" ["tape", "many"] (0 + 1) (spT K mg c_draw) := by
  obtain ⟨f, fd, F, hmf, hb⟩ := D.ex
  refine ⟨f, fd, F.ok sc_law_draw (fun vs H Q E h => ?_) (fun cdv A outer s0 H vs Q E hr h => ?_), hmf, F.kp, hb⟩
  · obtain ⟨t, s, ns, G, vs', ds, rfl, _, _, _, a, m, rfl, _⟩ := h
    obtain ⟨v, rfl, _⟩ := one_at a
    rfl
  · obtain ⟨t, s, ns, G, vs', ds, rfl, sg, g, j, a, m, rfl, m0, mb, q⟩ := h
    obtain ⟨v, rfl, av⟩ := one_at a
    cases av
    obtain ⟨i0, c0, hi0, hc0, hT, hS⟩ := j
    have hst : s ≠ t := fun e => by
      subst e
      rw [hT] at hS
      cases ns with
      | nil => cases hS
      | cons n r => cases hS
    have nd := sc_law_draw.nd
    have hpl : ∀ {k : Int} {j : Nat} {p : Pos}, PlainIx (.Constant (.int k) j p) := fun _ _ => rfl
    refine ⟨_, pss_cons (ps_set (i := 2) nd rfl (.inl rfl) pe_int)
      (pss_cons (ps_if (pt_cmpR op_lt (pe_ix ix_list (pv 0) pe_int (fun _ _ => rfl)) (pv 1) (nomark _))
        (pss_cons (ps_set (i := 3) nd rfl (.inl rfl) pe_int)
        (pss_cons (ps_if (pt_cmpR op_gt (pe_callB call_len_seq (by rfl) T.nlen PySem.boot_len (pa_cons (pe_ix ix_list (pv 0) pe_int (fun _ _ => rfl)) pa_nil)) pe_int (nomark _))
            (pss_one (ps_set (i := 3) nd rfl (.inl rfl) (pe_ix ix_list (pe_ix ix_list (pv 0) pe_int (fun _ _ => rfl)) (pe_op op_mod (pe_callTy call_int1 (by rfl) T.nint (by decide +kernel) (pa_cons (pe_ix ix_list (pv 0) pe_int (fun _ _ => rfl)) pa_nil)) (pe_callB call_len_seq (by rfl) T.nlen PySem.boot_len (pa_cons (pe_ix ix_list (pv 0) pe_int (fun _ _ => rfl)) pa_nil))) (fun _ _ => rfl))))
            pss_nil)
        (pss_cons (ps_if (PW.pt (pw_or (pt_cmpR op_ge (pe_ix ix_list (pv 0) pe_int (fun _ _ => rfl)) (pe_callB call_len_seq (by rfl) T.nlen PySem.boot_len (pa_cons (pe_ix ix_list (pv 0) pe_int (fun _ _ => rfl)) pa_nil)) (nomark _)) (pw_or1 (pt_cmpR op_lt (pv 3) (pe_op op_pow pe_int pe_int) (nomark _)))))
            (pss_cons (ps_set (i := 3) nd rfl (.inl rfl) (pe_op op_mod (pe_callTy call_int1 (by rfl) T.nint (by decide +kernel) (pa_cons (pe_op op_add (pv 3) (pe_op op_mul pe_int (pe_ix ix_list (pv 0) pe_int (fun _ _ => rfl)))) pa_nil)) (pv 2)))
            (pss_cons (ps_set (i := 3) nd rfl (.inl rfl) (pe_op op_mod (pe_callTy call_int1 (by rfl) T.nint (by decide +kernel) (pa_cons (pe_op op_add (pe_op op_add (pe_op op_mul (pv 3) (pv 3)) (pe_op op_mul pe_int (pv 3))) pe_int) pa_nil)) (pv 2)))
            (pss_one (ps_set (i := 3) nd rfl (.inl rfl) (pe_op op_mod (pe_callTy call_int1 (by rfl) T.nint (by decide +kernel) (pa_cons (pe_op op_add (pe_op op_mul (pv 3) (pv 3)) pe_int) pa_nil)) (pv 2))))))
            pss_nil)
        (pss_cons (ps_asg (pe_op op_add (pe_ix ix_list (pv 0) pe_int (fun _ _ => rfl)) pe_int) (pg_sub (pv 0) pe_int set_list))
        (pss_one (ps_asg (pv 3) (pg_sub (pv 0) pe_int set_list)))))))
        pss_nil)
      (pss_cons (ps_set (i := 4) nd rfl (.inl rfl) (pe_op op_mod (pe_callTy call_int1 (by rfl) T.nint (by decide +kernel) (pa_cons (pe_ix ix_list (pv 0) pe_int (fun _ _ => rfl)) pa_nil)) (pv 1)))
      (pss_cons (ps_asg (pe_op op_fdivW (pe_ix ix_list (pv 0) pe_int (fun _ _ => rfl)) (pv 1)) (pg_sub (pv 0) pe_int set_list))
      (pss_one (ps_ret (pv 4)))))), ?_⟩
    have T0 : TH H t s i0 c0 H := ⟨fun _ _ => rfl, hT, hi0, hc0⟩
    -- behind the if
    have rest : ∀ (i c : Int) (H' : Hp) (w3 : Option V), TH H t s i c H' → tdRest K { nx := fun _ H' => Q .non H', rt := Q } [some (.ref t), some (.int m), some (.int 2305843009213693951), w3, none] H' := by
      intro i c H' w3 h
      refine rdT rfl h.t rfl (.inl ⟨c, rfl, _, rfl, _, _, rfl, rfl, m0, ?_⟩)
      refine rdT rfl h.t rfl ⟨_, rfl, _, _, rfl, rfl, wide_div m0 mb (by decide) (by decide), _, rfl, t, _, 2, 2, rfl, rfl, h.t, rfl, _, rfl, ?_⟩
      have h2 := h.put h.i0 (Int.ediv_nonneg h.c0 (Int.le_of_lt m0))
      obtain ⟨x1, j1⟩ := h2.ext g sg hS hst (by rw [hT]; simp)
      exact q _ (Int.emod_nonneg _ (by omega)) (Int.emod_lt_of_pos _ m0) (.int _) _ G x1 j1 (.int _)
    refine rdT rfl hT rfl ⟨_, rfl, _, _, rfl, rfl, _, rfl, ?_⟩
    refine ite2 (fun _ => ?_) (fun _ => rest i0 c0 H none T0)
    -- the new cell
    have put : ∀ (c : Int), 0 ≤ c → tdPut K { nx := tdRest K { nx := fun _ H' => Q .non H', rt := Q }, rt := Q } [some (.ref t), some (.int m), some (.int 2305843009213693951), some (.int c), none] H := by
      intro c hc
      refine rdT rfl hT rfl ⟨_, _, rfl, rfl, _, rfl, t, _, 1, 1, rfl, rfl, hT, rfl, ?_⟩
      have h1 : TH H t s (i0 + 1) c0 (upd H t (.lst [.ref s, .int (i0 + 1), .int c0])) := T0.put (by omega) hc0
      refine ⟨_, rfl, _, rfl, t, _, 2, 2, rfl, rfl, h1.t, rfl, ?_⟩
      exact rest (i0 + 1) c _ _ (h1.put (by omega) hc)
    -- the hashed cell
    have hash : ∀ (c : Int), tSeq (tdHash K) (tdPut K) { nx := tdRest K { nx := fun _ H' => Q .non H', rt := Q }, rt := Q } [some (.ref t), some (.int m), some (.int 2305843009213693951), some (.int c), none] H := by
      intro c
      have p0 : (0 : Int) < 2305843009213693951 := by decide
      have pw : (2305843009213693951 : Int) < 2 ^ 64 := by decide
      refine ⟨_, rfl, rdT rfl hT rfl ⟨_, _, rfl, rfl, .inl ⟨by decide, by decide⟩, _, _, rfl, rfl, .inl ⟨_, rfl, _, rfl, _, _, rfl, rfl, p0, ?_⟩⟩⟩
      generalize he1 : (c + 1000003 * i0) % 2305843009213693951 = c1
      have b1 : 0 ≤ c1 ∧ c1 < 2305843009213693951 := by rw [← he1]; exact ⟨Int.emod_nonneg _ (by decide), Int.emod_lt_of_pos _ p0⟩
      refine ⟨_, rfl, _, rfl, _, _, rfl, rfl, .inl ⟨by omega, by omega⟩, _, rfl, _, _, rfl, rfl, .inl ⟨by decide, by decide⟩, _, _, rfl, rfl, _, _, rfl, rfl, .inl ⟨_, rfl, _, rfl, _, _, rfl, rfl, p0, ?_⟩⟩
      generalize he2 : (c1 * c1 + 1181783497276652981 * c1 + 2049848353892358983) % 2305843009213693951 = c2
      have b2 : 0 ≤ c2 ∧ c2 < 2305843009213693951 := by rw [← he2]; exact ⟨Int.emod_nonneg _ (by decide), Int.emod_lt_of_pos _ p0⟩
      refine ⟨_, rfl, _, rfl, _, _, rfl, rfl, .inl ⟨by omega, by omega⟩, _, _, rfl, rfl, .inl ⟨_, rfl, _, rfl, _, _, rfl, rfl, p0, ?_⟩⟩
      exact put _ (Int.emod_nonneg _ (by decide))
    have sS : SqL K H s (ns.map V.int) := SqL.of hS
    refine rdT rfl hT rfl ⟨_, _, rfl, .inl sS, _, _, rfl, rfl, _, rfl, ?_⟩
    have second : ∀ (c : Int), tSeq (tIfS (tdOr K) (tdHash K) tNext) (tdPut K) { nx := tdRest K { nx := fun _ H' => Q .non H', rt := Q }, rt := Q } [some (.ref t), some (.int m), some (.int 2305843009213693951), some (.int c), none] H := by
      intro c
      refine rdT rfl hT rfl (rdT rfl hT rfl ⟨_, _, rfl, .inl sS, _, _, rfl, rfl, _, rfl, ?_⟩)
      refine ite2 (fun _ => iteT (hash c)) (fun _ => ?_)
      refine ⟨_, rfl, _, _, rfl, rfl, ⟨by decide, by decide, by decide⟩, _, _, rfl, rfl, _, rfl, ?_⟩
      refine ite2 (fun _ => hash c) (fun hc => put c ?_)
      have hc' := of_decide_eq_false (by simpa using hc : decide (c < (10 : Int) ^ (18 : Int).toNat) = false)
      have : (0 : Int) < (10 : Int) ^ (18 : Int).toNat := by decide
      omega
    refine ite2 (fun hl => ?_) (fun _ => second 0)
    have hl' : 0 < ns.length := by
      have := of_decide_eq_true hl
      rw [List.length_map] at this
      omega
    have hlen : (0 : Int) < ((ns.map V.int).length : Nat) := by rw [List.length_map]; omega
    have hb0 : 0 ≤ i0 % (((ns.map V.int).length : Nat) : Int) := Int.emod_nonneg _ (by omega)
    have hb1 : i0 % (((ns.map V.int).length : Nat) : Int) < (((ns.map V.int).length : Nat) : Int) := Int.emod_lt_of_pos _ hlen
    obtain ⟨n, hn⟩ : ∃ n : Nat, i0 % (((ns.map V.int).length : Nat) : Int) = (n : Int) := ⟨_, (Int.toNat_of_nonneg hb0).symm⟩
    have hn2 : n < ns.length := by rw [hn, List.length_map] at hb1; omega
    have hat : (ns.map V.int)[n]? = some (.int ns[n]) := by rw [List.getElem?_map, List.getElem?_eq_getElem hn2]; rfl
    refine rdT rfl hT rfl (rdT rfl hT rfl (.inl ⟨_, rfl, rdT rfl hT rfl ⟨_, _, rfl, .inl sS, _, _, rfl, rfl, hlen, s, _, _, .int ns[n], rfl, rfl, sS, by rw [hn]; exact atI_nat hat, second _⟩⟩))
abbrev s_word : Stmt := top 68
abbrev N_word : List Str := ["e", "some", "names", "found", "word", "good"]
theorem sc_word : FnScope N_word ["e"] (defScope s_word) := ⟨rfl, rfl, rfl, by decide +kernel, rfl, by decide +kernel, by decide +kernel⟩
theorem ok_word (T : Tx K mg) (WT : WordTx K mg) {f : Addr} {fd : FuncData} (F : Fun K "_law_word" "_law_word" s_word f fd) : FnHp P w K mg base CX0 1 f fd ["e"] (spWord K mg) := by
  obtain ⟨oc, od, kV, doc, pm, an, cdv, ct, osl, rfl, lk, hcd⟩ := F.ex
  refine fn_ofHp (k := 0) lk hcd sc_word (fun p vs H Q E ⟨_, _, _, e, _⟩ => by rw [e]; rfl) (fun A outer s H vs Q E p hot hr ⟨cls, d, wd, ev, hz, hf, ⟨nm, D, ec, hm, hw, hd⟩, q⟩ => ?_)
  subst ev ec
  have hu : A.units + 3 + 64 < cLine := by
    have h1 := hr.un
    have h1 : A.units + 3 + 16 * 0 + 200 < cLine := h1
    omega
  have hc : L2H.HotC (L2H.cxH CX0 P w K mg base N_word "_law_word" (defScope s_word) f cdv A outer s H E p) := ⟨p, hot, List.mem_singleton_self p⟩
  have hp : (p.1, p.2) ∈ (L2H.cxH CX0 P w K mg base N_word "_law_word" (defScope s_word) f cdv A outer s H E p).pn := List.mem_singleton_self p
  obtain ⟨C0, g0, X0, v0⟩ := WT.cls nm wd hw
  rw [hm] at g0
  cases g0
  obtain ⟨C1, g1, _, _⟩ := WT.cls "InvalidRule" "rule" (by decide +kernel)
  obtain ⟨C2, g2, _, _⟩ := WT.cls "InvalidHistory" "history" (by decide +kernel)
  obtain ⟨C3, g3, _, _⟩ := WT.cls "InvalidHarm" "harm" (by decide +kernel)
  obtain ⟨C4, g4, _, _⟩ := WT.cls "InvalidNews" "news" (by decide +kernel)
  obtain ⟨C5, g5, _, _⟩ := WT.cls "InvalidEvent" "event" (by decide +kernel)
  obtain ⟨C6, g6, _, _⟩ := WT.cls "InvalidIndex" "index" (by decide +kernel)
  obtain ⟨C7, g7, _, _⟩ := WT.cls "InvalidPerson" "person" (by decide +kernel)
  obtain ⟨C8, g8, _, _⟩ := WT.cls "NotNow" "notnow" (by decide +kernel)
  obtain ⟨C9, g9, _, _⟩ := WT.cls "TooMany" "many" (by decide +kernel)
  obtain ⟨C10, g10, _, _⟩ := WT.cls "NothingToUndo" "nothing" (by decide +kernel)
  obtain ⟨C11, g11, _, _⟩ := WT.cls "InvalidText" "text" (by decide +kernel)
  have k1 := WT.one nm wd _ _ _ _ hw (show wordsL.lookup (Str.ofString "InvalidRule") = some (Str.ofString "rule") by decide +kernel) hm g1
  have k2 := WT.one nm wd _ _ _ _ hw (show wordsL.lookup (Str.ofString "InvalidHistory") = some (Str.ofString "history") by decide +kernel) hm g2
  have k3 := WT.one nm wd _ _ _ _ hw (show wordsL.lookup (Str.ofString "InvalidHarm") = some (Str.ofString "harm") by decide +kernel) hm g3
  have k4 := WT.one nm wd _ _ _ _ hw (show wordsL.lookup (Str.ofString "InvalidNews") = some (Str.ofString "news") by decide +kernel) hm g4
  have k5 := WT.one nm wd _ _ _ _ hw (show wordsL.lookup (Str.ofString "InvalidEvent") = some (Str.ofString "event") by decide +kernel) hm g5
  have k6 := WT.one nm wd _ _ _ _ hw (show wordsL.lookup (Str.ofString "InvalidIndex") = some (Str.ofString "index") by decide +kernel) hm g6
  have k7 := WT.one nm wd _ _ _ _ hw (show wordsL.lookup (Str.ofString "InvalidPerson") = some (Str.ofString "person") by decide +kernel) hm g7
  have k8 := WT.one nm wd _ _ _ _ hw (show wordsL.lookup (Str.ofString "NotNow") = some (Str.ofString "notnow") by decide +kernel) hm g8
  have k9 := WT.one nm wd _ _ _ _ hw (show wordsL.lookup (Str.ofString "TooMany") = some (Str.ofString "many") by decide +kernel) hm g9
  have k10 := WT.one nm wd _ _ _ _ hw (show wordsL.lookup (Str.ofString "NothingToUndo") = some (Str.ofString "nothing") by decide +kernel) hm g10
  have k11 := WT.one nm wd _ _ _ _ hw (show wordsL.lookup (Str.ofString "InvalidText") = some (Str.ofString "text") by decide +kernel) hm g11
  have hZ : ∀ C, (fun D => (excC d).Sub D) C → (excC d).Sub C := fun _ h => h
  refine ⟨tWS (fun D => (excC d).Sub D) _ E (W_word p.1 nm), (PDs.ps (Z := fun D => (excC d).Sub D) (W := W_word p.1 nm) (E := E) (by exact
    (pds_cons (pd1_set 1 (pd_lst (pda_cons (pd_isE 0 (cV := .ref C1) X0 hp hz.zc hf hZ relV_ref k1 (pv 0) (pe_glob rfl g1 rfl (by decide)) T.nisinstance) (pda_cons (pd_isE 0 (cV := .ref C2) X0 hp hz.zc hf hZ relV_ref k2 (pv 0) (pe_glob rfl g2 rfl (by decide)) T.nisinstance) (pda_cons (pd_isE 0 (cV := .ref C3) X0 hp hz.zc hf hZ relV_ref k3 (pv 0) (pe_glob rfl g3 rfl (by decide)) T.nisinstance) pda_nil)))) sc_word.nd)
    (pds_cons (pd1_set 1 (pd_add (pd_var 1) (pd_lst (pda_cons (pd_isE 0 (cV := .ref C4) X0 hp hz.zc hf hZ relV_ref k4 (pv 0) (pe_glob rfl g4 rfl (by decide)) T.nisinstance) (pda_cons (pd_isE 0 (cV := .ref C5) X0 hp hz.zc hf hZ relV_ref k5 (pv 0) (pe_glob rfl g5 rfl (by decide)) T.nisinstance) (pda_cons (pd_isE 0 (cV := .ref C6) X0 hp hz.zc hf hZ relV_ref k6 (pv 0) (pe_glob rfl g6 rfl (by decide)) T.nisinstance) pda_nil))))) sc_word.nd)
    (pds_cons (pd1_set 1 (pd_add (pd_var 1) (pd_lst (pda_cons (pd_isE 0 (cV := .ref C7) X0 hp hz.zc hf hZ relV_ref k7 (pv 0) (pe_glob rfl g7 rfl (by decide)) T.nisinstance) (pda_cons (pd_isE 0 (cV := .ref C8) X0 hp hz.zc hf hZ relV_ref k8 (pv 0) (pe_glob rfl g8 rfl (by decide)) T.nisinstance) (pda_cons (pd_isE 0 (cV := .ref C9) X0 hp hz.zc hf hZ relV_ref k9 (pv 0) (pe_glob rfl g9 rfl (by decide)) T.nisinstance) pda_nil))))) sc_word.nd)
    (pds_cons (pd1_set 1 (pd_add (pd_var 1) (pd_lst (pda_cons (pd_isE 0 (cV := .ref C10) X0 hp hz.zc hf hZ relV_ref k10 (pv 0) (pe_glob rfl g10 rfl (by decide)) T.nisinstance) (pda_cons (pd_isE 0 (cV := .ref C11) X0 hp hz.zc hf hZ relV_ref k11 (pv 0) (pe_glob rfl g11 rfl (by decide)) T.nisinstance) pda_nil)))) sc_word.nd)
    (pds_cons (pd1_set 2 (pd_lst (pda_cons pd_str (pda_cons pd_str (pda_cons pd_str (pda_cons pd_str (pda_cons pd_str (pda_cons pd_str (pda_cons pd_str (pda_cons pd_str (pda_cons pd_str (pda_cons pd_str (pda_cons pd_str pda_nil)))))))))))) sc_word.nd)
    (pds_cons (pd1_newD (psf_lcH (i := 3) (own := [("word", 4), ("good", 5)]) (t := .tup [4, 5]) hc sc_word.nd (pdi_zipH T.nzip (pd_var 2) (pd_var 1)) (blkOk_by (N := N_word) (sc := defScope s_word) (by decide +kernel)) (fun _ _ _ _ _ => pgd_tupH (is := [4, 5]) hc (pgs_cons (pg_name (i := 4) sc_word.nd rfl (Or.inl rfl)) (pgs_cons (pg_name (i := 5) sc_word.nd rfl (Or.inl rfl)) pgs_nil))) (fun _ _ _ _ _ => pdts_one (pdt_val (pd_var 5))) (fun _ _ _ _ _ => pd_var 4)))
    (pds_one (pd1_ret (pd_if (pdw_and (pdt_eq hu (pd_len T.nlen (pda_cons (pd_var 3) pda_nil)) pd_int) (pdw_and1 (pdt_val (pd_isE 0 (cV := .ty "ValueError") X0 hp hz.zc hf hZ relV_ty v0 (pv 0) (pe_bltn (by rfl) T.nValueError (by decide +kernel) rfl (by decide) (by decide)) T.nisinstance)))).pt (pd_ix (pd_var 3) pd_int) pd_str))))))))))), ?_⟩
  refine ⟨excC d, H, fun _ => none, fun _ => none, rho_word p.1, ⟨DC.Sub.refl _, Ext.refl (fun b o e => by cases e), fun b hb => ?_, fun b _ => rfl, hd, rfl, fun i sv e => ?_, fun i j xs ys b n e1 => ?_⟩, vc_word p.1 hw _ _ _ ?_⟩
  · obtain ⟨fs, h⟩ := hd b hb
    rw [h]; simp
  · match i with
    | 0 => cases e; exact ⟨_, rfl, rfl⟩
    | 1 => cases e; exact ⟨_, rfl, trivial⟩
    | 2 => cases e; exact ⟨_, rfl, trivial⟩
    | 3 => cases e; exact ⟨_, rfl, trivial⟩
    | 4 => cases e; exact ⟨_, rfl, trivial⟩
    | 5 => cases e; exact ⟨_, rfl, trivial⟩
    | i + 6 => simp [rho_word] at e
  · match i with
    | 0 => cases e1
    | 1 => cases e1
    | 2 => cases e1
    | 3 => cases e1
    | 4 => cases e1
    | 5 => cases e1
    | i + 6 => simp [rho_word] at e1
  · intro v H' G' x j av
    cases av
    exact q H' fun b o e => x.same b o (fun z => z) e
abbrev s_tried : Stmt := top 67
abbrev N_tried : List Str := ["call", "e"]
theorem sc_tried : FnScope N_tried ["call"] (defScope s_tried) := ⟨rfl, rfl, rfl, by decide +kernel, rfl, by decide +kernel, by decide +kernel⟩
theorem told_tried (WT : WordTx K mg) {g fw : Addr} {fd fdw : FuncData} (F : Fun K "_law_tried" "_law_tried" s_tried g fd) (hm : mg "_law_tried" = some (.ref g)) (hb : Binds K fd ["call"] []) (Fw : FnHp P w K mg base CX0 1 fw fdw ["e"] (spWord K mg)) (hmw : mg "_law_word" = some (.ref fw)) (hkw : PySem.W.keepIn K (.ref fw) = true) (hbw : Binds K fdw ["e"] []) : ToldD P w K mg base "_law_tried" "call" 2 := by
  obtain ⟨L, hL, hx⟩ := WT.le
  refine ⟨g, fd, s_tried, N_tried, F, hm, hb, sc_tried, rfl, .inl rfl, fun X h1 h2 h3 h4 h5 hr cdv q => ?_⟩
  subst h1 h2 h3 h4 h5
  exact told_givesN (el := "ListError") (wn := "_law_word") (i := 1) sc_tried.nd rfl rfl (by decide) (by decide) rfl hL (by decide) hx Fw rfl (by decide) hmw hkw hbw hr (fun _ => rfl)
theorem ok_wordV (T : Tx K mg) (WT : WordTx K mg) {f : Addr} {fd : FuncData} (F : Fun K "_law_word" "_law_word" s_word f fd) : FnOk P w K mg base CX0 1 f fd ["e"] (spWordV K mg) := by
  refine F.ok sc_word (fun vs H Q E ⟨_, _, _, _, _, e, _⟩ => by rw [e]; rfl) (fun cdv A outer s H vs Q E hr ⟨a, D, d, nm, wd, ev, hm, hw, hd, q⟩ => ?_)
  subst ev
  have hu := hr.units
  obtain ⟨C0, g0, X0, v0⟩ := WT.cls nm wd hw
  rw [hm] at g0
  cases g0
  obtain ⟨C1, g1, _, _⟩ := WT.cls "InvalidRule" "rule" (by decide +kernel)
  obtain ⟨C2, g2, _, _⟩ := WT.cls "InvalidHistory" "history" (by decide +kernel)
  obtain ⟨C3, g3, _, _⟩ := WT.cls "InvalidHarm" "harm" (by decide +kernel)
  obtain ⟨C4, g4, _, _⟩ := WT.cls "InvalidNews" "news" (by decide +kernel)
  obtain ⟨C5, g5, _, _⟩ := WT.cls "InvalidEvent" "event" (by decide +kernel)
  obtain ⟨C6, g6, _, _⟩ := WT.cls "InvalidIndex" "index" (by decide +kernel)
  obtain ⟨C7, g7, _, _⟩ := WT.cls "InvalidPerson" "person" (by decide +kernel)
  obtain ⟨C8, g8, _, _⟩ := WT.cls "NotNow" "notnow" (by decide +kernel)
  obtain ⟨C9, g9, _, _⟩ := WT.cls "TooMany" "many" (by decide +kernel)
  obtain ⟨C10, g10, _, _⟩ := WT.cls "NothingToUndo" "nothing" (by decide +kernel)
  obtain ⟨C11, g11, _, _⟩ := WT.cls "InvalidText" "text" (by decide +kernel)
  have k1 := WT.one nm wd _ _ _ _ hw (show wordsL.lookup (Str.ofString "InvalidRule") = some (Str.ofString "rule") by decide +kernel) hm g1
  have k2 := WT.one nm wd _ _ _ _ hw (show wordsL.lookup (Str.ofString "InvalidHistory") = some (Str.ofString "history") by decide +kernel) hm g2
  have k3 := WT.one nm wd _ _ _ _ hw (show wordsL.lookup (Str.ofString "InvalidHarm") = some (Str.ofString "harm") by decide +kernel) hm g3
  have k4 := WT.one nm wd _ _ _ _ hw (show wordsL.lookup (Str.ofString "InvalidNews") = some (Str.ofString "news") by decide +kernel) hm g4
  have k5 := WT.one nm wd _ _ _ _ hw (show wordsL.lookup (Str.ofString "InvalidEvent") = some (Str.ofString "event") by decide +kernel) hm g5
  have k6 := WT.one nm wd _ _ _ _ hw (show wordsL.lookup (Str.ofString "InvalidIndex") = some (Str.ofString "index") by decide +kernel) hm g6
  have k7 := WT.one nm wd _ _ _ _ hw (show wordsL.lookup (Str.ofString "InvalidPerson") = some (Str.ofString "person") by decide +kernel) hm g7
  have k8 := WT.one nm wd _ _ _ _ hw (show wordsL.lookup (Str.ofString "NotNow") = some (Str.ofString "notnow") by decide +kernel) hm g8
  have k9 := WT.one nm wd _ _ _ _ hw (show wordsL.lookup (Str.ofString "TooMany") = some (Str.ofString "many") by decide +kernel) hm g9
  have k10 := WT.one nm wd _ _ _ _ hw (show wordsL.lookup (Str.ofString "NothingToUndo") = some (Str.ofString "nothing") by decide +kernel) hm g10
  have k11 := WT.one nm wd _ _ _ _ hw (show wordsL.lookup (Str.ofString "InvalidText") = some (Str.ofString "text") by decide +kernel) hm g11
  have hZ : ∀ C, (fun U => (errC D a d).Sub U) C → (errC D a d).Sub C := fun _ h => h
  refine ⟨tWS (fun U => (errC D a d).Sub U) _ E (W_word a nm), (PDs.ps (Z := fun U => (errC D a d).Sub U) (W := W_word a nm) (E := E) (by exact
    (pds_cons (pd1_set 1 (pd_lst (pda_cons (pd_isV 0 (cV := .ref C1) X0 hZ relV_ref k1 (pv 0) (pe_glob rfl g1 rfl (by decide)) T.nisinstance) (pda_cons (pd_isV 0 (cV := .ref C2) X0 hZ relV_ref k2 (pv 0) (pe_glob rfl g2 rfl (by decide)) T.nisinstance) (pda_cons (pd_isV 0 (cV := .ref C3) X0 hZ relV_ref k3 (pv 0) (pe_glob rfl g3 rfl (by decide)) T.nisinstance) pda_nil)))) sc_word.nd)
    (pds_cons (pd1_set 1 (pd_add (pd_var 1) (pd_lst (pda_cons (pd_isV 0 (cV := .ref C4) X0 hZ relV_ref k4 (pv 0) (pe_glob rfl g4 rfl (by decide)) T.nisinstance) (pda_cons (pd_isV 0 (cV := .ref C5) X0 hZ relV_ref k5 (pv 0) (pe_glob rfl g5 rfl (by decide)) T.nisinstance) (pda_cons (pd_isV 0 (cV := .ref C6) X0 hZ relV_ref k6 (pv 0) (pe_glob rfl g6 rfl (by decide)) T.nisinstance) pda_nil))))) sc_word.nd)
    (pds_cons (pd1_set 1 (pd_add (pd_var 1) (pd_lst (pda_cons (pd_isV 0 (cV := .ref C7) X0 hZ relV_ref k7 (pv 0) (pe_glob rfl g7 rfl (by decide)) T.nisinstance) (pda_cons (pd_isV 0 (cV := .ref C8) X0 hZ relV_ref k8 (pv 0) (pe_glob rfl g8 rfl (by decide)) T.nisinstance) (pda_cons (pd_isV 0 (cV := .ref C9) X0 hZ relV_ref k9 (pv 0) (pe_glob rfl g9 rfl (by decide)) T.nisinstance) pda_nil))))) sc_word.nd)
    (pds_cons (pd1_set 1 (pd_add (pd_var 1) (pd_lst (pda_cons (pd_isV 0 (cV := .ref C10) X0 hZ relV_ref k10 (pv 0) (pe_glob rfl g10 rfl (by decide)) T.nisinstance) (pda_cons (pd_isV 0 (cV := .ref C11) X0 hZ relV_ref k11 (pv 0) (pe_glob rfl g11 rfl (by decide)) T.nisinstance) pda_nil)))) sc_word.nd)
    (pds_cons (pd1_set 2 (pd_lst (pda_cons pd_str (pda_cons pd_str (pda_cons pd_str (pda_cons pd_str (pda_cons pd_str (pda_cons pd_str (pda_cons pd_str (pda_cons pd_str (pda_cons pd_str (pda_cons pd_str (pda_cons pd_str pda_nil)))))))))))) sc_word.nd)
    (pds_cons (pd1_newD (psf_lc (i := 3) (own := [("word", 4), ("good", 5)]) (t := .tup [4, 5]) rfl sc_word.nd (pdi_zip T.nzip (pd_var 2) (pd_var 1)) (blkOk_by (N := N_word) (sc := defScope s_word) (by decide +kernel)) (fun _ _ _ _ _ => pgd_tup (is := [4, 5]) rfl (pgs_cons (pg_name (i := 4) sc_word.nd rfl (Or.inl rfl)) (pgs_cons (pg_name (i := 5) sc_word.nd rfl (Or.inl rfl)) pgs_nil))) (fun _ _ _ _ _ => pdts_one (pdt_val (pd_var 5))) (fun _ _ _ _ _ => pd_var 4)))
    (pds_one (pd1_ret (pd_if (pdw_and (pdt_eq hu (pd_len T.nlen (pda_cons (pd_var 3) pda_nil)) pd_int) (pdw_and1 (pdt_val (pd_isV 0 (cV := .ty "ValueError") X0 hZ relV_ty v0 (pv 0) (pe_bltn (by rfl) T.nValueError (by decide +kernel) rfl (by decide) (by decide)) T.nisinstance)))).pt (pd_ix (pd_var 3) pd_int) pd_str))))))))))), ?_⟩
  refine ⟨errC D a d, H, fun _ => none, fun _ => none, rho_word a, ⟨DC.Sub.refl _, Ext.refl (fun b o e => by cases e), fun b hb => (by obtain ⟨fs, h⟩ := hd.2 b hb; rw [h]; simp), fun b _ => rfl, hd, rfl, fun i sv e => ?_, fun i j xs ys b n e1 => ?_⟩, vc_word a hw _ _ _ ?_⟩
  · match i with
    | 0 => cases e; exact ⟨_, rfl, rfl⟩
    | 1 => cases e; exact ⟨_, rfl, trivial⟩
    | 2 => cases e; exact ⟨_, rfl, trivial⟩
    | 3 => cases e; exact ⟨_, rfl, trivial⟩
    | 4 => cases e; exact ⟨_, rfl, trivial⟩
    | 5 => cases e; exact ⟨_, rfl, trivial⟩
    | i + 6 => simp [rho_word] at e
  · match i with
    | 0 => cases e1
    | 1 => cases e1
    | 2 => cases e1
    | 3 => cases e1
    | 4 => cases e1
    | 5 => cases e1
    | i + 6 => simp [rho_word] at e1
  · intro v H' G' x j av
    cases av
    exact q H' fun b o e => x.same b o (fun z => z) e
abbrev s_init_InvalidText : Stmt := (clsBody (top 13)).getD 0 (.Pass ⟨0, 0, 0, 0⟩)
theorem sc_init_InvalidText : FnScope ["self", "line"] ["self", "line"] (defScope s_init_InvalidText) := ⟨rfl, rfl, rfl, by decide +kernel, rfl, by decide +kernel, by decide +kernel⟩
theorem ok_init_InvalidText {C fI : Addr} {fd : FuncData} (F : Fun K "__init__" "InvalidText.__init__" s_init_InvalidText fI fd) (T : OexC K C) (noN : PySem.W.findIn K (.ref C) "line" = some none) (B : BInit K mg "ListError") : FnOk P w K mg base CX0 (0 + 1) fI fd ["self", "line"] (spInit C "line") := by
  refine F.ok sc_init_InvalidText (fun vs H Q E h => ?_) (fun cdv A outer s H vs Q E hr h => ?_)
  · obtain ⟨a, v, rfl, _⟩ := h
    rfl
  · obtain ⟨a, v, rfl, hH, q⟩ := h
    refine ⟨_, pss_cons (ps_expr (pe_binit B rfl (pa_cons (pv 0) (pa_cons pe_str pa_nil)))) (pss_one (ps_ost (f := "line") (pv 0) (pv 1))), ?_⟩
    refine ⟨_, rfl, a, C, _, rfl, by show 1 ≤ 1000; decide, T, hH, ?_⟩
    exact ⟨_, rfl, _, rfl, a, C, rfl, T, noN, .inl ⟨hH, fun dx hd hda => q dx hd hda⟩⟩
/-! ### Party, by hand -/
structure PtyC (K : PySem.W.Frag) (CP : Addr) : Prop where
  cl : Cls K CP
  n1 : NoAttr K CP "rule_so"
  n2 : NoAttr K CP "now"
  n3 : NoAttr K CP "past"
abbrev s_pinit : Stmt := (clsBody (top 43)).getD 0 (.Pass ⟨0, 0, 0, 0⟩)
theorem sc_pinit : FnScope ["self", "rule"] ["self", "rule"] (defScope s_pinit) := ⟨rfl, rfl, rfl, by decide +kernel, rfl, by decide +kernel, by decide +kernel⟩
theorem ok_pinit (T : Tx K mg) {CP f : Addr} {fd : FuncData} (PC : PtyC K CP) (F : Fun K "__init__" "Party.__init__" s_pinit f fd) (Fcheck_rule : FD P w K mg base CX0 "check_rule" ["rule"] 4 (spP K mg c_check_rule)) (Ffirst_stand : FD P w K mg base CX0 "first_stand" [] 1 (spP K mg c_first_stand)) : FnOk P w K mg base CX0 (4 + 1) f fd ["self", "rule"] (spPI K CP) := by
  refine F.ok sc_pinit (fun vs H Q E ⟨_, _, _, _, _, e, _⟩ => by rw [e]; rfl) (fun cdv A outer s0 H vs Q E hr ⟨a, r, dx, G, R, ev, ha, sg, ga, ar, okR, q⟩ => ?_)
  subst ev
  refine ⟨_, pss_cons (ps_expr (pd_call (Z := fun _ => True) (E := E) Fcheck_rule mo_check_rule (hr.mono (by decide)) passA (pda_cons (pd_var 1) pda_nil)).pe)
    (pss_cons (ps_fld (pv 0) (pv 1) rfl)
    (pss_cons (ps_fld (pv 0) (pd_tup (Z := fun _ => True) (E := E) (pda_cons (pd_call0 Ffirst_stand mo_first_stand (hr.mono (by decide)) passA) (pda_cons (pd_tup pda_nil) (pda_cons (pd_tup pda_nil) pda_nil)))).pe rfl)
    (pss_one (ps_fld (pv 0) (pe_lst pa_nil) rfl)))), ?_⟩
  refine ⟨pureC, H, G, G, [.fn a, .d (ruD R)], ds_raw sg ⟨rfl, ⟨_, rfl, ar⟩, trivial⟩, ?_⟩
  refine ⟨ruD R, rfl, good_ruD okR, by rw [isRule_ruD]; exact okR, ?_⟩
  intro v1 H1 G1 x1 j1 a1
  have h1 : H1 a = some (.ins CP dx []) := x1.same _ _ (fun z => z) ha
  have g1 : G1 a = none := x1.sep a _ ha ga
  refine ⟨r, rfl, .ref a, rfl, a, CP, dx, [], rfl, h1, PC.cl, PC.n1, by show 0 < 1000; decide, ?_⟩
  have e1 : Ext (fun b => b = a) G H G1 H1 := x1.weak (fun _ z => z.elim)
  have e2 := Ext.chgM (M := fun b => b = a) (o := .ins CP dx (putF ("rule_so" : Str) r [])) e1.sub rfl g1
  refine ⟨pureC, _, G1, G1, [.fn a, .d (ruD R)], ds_raw e2.sub ⟨rfl, ⟨_, rfl, ar.same x1.gs⟩, trivial⟩, ?_⟩
  have Z3 : (3 : Nat) ≤ sizeLine := by rw [line24]; decide
  have Z0 : (0 : Nat) ≤ sizeLine := Nat.zero_le _
  refine ⟨rfl, Z0, Z0, Z3, ?_⟩
  intro v3 H3 G3 x3 j3 a3
  have h3 : H3 a = some (.ins CP dx (putF ("rule_so" : Str) r [])) := x3.same _ _ (fun z => z) upd_same
  have g3 : G3 a = none := x3.sep a _ upd_same g1
  have l1 := putF_len ("rule_so" : Str) r []
  refine ⟨.ref a, rfl, a, CP, dx, _, rfl, h3, PC.cl, PC.n2, by simp only [List.length_nil] at l1; omega, ?_⟩
  have e3 : Ext (fun b => b = a) G1 _ G3 H3 := x3.weak (fun _ z => z.elim)
  have l2 := putF_len ("now" : Str) v3 (putF ("rule_so" : Str) r [])
  have e4 := Ext.chgM (M := fun b => b = a) (o := .ins CP dx (putF ("now" : Str) v3 (putF ("rule_so" : Str) r []))) e3.sub rfl g3
  refine ⟨Z0, fun l hl => ?_⟩
  have hla : l ≠ a := fun z => by rw [z, upd_same] at hl; cases hl
  refine ⟨.ref a, rfl, a, CP, dx, _, rfl, (upd_ne (Ne.symm hla)).trans upd_same, PC.cl, PC.n3, by simp only [List.length_nil] at l1; omega, ?_⟩
  have e5 := Ext.newM (M := fun b => b = a) (o := .lst []) e4.sub hl
  have e6 := Ext.chgM (M := fun b => b = a) (o := .ins CP dx (putF ("past" : Str) (.ref l) (putF ("now" : Str) v3 (putF ("rule_so" : Str) r [])))) e5.sub rfl g3
  have l3 := putF_len ("past" : Str) (.ref l) (putF ("now" : Str) v3 (putF ("rule_so" : Str) r []))
  have n1 : ("rule_so" : Str) ≠ "now" := by decide +kernel
  have n2 : ("rule_so" : Str) ≠ "past" := by decide +kernel
  have n3 : ("now" : Str) ≠ "past" := by decide +kernel
  refine q _ G3 (((((e1.trans e2).trans e3).trans e4).trans e5).trans e6) ⟨dx, _, r, v3, l, [], upd_same, by simp only [List.length_nil] at l1; omega, fun m m1 m2 m3 => ?_, ?_, ?_, ?_, (upd_ne hla).trans upd_same, .nil, (ar.same x1.gs).same x3.gs, a3, g3, none_same e4.sub hl⟩
  · rw [lookup_putF, if_neg m3, lookup_putF, if_neg m2, lookup_putF, if_neg m1]; rfl
  · rw [lookup_putF, if_neg n2, lookup_putF, if_neg n1, lookup_putF, if_pos rfl]
  · rw [lookup_putF, if_neg n3, lookup_putF, if_pos rfl]
  · rw [lookup_putF, if_pos rfl]
/-! ### its methods, on the way that the law takes -/
def spUndo (K : PySem.W.Frag) (mg : Str → Option Value) (CP : Addr) : Sp := fun vs H _ E => ∃ a G R now, vs = [.ref a] ∧ Same G H ∧ PtyAt K CP a R now [] G H ∧ ∀ c H' G', mg "NothingToUndo" = some (.ref c) → Ext (fun _ => False) G H G' H' → E (.ref c) none H'
abbrev s_undo : Stmt := (clsBody (top 43)).getD 8 (.Pass ⟨0, 0, 0, 0⟩)
theorem sc_undo : FnScope ["self"] ["self"] (defScope s_undo) := ⟨rfl, rfl, rfl, by decide +kernel, rfl, by decide +kernel, by decide +kernel⟩
theorem ok_undo {CP f C : Addr} {fd : FuncData} (PC : PtyC K CP) (TE : PErr K mg "NothingToUndo" C) (F : Fun K "undo" "Party.undo" s_undo f fd) : FnOk P w K mg base (L2N.CX P w) (0 + 1) f fd ["self"] (spUndo K mg CP) := by
  refine okN F sc_undo (fun vs H Q E ⟨_, _, _, _, e, _⟩ => by rw [e]; rfl) (fun cdv A outer s0 H vs Q E hr ⟨a, G, R, now, ev, sg, PT, q⟩ => ?_)
  subst ev
  have hu := hr.units
  obtain ⟨dx, fs, r, n, l, xs, ha, fl, fm, f1, f2, f3, hl, ax, ar, an, ga, gl⟩ := PT.ex
  cases ax
  refine ⟨_, pss_cons (ps_if (pt_cmpR (op_eqD hu) (pe_fld (pv 0) rfl) (pe_lst pa_nil) (nomark _)) (pss_one (L2N.ps_raise rfl (L2N.takes_of rfl rfl rfl rfl) (L2N.pmk_own PySem.F.excBase_ValueError TE.x TE.gC TE.k (raises_own TE.b TE.t) rfl (by decide)))) pss_nil) pss_never, ?_⟩
  refine ⟨.ref a, rfl, a, CP, dx, fs, .ref l, rfl, ha, PC.cl, PC.n3, f3, Nat.zero_le _, fun p hp => ?_⟩
  have hlp : (upd H p (.lst [])) l = some (.lst []) := (upd_ne (ne_of_none hl hp)).trans hl
  refine ⟨.list [], .list [], (At.lst hlp .nil).dp, (At.lst upd_same .nil).dp, shaped_lnil, shaped_lnil, _, rfl, ?_⟩
  rw [eqv_lnil]
  exact q C _ G TE.gC (Ext.newM sg hp)
/-- step, where nothing can be done -/
def spStep (K : PySem.W.Frag) (CP : Addr) : Sp := fun vs H Q _ => ∃ a n e G R past, vs = [.ref a, n, e] ∧ Same G H ∧ PtyAt K CP a R now0 past G H ∧ okRu R = true ∧ At K G n now0 ∧ At K G e (evD (0, "buy")) ∧ ∀ H' G', Ext (fun _ => False) G H G' H' → Q .non H'
abbrev s_step : Stmt := (clsBody (top 43)).getD 5 (.Pass ⟨0, 0, 0, 0⟩)
theorem sc_step : FnScope ["self", "now", "event", "new"] ["self", "now", "event"] (defScope s_step) := ⟨rfl, rfl, rfl, by decide +kernel, rfl, by decide +kernel, by decide +kernel⟩
theorem ok_step {CP f : Addr} {fd : FuncData} (PC : PtyC K CP) (F : Fun K "step" "Party.step" s_step f fd) (Fbehind : FD P w K mg base CX0 "behind" ["rule", "stand", "event"] 8 (spP K mg c_behind)) : FnOk P w K mg base CX0 (8 + 1) f fd ["self", "now", "event"] (spStep K CP) := by
  refine F.ok sc_step (fun vs H Q E ⟨_, _, _, _, _, _, e, _⟩ => by rw [e]; rfl) (fun cdv A outer s0 H vs Q E hr ⟨a, nn, ee, G, R, past, ev, sg, PT, okR, an, ae, q⟩ => ?_)
  subst ev
  obtain ⟨dx, fs, r, n, l, xs, ha, fl, fm, f1, f2, f3, hl, ax, ar, an0, ga, gl⟩ := PT.ex
  obtain ⟨fb, fdb, GB, hmb, hkb, hbb⟩ := Fbehind.ex
  refine ⟨_, pss_cons (ps_set (i := 3) sc_step.nd rfl (Or.inl rfl) (pe_call (E := E) GB (hr.mono (by decide)) rfl hmb hkb hbb .nil passA (pa_cons (pe_fld (pv 0) rfl) (pa_cons (pd_ix (Z := fun _ => True) (E := E) (pd_var 1) pd_int).pe (pa_cons (pv 2) pa_nil)))))
    (pss_cons (ps_if (pdt_isN (Z := fun _ => True) (E := E) (pd_var 3)).pt (pss_one (ps_ret pe_non)) pss_nil) pss_never), ?_⟩
  refine ⟨.ref a, rfl, a, CP, dx, fs, r, rfl, ha, PC.cl, PC.n1, f1, ?_⟩
  refine ⟨pureC, H, G, G, [.fn a, .d now0, .d (evD (0, "buy")), .un], ds_raw sg ⟨rfl, ⟨_, rfl, an⟩, ⟨_, rfl, ae⟩, trivial, trivial⟩, ?_⟩
  refine ⟨sdD sd0, rfl, ?_⟩
  intro v1 H1 G1 x1 j1 a1
  refine ⟨ee, rfl, ?_⟩
  refine ⟨G1, [ruD R, sdD sd0, evD (0, "buy")], x1.sub, .cons (ar.same x1.gs) (.cons a1 (.cons (ae.same x1.gs) .nil)), R, sd0, 0, "buy", rfl, okR, by decide +kernel, by decide +kernel, ?_⟩
  have none : nextS R sd0 0 "buy" = Option.none := by
    have n1 : Str.ofString "buy" ≠ Str.ofString "meet" := by decide +kernel
    have n2 : Str.ofString "buy" ≠ Str.ofString "want" := by decide +kernel
    have n3 : Str.ofString "buy" ≠ Str.ofString "strike" := by decide +kernel
    have n4 : Str.ofString "buy" ≠ Str.ofString "clear" := by decide +kernel
    have n5 : ¬ (((sd0.2.getD 0 cp0).1 = Str.ofString "open") ∧ (sd0.2.getD 0 cp0).2.2.2 = false) := by decide +kernel
    unfold nextS actS
    rw [if_neg (by decide), if_neg n1, if_neg n2, if_neg n3, if_neg n4, if_pos rfl, if_neg n5]
  rw [none]
  intro v2 H2 G2 x2 j2 a2
  cases a2
  refine ⟨pureC, H2, G2, G2, [.fn a, .d now0, .d (evD (0, "buy")), .d .none], ds_raw x2.sub ⟨rfl, ⟨_, rfl, (an.same x1.gs).same x2.gs⟩, ⟨_, rfl, (ae.same x1.gs).same x2.gs⟩, ⟨_, rfl, .non⟩, trivial⟩, ?_⟩
  refine ⟨true, rfl, ?_⟩
  intro H3 G3 x3 j3
  exact q H3 G3 ((x1.trans x2).trans x3)
def spDo (K : PySem.W.Frag) (mg : Str → Option Value) (CP : Addr) : Sp := fun vs H _ E => ∃ a ws G R, vs = [.ref a, .int 0, .str ws] ∧ Same G H ∧ PtyAt K CP a R now0 [] G H ∧ okRu R = true ∧ (ws = "buy" ∨ ws = "leap") ∧ ∀ c H' G', mg (if ws = ("buy" : Str) then "NotNow" else "InvalidEvent") = some (.ref c) → Ext (fun _ => False) G H G' H' → E (.ref c) none H'
abbrev s_do : Stmt := (clsBody (top 43)).getD 6 (.Pass ⟨0, 0, 0, 0⟩)
theorem sc_do : FnScope ["self", "person", "word", "found"] ["self", "person", "word"] (defScope s_do) := ⟨rfl, rfl, rfl, by decide +kernel, rfl, by decide +kernel, by decide +kernel⟩
theorem ok_do {CP f g C1 C2 : Addr} {fd fdg : FuncData} (PC : PtyC K CP) (T1 : PErr K mg "InvalidEvent" C1) (T2 : PErr K mg "NotNow" C2) (F : Fun K "do" "Party.do" s_do f fd) (Fis_event : FD P w K mg base CX0 "is_event" ["value"] 1 (spP K mg c_is_event))
    (MS : Meth K CP "step" g) (Fstep : FnOk P w K mg base CX0 9 g fdg ["self", "now", "event"] (spStep K CP)) (hbS : Binds K fdg ["self", "now", "event"] []) : FnOk P w K mg base (L2N.CX P w) (9 + 1) f fd ["self", "person", "word"] (spDo K mg CP) := by
  refine okN F sc_do (fun vs H Q E ⟨_, _, _, _, e, _⟩ => by rw [e]; rfl) (fun cdv A outer s0 H vs Q E hr ⟨a, ws, G, R, ev, sg, PT, okR, hw, q⟩ => ?_)
  subst ev
  have raise : ∀ {X : Cx} {nm m : Str} {C : Addr} {p1 p2 p3 p4 : Pos} {j : Nat}, True := trivial
  have evd : ∀ ws : Str, (.tuple [.int 0, .str ws] : PyData) = evD (0, ws) := fun _ => rfl
  refine ⟨_, pss_cons (ps_if (pdt_not (pdt_val (pd_call (Z := fun _ => True) (E := E) Fis_event mo_is_event (hr.mono (by decide)) passA (pda_cons (pd_tup (pda_cons (pd_var 1) (pda_cons (pd_var 2) pda_nil))) pda_nil)))).pt (pss_one (L2N.ps_raise rfl (L2N.takes_of rfl rfl rfl rfl) (L2N.pmk_own PySem.F.excBase_ValueError T1.x T1.gC T1.k (raises_own T1.b T1.t) rfl (by decide)))) pss_nil)
    (pss_cons (ps_set (i := 3) sc_do.nd rfl (Or.inr rfl) (pe_meth (E := E) (pv 0) PC.cl MS Fstep (hr.mono (by decide)) hbS .nil passA (pa_cons (pe_fld (pv 0) rfl) (pa_cons (pd_tup (Z := fun _ => True) (E := E) (pda_cons (pd_var 1) (pda_cons (pd_var 2) pda_nil))).pe pa_nil))))
    (pss_cons (ps_if (pdt_isN (Z := fun _ => True) (E := E) (pd_var 3)).pt (pss_one (L2N.ps_raise rfl (L2N.takes_of rfl rfl rfl rfl) (L2N.pmk_own PySem.F.excBase_ValueError T2.x T2.gC T2.k (raises_own T2.b T2.t) rfl (by decide)))) pss_nil) pss_never)), ?_⟩
  refine ⟨pureC, H, G, G, [.fn a, .d (.int 0), .d (.str ws), .un], ds_raw sg ⟨rfl, ⟨_, rfl, .int _⟩, ⟨_, rfl, .str _⟩, trivial, trivial⟩, ?_⟩
  have Z2 : (2 : Nat) ≤ sizeLine := line2
  have okw : okS ws = true := by rcases hw with rfl | rfl <;> decide +kernel
  have gd : goodD (.tuple [.int 0, .str ws]) = true := goodD_of (by simp [okD, okDs, okw]) (by simp [PyData.depth, PyData.depthAll])
  refine ⟨Z2, .tuple [.int 0, .str ws], rfl, gd, isEvent (.tuple [.int 0, .str ws]), rfl, ?_⟩
  intro H1 G1 x1 j1
  obtain ⟨dx, fs, r, n, l, xs, ha, fl, fm, f1, f2, f3, hl, ax, ar, an, ga, gl⟩ := PT.ex
  rcases hw with rfl | rfl
  · have e : isEvent (.tuple [.int 0, .str "buy"]) = true := by decide +kernel
    rw [e]
    have h1 : H1 a = some (.ins CP dx fs) := x1.same _ _ (fun z => z) ha
    have ns : fs.lookup ("step" : Str) = none := fm _ (by decide +kernel) (by decide +kernel) (by decide +kernel)
    refine ⟨.ref a, rfl, a, dx, fs, rfl, h1, ns, ?_⟩
    refine ⟨.ref a, rfl, a, CP, dx, fs, n, rfl, h1, PC.cl, PC.n2, f2, ?_⟩
    refine ⟨pureC, H1, G1, G1, [.fn a, .d (.int 0), .d (.str "buy"), .un], ds_raw x1.sub ⟨rfl, ⟨_, rfl, .int _⟩, ⟨_, rfl, .str _⟩, trivial, trivial⟩, ?_⟩
    refine ⟨Z2, ?_⟩
    intro v2 H2 G2 x2 j2 a2
    have x12 := x1.trans x2
    have h2 : H2 a = some (.ins CP dx fs) := x12.same _ _ (fun z => z) ha
    refine ⟨a, n, v2, G2, R, [], rfl, x12.sub, ⟨dx, fs, r, n, l, xs, h2, fl, fm, f1, f2, f3, x12.same _ _ (fun z => z) hl, ax.same x12.gs, ar.same x12.gs, an.same x12.gs, x12.sep _ _ ha ga, x12.sep _ _ hl gl⟩, okR, an.same x12.gs, a2, ?_⟩
    intro H3 G3 x3
    refine ⟨pureC, H3, G3, G3, [.fn a, .d (.int 0), .d (.str "buy"), .d .none], ds_raw x3.sub ⟨rfl, ⟨_, rfl, .int _⟩, ⟨_, rfl, .str _⟩, ⟨_, rfl, .non⟩, trivial⟩, ?_⟩
    refine ⟨true, rfl, ?_⟩
    intro H4 G4 x4 j4
    refine q C2 H4 G4 ?_ ((x12.trans x3).trans x4)
    rw [if_pos rfl]
    exact T2.gC
  · have e : isEvent (.tuple [.int 0, .str "leap"]) = false := by decide +kernel
    rw [e]
    refine q C1 H1 G1 ?_ x1
    rw [if_neg (by decide +kernel)]
    exact T1.gC
/-! ### Rule, by hand -/
structure RuC (K : PySem.W.Frag) (CR : Addr) : Prop where
  cl : Cls K CR
  n1 : NoAttr K CR "rows"
abbrev s_rinit : Stmt := (clsBody (top 64)).getD 1 (.Pass ⟨0, 0, 0, 0⟩)
theorem sc_rinit : FnScope ["self", "clauses"] ["self", "clauses"] (defScope s_rinit) := ⟨rfl, rfl, rfl, by decide +kernel, rfl, by decide +kernel, by decide +kernel⟩
theorem ok_rinit {CR f : Addr} {fd : FuncData} {dvs : List V} (PC : RuC K CR) (F : FunD K "__init__" "Rule.__init__" (defArgs s_rinit) (defBody s_rinit) (defScope s_rinit) dvs [] f fd) (Fcheck_rule : FD P w K mg base CX0 "check_rule" ["rule"] 4 (spP K mg c_check_rule)) : FnOk P w K mg base CX0 (4 + 1) f fd ["self", "clauses"] (spRI K CR) := by
  refine F.ok sc_rinit (fun vs H Q E ⟨_, _, _, _, _, e, _⟩ => by rw [e]; rfl) (fun cdv A outer s0 H vs Q E hr ⟨a, r, dx, G, R, ev, ha, sg, ga, ar, okR, q⟩ => ?_)
  subst ev
  refine ⟨_, pss_cons (ps_expr (pd_call (Z := fun _ => True) (E := E) Fcheck_rule mo_check_rule (hr.mono (by decide)) passA (pda_cons (pd_var 1) pda_nil)).pe)
    (pss_one (ps_fld (pv 0) (pv 1) rfl)), ?_⟩
  refine ⟨pureC, H, G, G, [.fn a, .d (ruD R)], ds_raw sg ⟨rfl, ⟨_, rfl, ar⟩, trivial⟩, ?_⟩
  refine ⟨ruD R, rfl, good_ruD okR, by rw [isRule_ruD]; exact okR, ?_⟩
  intro v1 H1 G1 x1 j1 a1
  have h1 : H1 a = some (.ins CR dx []) := x1.same _ _ (fun z => z) ha
  have g1 : G1 a = none := x1.sep a _ ha ga
  refine ⟨r, rfl, .ref a, rfl, a, CR, dx, [], rfl, h1, PC.cl, PC.n1, by show 0 < 1000; decide, ?_⟩
  have e1 : Ext (fun b => b = a) G H G1 H1 := x1.weak (fun _ z => z.elim)
  have e2 := Ext.chgM (M := fun b => b = a) (o := .ins CR dx (putF ("rows" : Str) r [])) e1.sub rfl g1
  refine q _ G1 (e1.trans e2) ⟨dx, _, r, upd_same, fun m m1 => ?_, ?_, ar.same x1.gs, g1⟩
  · rw [lookup_putF, if_neg m1]; rfl
  · rw [lookup_putF, if_pos rfl]
abbrev s_sub : Stmt := (clsBody (top 64)).getD 6 (.Pass ⟨0, 0, 0, 0⟩)
theorem sc_sub : FnScope ["self", "index"] ["self", "index"] (defScope s_sub) := ⟨rfl, rfl, rfl, by decide +kernel, rfl, by decide +kernel, by decide +kernel⟩
theorem ok_sub {CR f : Addr} {fd : FuncData} (PC : RuC K CR) (F : Fun K "__sub__" "Rule.__sub__" s_sub f fd) (Fcheck_index : FD P w K mg base (L2N.CX P w) "check_index" ["rule", "index"] 1 (spP K mg c_check_index)) : FnOk P w K mg base (L2N.CX P w) (1 + 1) f fd ["self", "index"] (spSub K mg CR) := by
  refine okN F sc_sub (fun vs H Q E ⟨_, _, e, _⟩ => by rw [e]; rfl) (fun cdv A outer s0 H vs Q E hr ⟨a, G, ev, sg, ⟨dx, fs, r, ha, fm, f1, ar, ga⟩, q⟩ => ?_)
  subst ev
  obtain ⟨fb, fdb, GB, hmb, hkb, hbb⟩ := Fcheck_index.ex
  refine ⟨_, pss_cons (ps_expr (pe_call (E := E) GB (hr.mono (by decide)) rfl hmb hkb hbb .nil (passX (L2N.takes_of rfl rfl rfl rfl)) (pa_cons (pe_fld (pv 0) rfl) (pa_cons (pv 1) pa_nil)))) pss_never, ?_⟩
  refine ⟨.ref a, rfl, a, CR, dx, fs, r, rfl, ha, PC.cl, PC.n1, f1, .int 0, rfl, ?_⟩
  refine ⟨G, [ruD [], .int 0], sg, .cons ar (.cons (.int _) .nil), [], 0, rfl, ?_⟩
  rw [if_neg (by decide)]
  intro c H' G' hm x j
  exact q c H' G' hm x
/-! ### read_rule of a number -/
def spRead7 (K : PySem.W.Frag) (mg : Str → Option Value) : Sp := fun vs H _ E => ∃ i : Int, vs = [.int i] ∧ ∀ c dx H' G', mg "InvalidText" = some (.ref c) → Ext (fun _ => False) (fun _ => none) H G' H' → H' dx = some (.xd [("line", .int 0)]) → E (.ref c) (some dx) H'
abbrev s_read7 : Stmt := top 31
theorem sc_read7 : FnScope ["value"] ["value"] (defScope s_read7) := ⟨rfl, rfl, rfl, by decide +kernel, rfl, by decide +kernel, by decide +kernel⟩
theorem ok_read7 (T : Tx K mg) {f C : Addr} {fd : FuncData} (F : Fun K "read_rule" "read_rule" s_read7 f fd) (TE : FErr P w K mg base "InvalidText" "line" 1 C) : FnOk P w K mg base (L2N.CX P w) (2 + 1) f fd ["value"] (spRead7 K mg) := by
  refine okN F sc_read7 (fun vs H Q E ⟨_, e, _⟩ => by rw [e]; rfl) (fun cdv A outer s0 H vs Q E hr ⟨i, ev, q⟩ => ?_)
  subst ev
  refine ⟨_, pss_cons (ps_if (pdt_not (pdt_val (pd_isi (Z := fun _ => True) (E := E) .str (pe_ty .str T.nstr (by rfl) (by decide +kernel) (by decide) (by decide)) T.nisinstance (pd_var 0)))).pt (pss_one (pd1_raiseFN (Z := fun _ => True) TE rfl (hr.mono (by decide)) (L2N.takes_of rfl rfl rfl rfl) pd_int).ps) pss_nil) pss_never, ?_⟩
  have s0 : Same (fun _ => none) H := fun b o e => by cases e
  refine ⟨pureC, H, fun _ => none, fun _ => none, [.d (.int i)], ds_raw s0 ⟨⟨_, rfl, .int _⟩, trivial⟩, ?_⟩
  refine ⟨false, rfl, ?_⟩
  intro H1 G1 x1 j1
  refine ⟨pureC, H1, G1, G1, [.d (.int i)], ds_raw x1.sub ⟨⟨_, rfl, .int _⟩, trivial⟩, ?_⟩
  intro c dx v H2 G2 hm x2 j2 hd h0 g0 av
  cases av
  exact q c dx H2 G2 hm (x1.trans x2) hd
/-! ### what the lambdas do -/
theorem sl_un {K : PySem.W.Frag} {G : Hp} : ∀ σ : L2.St, SlAll K G (List.replicate σ.length SV.un) σ
  | [] => trivial
  | o :: σ => ⟨trivial, sl_un σ⟩
theorem ds_un {K : PySem.W.Frag} (H : Hp) (σ : L2.St) : DS (fun _ => True) pureC K H (fun _ => none) (fun _ => none) H σ (List.replicate σ.length SV.un) := ds_raw (fun b o e => by cases e) (sl_un σ)
structure PtyM (P : Program) (w : World) (K : PySem.W.Frag) (mg : Str → Option Value) (base : Heap) (CP : Addr) : Prop where
  pc : PtyC K CP
  gC : mg "Party" = some (.ref CP)
  init : ∃ f fd, Mk K CP f ∧ FnOk P w K mg base CX0 5 f fd ["self", "rule"] (spPI K CP) ∧ Binds K fd ["self", "rule"] []
  undo : ∃ f fd, Meth K CP "undo" f ∧ FnOk P w K mg base (L2N.CX P w) 1 f fd ["self"] (spUndo K mg CP) ∧ Binds K fd ["self"] []
  do_ : ∃ f fd, Meth K CP "do" f ∧ FnOk P w K mg base (L2N.CX P w) 10 f fd ["self", "person", "word"] (spDo K mg CP) ∧ Binds K fd ["self", "person", "word"] []
structure RuM (P : Program) (w : World) (K : PySem.W.Frag) (mg : Str → Option Value) (base : Heap) (CR : Addr) : Prop where
  gC : mg "Rule" = some (.ref CR)
  init : ∃ f fd, Mk K CR f ∧ FnOk P w K mg base CX0 5 f fd ["self", "clauses"] (spRI K CR) ∧ Binds K fd ["self", "clauses"] []
  sub : ∃ g fd, BinI K CR g .Sub ∧ FnOk P w K mg base (L2N.CX P w) 2 g fd ["self", "index"] (spSub K mg CR) ∧ Binds K fd ["self", "index"] []
section
variable {X : Cx} {E : XK} {CP CR : Addr} {p1 p2 p3 p4 p5 p6 p7 : Pos} {j1 j2 : Nat}
theorem same_make {H H1 H2 H3 : Hp} {G1 G2 G3 : Hp} {x dx C : Addr} (x1 : Ext pureC.M (fun _ => none) H G1 H1) (nx : H1 x = none) (ndx : H1 dx = none) (hne : dx ≠ x) (e : Ext (fun b => b = x) G1 (upd (upd H1 dx (.own x)) x (.ins C dx [])) G2 H2) (e2 : Ext (fun _ => False) G2 H2 G3 H3) : Same H H3 := fun b o hb => by
  have h1 : H1 b = some o := x1.same b o (fun z => z) hb
  have nb : b ≠ x := ne_of_none h1 nx
  have nd : b ≠ dx := ne_of_none h1 ndx
  exact e2.same b o (fun z => z) (e.same b o nb (by rw [upd_ne nb, upd_ne nd]; exact h1))
theorem same_pre {G1 H1 : Hp} {x dx C : Addr} (s : Same G1 H1) (nx : H1 x = none) (ndx : H1 dx = none) : Same G1 (upd (upd H1 dx (.own x)) x (.ins C dx [])) := fun b o e => by
  have h1 := s b o e
  rw [upd_ne (ne_of_none h1 nx), upd_ne (ne_of_none h1 ndx)]
  exact h1
theorem pe_undo (M : PtyM P w K mg base CP) (hr : Room 6 X.A) (tk : TkN X E) (hg : Gl X "Party" := by rfl) (hl : (p4.endLine == p5.line) = true := by rfl) (h1 : X.prog = P := by rfl) (h2 : X.w = w := by rfl) (h3 : X.K = K := by rfl) (h4 : X.mg = mg := by rfl) (h5 : X.base = base := by rfl) :
    PE X (.Call (.Attribute (.Call (.Name "Party" p1) [.Tuple [] j1 p2] [] p3) "undo" p4) [] [] p5) (fun _ H _ => ∀ c H', mg "NothingToUndo" = some (.ref c) → Same H H' → E (.ref c) none H') := by
  subst h1 h2 h3 h4 h5
  obtain ⟨fi, fdi, MK, FI, bI⟩ := M.init
  obtain ⟨fu, fdu, MU, FU, bU⟩ := M.undo
  refine PEimp (pe_meth0 (pe_make (E := E) MK FI hr hg M.gC bI .nil passA (pa_cons (pd_tup (Z := fun _ => True) (E := E) pda_nil).pe pa_nil)) M.pc.cl MU FU (hr.mono (by decide)) bU .nil (passX tk) (mcall_of (by rfl) fun ov => mcall_line (by rfl) hl)) fun σ H Q q => ?_
  refine ⟨pureC, H, _, _, _, ds_un H σ, Nat.zero_le _, ?_⟩
  intro v H1 G1 x1 jj1 a1
  intro x dx nx ndx hne
  refine ⟨x, v, dx, G1, [], rfl, upd_same, same_pre x1.sub nx ndx, none_same x1.sub nx, a1, by decide, fun H2 G2 e2 PT => ⟨rfl, ?_⟩⟩
  obtain ⟨dx', fs, r, n, l, xs, ha, fl, fm, _⟩ := PT.ex
  refine ⟨x, dx', fs, rfl, ha, fm _ (by decide +kernel) (by decide +kernel) (by decide +kernel), ?_⟩
  refine ⟨x, G2, [], now0, rfl, e2.sub, PT, fun c H3 G3 hm e3 => q c H3 hm (same_make x1 nx ndx hne e2 e3)⟩
theorem pe_do (M : PtyM P w K mg base CP) (hr : Room 10 X.A) (tk : TkN X E) {ws : Str} (hw : ws = "buy" ∨ ws = "leap") (hg : Gl X "Party" := by rfl) (hl : (p4.endLine == p5.line) = true := by rfl) (h1 : X.prog = P := by rfl) (h2 : X.w = w := by rfl) (h3 : X.K = K := by rfl) (h4 : X.mg = mg := by rfl) (h5 : X.base = base := by rfl) :
    PE X (.Call (.Attribute (.Call (.Name "Party" p1) [.Tuple [] j1 p2] [] p3) "do" p4) [.Constant (.int 0) j2 p6, .Constant (.str ws) j2 p7] [] p5) (fun _ H _ => ∀ c H', mg (if ws = ("buy" : Str) then "NotNow" else "InvalidEvent") = some (.ref c) → Same H H' → E (.ref c) none H') := by
  subst h1 h2 h3 h4 h5
  obtain ⟨fi, fdi, MK, FI, bI⟩ := M.init
  obtain ⟨fu, fdu, MU, FU, bU⟩ := M.do_
  refine PEimp (pe_meth (pe_make (E := E) MK FI (hr.mono (by decide)) hg M.gC bI .nil passA (pa_cons (pd_tup (Z := fun _ => True) (E := E) pda_nil).pe pa_nil)) M.pc.cl MU FU hr bU .nil (passX tk) (pa_cons pe_int (pa_cons pe_str pa_nil)) (by rfl) (by rfl) (mcall_of (by rfl) fun ov => mcall_line (by rfl) hl)) fun σ H Q q => ?_
  refine ⟨pureC, H, _, _, _, ds_un H σ, Nat.zero_le _, ?_⟩
  intro v H1 G1 x1 jj1 a1
  intro x dx nx ndx hne
  refine ⟨x, v, dx, G1, [], rfl, upd_same, same_pre x1.sub nx ndx, none_same x1.sub nx, a1, by decide, fun H2 G2 e2 PT => ⟨rfl, ?_⟩⟩
  obtain ⟨dx', fs, r, n, l, xs, ha, fl, fm, _⟩ := PT.ex
  refine ⟨x, dx', fs, rfl, ha, fm _ (by decide +kernel) (by decide +kernel) (by decide +kernel), ?_⟩
  refine ⟨x, ws, G2, [], rfl, e2.sub, PT, by decide, hw, fun c H3 G3 hm e3 => q c H3 hm (same_make x1 nx ndx hne e2 e3)⟩
theorem pe_rsub (M : RuM P w K mg base CR) (hr : Room 6 X.A) (tk : TkN X E) (hg : Gl X "Rule" := by rfl) (h1 : X.prog = P := by rfl) (h2 : X.w = w := by rfl) (h3 : X.K = K := by rfl) (h4 : X.mg = mg := by rfl) (h5 : X.base = base := by rfl) :
    PE X (.BinOp (.Call (.Name "Rule" p1) [.Tuple [] j1 p2] [] p3) .Sub (.Constant (.int 0) j2 p4) p5) (fun _ H _ => ∀ c H', mg "InvalidIndex" = some (.ref c) → Same H H' → E (.ref c) none H') := by
  subst h1 h2 h3 h4 h5
  obtain ⟨fi, fdi, MK, FI, bI⟩ := M.init
  obtain ⟨fu, fdu, MU, FU, bU⟩ := M.sub
  refine PEimp (pe_op (op_binI (E := E) MU FU bU (hr.mono (by decide)) (passX tk)) (pe_make (E := E) MK FI hr hg M.gC bI .nil passA (pa_cons (pd_tup (Z := fun _ => True) (E := E) pda_nil).pe pa_nil)) pe_int) fun σ H Q q => ?_
  refine ⟨pureC, H, _, _, _, ds_un H σ, Nat.zero_le _, ?_⟩
  intro v H1 G1 x1 jj1 a1
  intro x dx nx ndx hne
  refine ⟨x, v, dx, G1, [], rfl, upd_same, same_pre x1.sub nx ndx, none_same x1.sub nx, a1, by decide, fun H2 G2 e2 PT => ⟨rfl, ?_⟩⟩
  obtain ⟨dx', fs, r, ha, fm, f1, ar, ga⟩ := id PT
  refine ⟨x, dx', fs, 0, rfl, rfl, ha, ?_⟩
  exact ⟨x, G2, rfl, e2.sub, PT, fun c H3 G3 hm e3 => q c H3 hm (same_make x1 nx ndx hne e2 e3)⟩
theorem pe_read7 {f : Addr} {fd : FuncData} (F : FnOk P w K mg base (L2N.CX P w) 3 f fd ["value"] (spRead7 K mg)) (hm : mg "read_rule" = some (.ref f)) (hk : PySem.W.keepIn K (.ref f) = true) (hb : Binds K fd ["value"] []) (hr : Room 3 X.A) (tk : TkN X E) (hg : Gl X "read_rule" := by rfl) (h1 : X.prog = P := by rfl) (h2 : X.w = w := by rfl) (h3 : X.K = K := by rfl) (h4 : X.mg = mg := by rfl) (h5 : X.base = base := by rfl) :
    PE X (.Call (.Name "read_rule" p1) [.Constant (.int 7) j1 p2] [] p3) (fun _ H _ => ∀ c dx H', mg "InvalidText" = some (.ref c) → Same H H' → H' dx = some (.xd [("line", .int 0)]) → E (.ref c) (some dx) H') := by
  subst h1 h2 h3 h4 h5
  refine PEimp (pe_call (E := E) F hr hg hm hk hb .nil (passX tk) (pa_cons pe_int pa_nil)) fun σ H Q q => ?_
  exact ⟨7, rfl, fun c dx H' G' h1 x h2 => q c dx H' h1 (fun b o e => x.same b o (fun z => z) e) h2⟩
end
/-! ### told, by hand -/
theorem pe_toldR {X : Cx} {T : List (Addr × Str)} {x a : Str} {c Pt : Addr} {k kt : Nat} {params : Arguments} {body : Expr} {scope : Scope} {t : XK → TE} {p lpos pos : Pos} (D : ToldD X.prog X.w X.K X.mg X.base x a kt) (M : MkL X T c Pt) (hr : Room (k + 2) X.A)
    (hbody : ∀ (A : Around) (outer : List Env) (s : Shared) (H : Hp) (E : XK) (f c' : Addr), Room k (A.deeper (lamEnv X scope s.heap.objs.size f c')) → PE (lamCxN X A outer s H E scope f c') body (t E))
    (hkt : kt ≤ k + 2 := by omega) (hg : Gl X x := by rfl) (hcode : X.env.code = .ref c := by rfl) (L : LamS X.env.scope scope := by exact lamS_by (by with_unfolding_all rfl)) (hdef : defaultsOf params X.env = ([], []) := by rfl)
    (hbind : ∀ (q : Str) (cl : List (Str × Addr)) (pm cv ctv : Value), bindArgs (PySem.W.kla_fn "<lambda>" q params body scope cl pm cv ctv) ⟨[], []⟩ = pure [] := by intro _ _ _ _ _; rfl)
    (hdb : (x == ("__debug__" : Str)) = false := by decide) (hd : (a == ("__debug__" : Str)) = false := by decide) (hcd : (a == ("__classdict__" : Str)) = false := by decide) :
    PE X (.Call (.Name x p) [.Lambda params body scope lpos] [] pos) (tLamN T Pt (TTold X.mg) t) := by
  obtain ⟨g, fd, st, Ng, F, hm, hb, Sg, hN0, hva, hG⟩ := D.ex
  obtain ⟨oc, od, kV, doc, pm, an, cdv, ct, osl, rfl, lk, hcg⟩ := F.ex
  exact pe_lamcallN (T := T) hg hm F.kp lk hcg hb Sg hN0 hva (hG X rfl rfl rfl rfl rfl (hr.mono hkt) cdv _) M.tb hcode M.mem M.uniq hr L hdef hbind hbody hdb hd hcd
theorem told_wd {T : List (Addr × Str)} {Pt : Addr} {mg : Str → Option Value} {nm wd : Str} {σ : L2.St} {H : Hp} {Q : VK} (hT : Tabs T H) (hw : wordsL.lookup nm = some wd) (q : ∀ H3, (∀ b o, H b = some o → b ≠ Pt → H3 b = some o) → Tabs T H3 → Q (.str wd) H3) :
    tLamN T Pt (TTold mg) (fun E _ H _ => ∀ c H', mg nm = some (.ref c) → Same H H' → E (.ref c) none H') σ H Q := by
  refine ⟨hT, fun H1 e1 T1 => ?_⟩
  intro c H2 hm s2
  refine ⟨wd, ⟨nm, c, rfl, hm, hw, fun dd z => nomatch z⟩, fun H3 s3 => ?_⟩
  exact q H3 (fun b o e n => s3 _ _ (s2 _ _ (e1 _ _ e n))) (T1.ext fun b o e => s3 _ _ (s2 _ _ e))
theorem told_wdX {T : List (Addr × Str)} {Pt : Addr} {mg : Str → Option Value} {nm wd f : Str} {v : V} {σ : L2.St} {H : Hp} {Q : VK} (hT : Tabs T H) (hw : wordsL.lookup nm = some wd) (q : ∀ H3, (∀ b o, H b = some o → b ≠ Pt → H3 b = some o) → Tabs T H3 → Q (.str wd) H3) :
    tLamN T Pt (TTold mg) (fun E _ H _ => ∀ c dx H', mg nm = some (.ref c) → Same H H' → H' dx = some (.xd [(f, v)]) → E (.ref c) (some dx) H') σ H Q := by
  refine ⟨hT, fun H1 e1 T1 => ?_⟩
  intro c dx H2 hm s2 hx
  refine ⟨wd, ⟨nm, c, rfl, hm, hw, fun dd z => by cases z; exact ⟨_, hx⟩⟩, fun H3 s3 => ?_⟩
  exact q H3 (fun b o e n => s3 _ _ (s2 _ _ (e1 _ _ e n))) (T1.ext fun b o e => s3 _ _ (s2 _ _ e))
theorem tabs_lst {T : List (Addr × Str)} {H : Hp} {l : Addr} {xs : List V} {o : HO} (t : Tabs T H) (hl : H l = some (.lst xs)) : Tabs T (upd H l o) := Tabs.js (fun b u hb e => by
  have n : b ≠ l := fun z => by
    subst z
    rcases hb with hb | ⟨φ, rfl⟩
    · exact tab_not t hl (fun ps z => by cases z) hb
    · rw [hl] at e; cases e
  rw [upd_ne n]; exact e) t
/-! ### the law -/
abbrev s_law : Stmt := top 69
abbrev N_law19 : List Str := ["script", "tape", "number", "rows", "due", "told", "e"]
theorem sc_law : FnScope N_law19 ["script"] (defScope s_law) := ⟨rfl, rfl, rfl, by decide +kernel, rfl, by decide +kernel, by decide +kernel⟩
abbrev q_law : Str := (envOfC "law" (defScope s_law) 0 0 .none).qual ++ "<lambda>"
abbrev told5 : List Str := ["nothing", "text", "notnow", "event", "index"]
abbrev X19 (P : Program) (w : World) (K : PySem.W.Frag) (mg : Str → Option Value) (base : Heap) (f c : Addr) (A : Around) (outer : List Env) (s0 : Shared) (H0 : Hp) (E : XK) : Cx := (cxOf CX0 P w K mg base N_law19 "law" (defScope s_law) f (.ref c) A outer s0 H0 E).nox
/-- its end: five refusals -/
theorem tail_told {c Pt f CP CR f7 : Addr} {fd7 : FuncData} (TB : TabB base mg c Pt) (Ftried : ToldD P w K mg base "_law_tried" "call" 2) (MP : PtyM P w K mg base CP) (MR : RuM P w K mg base CR)
    (F7 : FnOk P w K mg base (L2N.CX P w) 3 f7 fd7 ["value"] (spRead7 K mg)) (hm7 : mg "read_rule" = some (.ref f7)) (hk7 : PySem.W.keepIn K (.ref f7) = true) (hb7 : Binds K fd7 ["value"] [])
    (A : Around) (outer : List Env) (s0 : Shared) (H0 : Hp) (E : XK) (hr : Room 13 (A.deeper (envOfC "law" (defScope s_law) s0.heap.objs.size f (.ref c)))) :
    ∃ t, PSs (cxOf CX0 P w K mg base N_law19 "law" (defScope s_law) f (.ref c) A outer s0 H0 E).nox ((defBody s_law).drop 8) t ∧
      ∀ (Q : VK) (H : Hp) (σ0 σ1 σ2 σ3 σ4 σ6 : Option V), Tabs [(Pt, q_law)] H → (∀ H', Q (.bl true) H') → t { nx := fun _ H' => Q .non H', rt := Q } [σ0, σ1, σ2, σ3, σ4, none, σ6] H := by
  have hu := hr.units
  have M : MkL (cxOf CX0 P w K mg base N_law19 "law" (defScope s_law) f (.ref c) A outer s0 H0 E).nox [(Pt, q_law)] c Pt := ⟨TB, List.mem_singleton_self _, fun p hp _ => by rw [List.mem_singleton.mp hp]; rfl⟩
  have tk : ∀ {X : Cx}, True := trivial
  refine ⟨_, pss_cons (ps_set (i := 5) sc_law.nd rfl (Or.inl rfl) (pe_lst (pa_cons (by exact pe_toldR (k := 11) Ftried M (hr.mono (by decide)) (fun A2 o2 s2 H2 E2 f2 c2 hr' => by exact pe_undo MP (hr'.mono (by decide)) (L2N.takes_of rfl rfl rfl rfl))) pa_nil)))
    (pss_cons (ps_expr (pe_bm PySem.F.plainAttrs_list PySem.F.slot_list_append PySem.F.type_list_append mt_append (pv 5) (pa_cons (by exact pe_toldR (k := 11) Ftried M (hr.mono (by decide)) (fun A2 o2 s2 H2 E2 f2 c2 hr' => by exact pe_read7 F7 hm7 hk7 hb7 (hr'.mono (by decide)) (L2N.takes_of rfl rfl rfl rfl))) pa_nil)))
    (pss_cons (ps_expr (pe_bm PySem.F.plainAttrs_list PySem.F.slot_list_append PySem.F.type_list_append mt_append (pv 5) (pa_cons (by exact pe_toldR (k := 11) Ftried M (hr.mono (by decide)) (fun A2 o2 s2 H2 E2 f2 c2 hr' => by exact pe_do MP (hr'.mono (by decide)) (L2N.takes_of rfl rfl rfl rfl) (.inl rfl))) pa_nil)))
    (pss_cons (ps_expr (pe_bm PySem.F.plainAttrs_list PySem.F.slot_list_append PySem.F.type_list_append mt_append (pv 5) (pa_cons (by exact pe_toldR (k := 11) Ftried M (hr.mono (by decide)) (fun A2 o2 s2 H2 E2 f2 c2 hr' => by exact pe_do MP (hr'.mono (by decide)) (L2N.takes_of rfl rfl rfl rfl) (.inr rfl))) pa_nil)))
    (pss_cons (ps_expr (pe_bm PySem.F.plainAttrs_list PySem.F.slot_list_append PySem.F.type_list_append mt_append (pv 5) (pa_cons (by exact pe_toldR (k := 11) Ftried M (hr.mono (by decide)) (fun A2 o2 s2 H2 E2 f2 c2 hr' => by exact pe_rsub MR (hr'.mono (by decide)) (L2N.takes_of rfl rfl rfl rfl))) pa_nil)))
    (pss_one (ps_ret (pe_cmpR (op_eqD hu) (pv 5) (pe_lst (pa_cons pe_str (pa_cons pe_str (pa_cons pe_str (pa_cons pe_str (pa_cons pe_str pa_nil)))))) (nomark _)))))))), ?_⟩
  intro Q H σ0 σ1 σ2 σ3 σ4 σ6 hT hQ
  have Z : ∀ {n : Nat}, n ≤ 1000 → n ≤ sizeLine := fun h => by rw [line24]; omega
  have notP : ∀ {H : Hp} {b : Addr} {xs : List V}, Tabs [(Pt, q_law)] H → H b = some (.lst xs) → b ≠ Pt := fun hT hb z => by
    obtain ⟨ps, h1, _⟩ := hT _ (List.mem_singleton_self _)
    rw [z, h1] at hb
    cases hb
  refine told_wd (σ := [σ0, σ1, σ2, σ3, σ4, none, σ6]) hT (show wordsL.lookup (Str.ofString "NothingToUndo") = some (Str.ofString "nothing") by decide +kernel) fun H1 e1 T1 => ?_
  refine ⟨Z (show 1 ≤ 1000 by decide), fun l hl => ?_⟩
  have T1' : Tabs [(Pt, q_law)] (upd H1 l (.lst [.str (Str.ofString "nothing")])) := T1.ext (same_upd hl)
  have h1 : (upd H1 l (.lst [.str (Str.ofString "nothing")])) l = some (.lst [.str (Str.ofString "nothing")]) := upd_same
  generalize upd H1 l (.lst [.str (Str.ofString "nothing")]) = K1 at T1' h1 ⊢
  refine ⟨.ref l, rfl, .inl ⟨rfl, _, SqL.of h1⟩, ?_⟩
  refine told_wdX (σ := [σ0, σ1, σ2, σ3, σ4, some (.ref l), σ6]) T1' (show wordsL.lookup (Str.ofString "InvalidText") = some (Str.ofString "text") by decide +kernel) fun H2 e2 T2 => ?_
  have g2 : H2 l = some (.lst [.str (Str.ofString "nothing")]) := e2 _ _ h1 (notP T1' h1)
  refine ⟨l, _, _, rfl, rfl, g2, by rw [line24]; decide, ?_⟩
  have T2' : Tabs [(Pt, q_law)] (upd H2 l (.lst [.str (Str.ofString "nothing"), .str (Str.ofString "text")])) := tabs_lst T2 g2
  have h2 : (upd H2 l (.lst [.str (Str.ofString "nothing"), .str (Str.ofString "text")])) l = some (.lst [.str (Str.ofString "nothing"), .str (Str.ofString "text")]) := upd_same
  show tSeq _ _ _ _ (upd H2 l (.lst [.str (Str.ofString "nothing"), .str (Str.ofString "text")]))
  generalize upd H2 l (.lst [.str (Str.ofString "nothing"), .str (Str.ofString "text")]) = K2 at T2' h2 ⊢
  refine ⟨.ref l, rfl, .inl ⟨rfl, _, SqL.of h2⟩, ?_⟩
  refine told_wd (σ := [σ0, σ1, σ2, σ3, σ4, some (.ref l), σ6]) T2' (show wordsL.lookup (Str.ofString "NotNow") = some (Str.ofString "notnow") by decide +kernel) fun H3 e3 T3 => ?_
  have g3 : H3 l = some (.lst [.str (Str.ofString "nothing"), .str (Str.ofString "text")]) := e3 _ _ h2 (notP T2' h2)
  refine ⟨l, _, _, rfl, rfl, g3, by rw [line24]; decide, ?_⟩
  have T3' : Tabs [(Pt, q_law)] (upd H3 l (.lst [.str (Str.ofString "nothing"), .str (Str.ofString "text"), .str (Str.ofString "notnow")])) := tabs_lst T3 g3
  have h3 : (upd H3 l (.lst [.str (Str.ofString "nothing"), .str (Str.ofString "text"), .str (Str.ofString "notnow")])) l = some (.lst [.str (Str.ofString "nothing"), .str (Str.ofString "text"), .str (Str.ofString "notnow")]) := upd_same
  show tSeq _ _ _ _ (upd H3 l (.lst [.str (Str.ofString "nothing"), .str (Str.ofString "text"), .str (Str.ofString "notnow")]))
  generalize upd H3 l (.lst [.str (Str.ofString "nothing"), .str (Str.ofString "text"), .str (Str.ofString "notnow")]) = K3 at T3' h3 ⊢
  refine ⟨.ref l, rfl, .inl ⟨rfl, _, SqL.of h3⟩, ?_⟩
  refine told_wd (σ := [σ0, σ1, σ2, σ3, σ4, some (.ref l), σ6]) T3' (show wordsL.lookup (Str.ofString "InvalidEvent") = some (Str.ofString "event") by decide +kernel) fun H4 e4 T4 => ?_
  have g4 : H4 l = some (.lst [.str (Str.ofString "nothing"), .str (Str.ofString "text"), .str (Str.ofString "notnow")]) := e4 _ _ h3 (notP T3' h3)
  refine ⟨l, _, _, rfl, rfl, g4, by rw [line24]; decide, ?_⟩
  have T4' : Tabs [(Pt, q_law)] (upd H4 l (.lst [.str (Str.ofString "nothing"), .str (Str.ofString "text"), .str (Str.ofString "notnow"), .str (Str.ofString "event")])) := tabs_lst T4 g4
  have h4 : (upd H4 l (.lst [.str (Str.ofString "nothing"), .str (Str.ofString "text"), .str (Str.ofString "notnow"), .str (Str.ofString "event")])) l = some (.lst [.str (Str.ofString "nothing"), .str (Str.ofString "text"), .str (Str.ofString "notnow"), .str (Str.ofString "event")]) := upd_same
  show tSeq _ _ _ _ (upd H4 l (.lst [.str (Str.ofString "nothing"), .str (Str.ofString "text"), .str (Str.ofString "notnow"), .str (Str.ofString "event")]))
  generalize upd H4 l (.lst [.str (Str.ofString "nothing"), .str (Str.ofString "text"), .str (Str.ofString "notnow"), .str (Str.ofString "event")]) = K4 at T4' h4 ⊢
  refine ⟨.ref l, rfl, .inl ⟨rfl, _, SqL.of h4⟩, ?_⟩
  refine told_wd (σ := [σ0, σ1, σ2, σ3, σ4, some (.ref l), σ6]) T4' (show wordsL.lookup (Str.ofString "InvalidIndex") = some (Str.ofString "index") by decide +kernel) fun H5 e5 T5 => ?_
  have g5 : H5 l = some (.lst [.str (Str.ofString "nothing"), .str (Str.ofString "text"), .str (Str.ofString "notnow"), .str (Str.ofString "event")]) := e5 _ _ h4 (notP T4' h4)
  refine ⟨l, _, _, rfl, rfl, g5, by rw [line24]; decide, ?_⟩
  refine ⟨.ref l, rfl, Z (show 5 ≤ 1000 by decide), fun p hp => ?_⟩
  have sh : SeqAt.shaped (.list (strsD told5)) = true := by decide +kernel
  refine ⟨.list (strsD told5), .list (strsD told5), (At.lst ((upd_ne (ne_of_none upd_same hp)).trans upd_same) (strs_at told5)).dp, (At.lst upd_same (strs_at told5)).dp, sh, sh, ?_⟩
  have ee : PyData.eqv (.list (strsD told5)) (.list (strsD told5)) = true := by decide +kernel
  rw [ee]
  exact hQ _
end
end DL
namespace DL19
theorem ifF {b : Bool} {A B : Prop} (h : b = false) (a : B) : if b = true then A else B := by rw [h, if_neg Bool.false_ne_true]; exact a
end DL19
namespace DL
open PySem PySem.Spec L2 LamX HOT
open PyProof.Rows (envOfC)
section
variable {P : Program} {w : World} {K : PySem.W.Frag} {mg : Str → Option Value} {base : Heap}
abbrev W11 : List Str := wordsL.map (·.2)
/-- its middle: the words of eleven errors -/
theorem tail_mid (T : Tx K mg) (WT : WordTx K mg) {c Pt f CP CR CT f7 fw LE : Addr} {fd7 fdw : FuncData} {kT : Nat} (TB : TabB base mg c Pt) (Ftried : ToldD P w K mg base "_law_tried" "call" 2) (MP : PtyM P w K mg base CP) (MR : RuM P w K mg base CR)
    (F7 : FnOk P w K mg base (L2N.CX P w) 3 f7 fd7 ["value"] (spRead7 K mg)) (hm7 : mg "read_rule" = some (.ref f7)) (hk7 : PySem.W.keepIn K (.ref f7) = true) (hb7 : Binds K fd7 ["value"] [])
    (FW : FnOk P w K mg base CX0 1 fw fdw ["e"] (spWordV K mg)) (hmw : mg "_law_word" = some (.ref fw)) (hkw : PySem.W.keepIn K (.ref fw) = true) (hbw : Binds K fdw ["e"] [])
    (TE : FErr P w K mg base "InvalidText" "line" kT CT) (gLE : mg "ListError" = some (.ref LE)) (kLE : ∀ nm wd C, wordsL.lookup nm = some wd → mg nm = some (.ref C) → PySem.W.kitOne K (.ref C) (.ref LE) = some true)
    (A : Around) (outer : List Env) (s0 : Shared) (H0 : Hp) (E : XK) (hr : Room 13 (A.deeper (envOfC "law" (defScope s_law) s0.heap.objs.size f (.ref c)))) :
    ∃ t, PSs (cxOf CX0 P w K mg base N_law19 "law" (defScope s_law) f (.ref c) A outer s0 H0 E).nox ((defBody s_law).drop 5) t ∧
      ∀ (Q : VK) (H : Hp) (σ0 σ1 : Option V) (r : Int) (l : Addr) (es : List Addr), Tabs [(Pt, q_law)] H → H l = some (.lst (es.map V.ref)) → RowsAt mg H es wordsL → (∃ a dx, es[10]? = some a ∧ H a = some (ExV (.ref CT) (some dx) a) ∧ H dx = some (.xd [("line", .int r)])) → (∀ H', Q (.bl true) H') →
        t { nx := fun _ H' => Q .non H', rt := Q } [σ0, σ1, some (.int r), some (.ref l), none, none, none] H := by
  have hu := hr.units
  obtain ⟨t8, p8, r8⟩ := tail_told (f := f) TB Ftried MP MR F7 hm7 hk7 hb7 A outer s0 H0 E hr
  refine ⟨_, pss_cons (ps_set (i := 4) sc_law.nd rfl (Or.inl rfl) (pe_lst (pa_cons pe_str (pa_cons pe_str (pa_cons pe_str (pa_cons pe_str (pa_cons pe_str (pa_cons pe_str (pa_cons pe_str (pa_cons pe_str (pa_cons pe_str (pa_cons pe_str (pa_cons pe_str pa_nil)))))))))))))
    (pss_cons (ps_if (PW.pt (pw_or (pt_cmpR (op_neD hu) (pe_lc (own := [("e", 6)]) (g := gName 6) (tt := tYes) rfl sc_law.nd (pi_list (pv 3)) (blkOk_by (N := N_law19) (sc := defScope s_law) (by decide +kernel)) (fun _ _ _ _ _ => pg_name (i := 6) sc_law.nd rfl (Or.inl rfl)) (fun _ _ _ _ _ => pts_nil) (fun _ _ _ _ _ => pe_call (E := E0) FW (hr.mono (by decide)) rfl hmw hkw hbw .nil passA (pa_cons (pv 6) pa_nil))) (pv 4) (nomark _)) (pw_or1 (pt_cmpR op_ne (pe_errF TE (pe_ix ix_list (pv 3) pe_int (fun _ _ => rfl))) (pv 2) (nomark _))))) (pss_one (ps_ret pe_bl)) pss_nil)
    (pss_cons (ps_if (pt_cmpR (op_neD hu) (pe_lc (own := [("e", 6)]) (g := gName 6) (tt := tOr (tNot (tB (tCB (rIsX K) (tCons (tVar 6) (tCons (tC (.ref LE)) tNil))))) (tNot (tB (tCB (rIsX K) (tCons (tVar 6) (tCons (tC (.ty "ValueError")) tNil)))))) rfl sc_law.nd (pi_list (pv 3)) (blkOk_by (N := N_law19) (sc := defScope s_law) (by decide +kernel)) (fun _ _ _ _ _ => pg_name (i := 6) sc_law.nd rfl (Or.inl rfl))
        (fun _ _ _ _ _ => pts_one (PW.pt (pw_or (pt_not (pt_val (pe_callB call_isX (by rfl) T.nisinstance (by decide +kernel) (pa_cons (pv 6) (pa_cons (pe_glob (v := .ref LE) rfl gLE rfl (by decide)) pa_nil))))) (pw_or1 (pt_not (pt_val (pe_callB call_isX (by rfl) T.nisinstance (by decide +kernel) (pa_cons (pv 6) (pa_cons (pe_bltn (by rfl) T.nValueError (by decide +kernel) rfl (by decide) (by decide)) pa_nil))))))))) (fun _ _ _ _ _ => pv 6)) (pe_lst pa_nil) (nomark _)) (pss_one (ps_ret pe_bl)) pss_nil) p8)), ?_⟩
  intro Q H σ0 σ1 r l es hT hl hR hx hQ
  have Z : ∀ {n : Nat}, n ≤ 1000 → n ≤ sizeLine := fun h => by rw [line24]; omega
  have le : es.length = 11 := hR.len
  refine ⟨Z (show 11 ≤ 1000 by decide), fun d hd => ?_⟩
  have S0 : Same H (upd H d (.lst (W11.map V.str))) := same_upd hd
  have hd1 : (upd H d (.lst (W11.map V.str))) d = some (.lst (W11.map V.str)) := upd_same
  show tSeq _ _ _ _ (upd H d (.lst (W11.map V.str)))
  generalize upd H d (.lst (W11.map V.str)) = H1 at S0 hd1 ⊢
  have hl1 := S0 _ _ hl
  have hR1 := hR.same S0
  have hT1 : Tabs [(Pt, q_law)] H1 := hT.ext S0
  -- the words
  refine ⟨.ref l, rfl, l, rfl, ⟨_, SqL.of hl1⟩, fun D hD => lc_list (xs := es.map V.ref) (fun i Hx => Same H1 Hx ∧ Hx D = some (.lst ((wordsL.take i).map fun p => V.str p.2))) ⟨same_upd hD, upd_same⟩ (fun i Hx _ p => SqL.of (p.1 _ _ hl1)) (fun i x Hx hx p => ?_) (fun Hx p => ?_)⟩
  · rw [List.getElem?_map] at hx
    cases he : es[i]? with
    | none => rw [he] at hx; cases hx
    | some e =>
      rw [he] at hx
      cases hx
      obtain ⟨pr, D0, d0, g1, g2, g3, g4⟩ := (hR1.same p.1).get he
      refine ⟨rfl, ?_⟩
      refine ⟨.ref e, rfl, e, D0, d0, pr.1, pr.2, rfl, g2, g3, g4, fun H' s' => ?_⟩
      have lt : i < 11 := by
        have := (List.getElem?_eq_some_iff.mp he).1
        omega
      refine ⟨_, s' _ _ p.2, by rw [List.length_map, List.length_take]; have : min i wordsL.length ≤ i := Nat.min_le_left _ _; rw [line24]; omega, fun b o e0 => ?_, ?_⟩
      · rw [upd_ne (ne_of_none e0 hD)]
        exact s' _ _ (p.1 _ _ e0)
      · rw [upd_same, List.take_add_one, g1]
        simp
  · obtain ⟨sx, hx2⟩ := p
    have full : (wordsL.take (es.map V.ref).length).map (fun p => V.str p.2) = W11.map V.str := by
      rw [List.length_map, le]
      decide +kernel
    rw [full] at hx2
    have sh : SeqAt.shaped (.list (strsD W11)) = true := by decide +kernel
    have ee : PyData.eqv (.list (strsD W11)) (.list (strsD W11)) = true := by decide +kernel
    refine ⟨.ref d, rfl, .list (strsD W11), .list (strsD W11), (At.lst hx2 (strs_at W11)).dp, (At.lst (sx _ _ hd1) (strs_at W11)).dp, sh, sh, _, rfl, ?_⟩
    rw [ee]
    refine DL19.ifF rfl ?_
    obtain ⟨a11, dx, x1, x2, x3⟩ := hx
    have hl2 := sx _ _ hl1
    refine ⟨.ref l, rfl, l, _, 10, .ref a11, rfl, rfl, SqL.of hl2, atI_nat (j := 10) (by rw [List.getElem?_map, x1]; rfl), a11, dx, .int r, rfl, sx _ _ (S0 _ _ x2), sx _ _ (S0 _ _ x3), .int r, rfl, rfl, _, rfl, ?_⟩
    rw [decide_eq_true rfl]
    refine DL19.ifF rfl ?_
    -- nothing but such errors
    have hR2 := hR1.same sx
    have hT2 : Tabs [(Pt, q_law)] Hx := hT1.ext sx
    refine ⟨.ref l, rfl, l, rfl, ⟨_, SqL.of hl2⟩, fun D2 hD2 => lc_list (xs := es.map V.ref) (fun i Hy => Same Hx Hy ∧ Hy D2 = some (.lst [])) ⟨same_upd hD2, upd_same⟩ (fun i Hy _ p => SqL.of (p.1 _ _ hl2)) (fun i x Hy hx p => ?_) (fun Hy p => ?_)⟩
    · rw [List.getElem?_map] at hx
      cases he : es[i]? with
      | none => rw [he] at hx; cases hx
      | some e =>
        rw [he] at hx
        cases hx
        obtain ⟨pr, D0, d0, g1, g2, g3, g4⟩ := (hR2.same p.1).get he
        obtain ⟨C0, c1, c2, c3⟩ := WT.cls _ _ g3
        rw [g2] at c1
        cases c1
        refine ⟨rfl, ?_⟩
        refine ⟨.ref e, rfl, e, D0, d0, .ref LE, .ref LE, true, rfl, c2, relV_ref, kLE _ _ _ g3 g2, g4, true, rfl, ?_⟩
        refine DL19.ifF rfl ?_
        refine ⟨.ref e, rfl, e, D0, d0, .ty "ValueError", .type "ValueError", true, rfl, c2, relV_ty, c3, g4, true, rfl, ?_⟩
        refine DL19.ifF rfl ?_
        exact p
    · obtain ⟨sy, hy⟩ := p
      refine ⟨Nat.zero_le _, fun q hq => ?_⟩
      have hy2 : (upd Hy q (.lst [])) D2 = some (.lst []) := (upd_ne (ne_of_none hy hq)).trans hy
      refine ⟨.list [], .list [], (At.lst hy2 .nil).dp, (At.lst upd_same .nil).dp, shaped_lnil, shaped_lnil, _, rfl, ?_⟩
      rw [eqv_lnil]
      refine DL19.ifF rfl ?_
      exact r8 Q _ _ _ _ _ _ _ ((hT2.ext sy).ext (same_upd hq)) hQ
/-! ### its beginning -/
structure Inv19 (mg : Str → Option Value) (H0 Hc : Hp) (es : List Addr) (ps : List (Str × Str)) : Prop where
  s : Same H0 Hc
  r : RowsAt mg Hc es ps
theorem RowsAt.snoc {H : Hp} {a D : Addr} {d : Option Addr} {nm wd : Str} (hm : mg nm = some (.ref D)) (hw : wordsL.lookup nm = some wd) (he : ErrO D a d H) : ∀ {es : List Addr} {ps : List (Str × Str)}, RowsAt mg H es ps → RowsAt mg H (es ++ [a]) (ps ++ [(nm, wd)])
  | [], [], _ => ⟨⟨D, d, hm, hw, he⟩, trivial⟩
  | [], _ :: _, h => h.elim
  | _ :: _, [], h => h.elim
  | e :: es, p :: ps, h => ⟨h.1, RowsAt.snoc hm hw he h.2⟩
theorem Inv19.step {H0 Hc : Hp} {es : List Addr} {ps : List (Str × Str)} {a D : Addr} {nm wd : Str} (I : Inv19 mg H0 Hc es ps) (ha : Hc a = none) (hm : mg nm = some (.ref D)) (hw : wordsL.lookup nm = some wd) : Inv19 mg H0 (upd Hc a (ExV (.ref D) none a)) (es ++ [a]) (ps ++ [(nm, wd)]) :=
  ⟨fun b o e => same_upd ha _ _ (I.s b o e), (I.r.same (same_upd ha)).snoc hm hw ⟨upd_same, fun dd z => by cases z⟩⟩
theorem Inv19.new {H0 Hc : Hp} {es : List Addr} {ps : List (Str × Str)} {a : Addr} {o : HO} (I : Inv19 mg H0 Hc es ps) (ha : Hc a = none) : Inv19 mg H0 (upd Hc a o) es ps :=
  ⟨fun b o e => same_upd ha _ _ (I.s b o e), I.r.same (same_upd ha)⟩
theorem ErrO.updl {D a l : Addr} {d : Option Addr} {H : Hp} {xs : List V} {o : HO} (hl : H l = some (.lst xs)) (h : ErrO D a d H) : ErrO D a d (upd H l o) := by
  refine ⟨?_, fun dd e => ?_⟩
  · rw [upd_ne (fun z => by rw [← z, h.1] at hl; cases hl)]
    exact h.1
  · obtain ⟨fs, z⟩ := h.2 dd e
    exact ⟨fs, by rw [upd_ne (fun y => by rw [← y, z] at hl; cases hl)]; exact z⟩
theorem RowsAt.updl {H : Hp} {l : Addr} {xs : List V} {o : HO} (hl : H l = some (.lst xs)) : ∀ {es : List Addr} {ps : List (Str × Str)}, RowsAt mg H es ps → RowsAt mg (upd H l o) es ps
  | [], [], _ => trivial
  | [], _ :: _, h => h.elim
  | _ :: _, [], h => h.elim
  | e :: es, p :: ps, ⟨⟨D, d, h1, h2, h3⟩, h⟩ => ⟨⟨D, d, h1, h2, h3.updl hl⟩, RowsAt.updl hl h⟩
theorem ok_law (T : Tx K mg) (WT : WordTx K mg) {c Pt f CP CR CT f7 fw LE C1 C2 C3 C4 C5 C6 C7 C8 C9 C10 : Addr} {fd fd7 fdw : FuncData} (F : FunC K "law" "law" s_law f fd c) (TB : TabB base mg c Pt) (Fdraw : FD P w K mg base CX0 "_law_draw" ["tape", "many"] 1 (spT K mg c_draw)) (Ftried : ToldD P w K mg base "_law_tried" "call" 2) (MP : PtyM P w K mg base CP) (MR : RuM P w K mg base CR)
    (F7 : FnOk P w K mg base (L2N.CX P w) 3 f7 fd7 ["value"] (spRead7 K mg)) (hm7 : mg "read_rule" = some (.ref f7)) (hk7 : PySem.W.keepIn K (.ref f7) = true) (hb7 : Binds K fd7 ["value"] [])
    (FW : FnOk P w K mg base CX0 1 fw fdw ["e"] (spWordV K mg)) (hmw : mg "_law_word" = some (.ref fw)) (hkw : PySem.W.keepIn K (.ref fw) = true) (hbw : Binds K fdw ["e"] [])
    (TE : FErr P w K mg base "InvalidText" "line" 1 CT) (gLE : mg "ListError" = some (.ref LE)) (kLE : ∀ nm wd C, wordsL.lookup nm = some wd → mg nm = some (.ref C) → PySem.W.kitOne K (.ref C) (.ref LE) = some true)
    (P1 : PErr K mg "InvalidRule" C1) (P2 : PErr K mg "InvalidHistory" C2) (P3 : PErr K mg "InvalidHarm" C3) (P4 : PErr K mg "InvalidNews" C4) (P5 : PErr K mg "InvalidEvent" C5) (P6 : PErr K mg "InvalidIndex" C6) (P7 : PErr K mg "InvalidPerson" C7) (P8 : PErr K mg "NotNow" C8) (P9 : PErr K mg "TooMany" C9) (P10 : PErr K mg "NothingToUndo" C10) : FnOk P w K mg base CX0 (13 + 1) f fd ["script"] (spLawT [(Pt, q_law)] K) := by
  refine okC F sc_law (fun vs H Q E ⟨_, _, e, _⟩ => by rw [e]; rfl) (fun A outer s0 H vs Q E hr h => ?_)
  obtain ⟨a, ns, ev, hS, hn, hT, k⟩ := h
  subst ev
  obtain ⟨t5, p5, r5⟩ := tail_mid (f := f) T WT TB Ftried MP MR F7 hm7 hk7 hb7 FW hmw hkw hbw TE gLE kLE A outer s0 H E hr
  obtain ⟨fdr, fdd, GD, hmd, hkd, hbd⟩ := Fdraw.ex
  suffices hh : ∃ t, PSs (cxOf CX0 P w K mg base N_law19 "law" (defScope s_law) f (.ref c) A outer s0 H E).nox (defBody s_law) t ∧ t { nx := fun _ H' => Q .non H', rt := Q } (L2.start N_law19 [.ref a]) H by
    obtain ⟨t, p, q⟩ := hh
    exact ⟨t, p.nox, q⟩
  refine ⟨_, (pss_cons (ps_set (i := 1) sc_law.nd rfl (by first | exact Or.inl rfl | exact Or.inr rfl) (pe_lst (pa_cons (pe_callTy call_list_of (by rfl) T.nlist (by decide +kernel) (pa_cons (pv 0) pa_nil)) (pa_cons pe_int (pa_cons pe_int pa_nil)))))
    (pss_cons (ps_set (i := 2) sc_law.nd rfl (Or.inl rfl) (pe_call (E := E) GD (hr.mono (by decide)) rfl hmd hkd hbd .nil passA (pa_cons (pv 1) (pa_cons (pe_op op_pow pe_int pe_int) pa_nil))))
    (pss_cons (ps_set (i := 3) sc_law.nd rfl (Or.inl rfl) (pe_lst (pa_cons (pe_errP P1) (pa_cons (pe_errP P2) (pa_cons (pe_errP P3) (pa_cons (pe_errP P4) (pa_cons (pe_errP P5) pa_nil)))))))
    (pss_cons (ps_set (i := 3) sc_law.nd rfl (Or.inl rfl) (pe_op op_cat (pv 3) (pe_lst (pa_cons (pe_errP P6) (pa_cons (pe_errP P7) (pa_cons (pe_errP P8) (pa_cons (pe_errP P9) (pa_cons (pe_errP P10) pa_nil))))))))
    (pss_cons (ps_expr (pe_bm PySem.F.plainAttrs_list PySem.F.slot_list_append PySem.F.type_list_append mt_append (pv 3) (pa_cons (pe_errV (i := 2) TE (hr.mono (by decide)) (pv 2)) pa_nil))) p5))))), ?_⟩
  have Z : ∀ {n : Nat}, n ≤ 1000 → n ≤ sizeLine := fun h => by rw [line24]; omega
  refine ⟨_, rfl, a, _, rfl, .inl hS, fun s1 hs1 => ⟨Z (show 3 ≤ 1000 by decide), fun t ht => ?_⟩⟩
  have hts : t ≠ s1 := fun e => by rw [e, upd_same] at ht; cases ht
  have T1 : Tabs [(Pt, q_law)] (upd (upd H s1 (.lst (ns.map V.int))) t (.lst [.ref s1, .int 0, .int 0])) := (hT.ext (same_upd hs1)).ext (same_upd ht)
  have J1 : (tapeC t s1 ns).J (upd (upd H s1 (.lst (ns.map V.int))) t (.lst [.ref s1, .int 0, .int 0])) := ⟨0, 0, Int.le_refl _, Int.le_refl _, upd_same, by rw [upd_ne (Ne.symm hts), upd_same]⟩
  have ht1 : (upd (upd H s1 (.lst (ns.map V.int))) t (.lst [.ref s1, .int 0, .int 0])) t = some (.lst [.ref s1, .int 0, .int 0]) := upd_same
  refine ⟨.ref t, rfl, 10, 30, rfl, rfl, ⟨by decide, by decide, by decide⟩, ?_⟩
  refine ⟨t, s1, ns, fun _ => none, [.int (10 ^ 30)], [.int (10 ^ 30)], rfl, (fun b o e => by cases e), rfl, J1, .cons (.int _) .nil, 10 ^ 30, rfl, by decide, by decide +kernel, fun r r0 r1 => ?_⟩
  intro v H3 G3 x3 j3 av
  cases av
  have T3 : Tabs [(Pt, q_law)] H3 := Tabs.js (fun b u hb e => x3.same b u (fun z => by
    have z : b = t := z
    subst z
    rcases hb with hb | ⟨φ, rfl⟩
    · exact tab_not T1 ht1 (fun ps z => by cases z) hb
    · rw [ht1] at e; cases e) e) T1
  have I0 : Inv19 mg H3 H3 [] [] := ⟨fun _ _ e => e, trivial⟩
  intro a1 n1
  have I1 := I0.step n1 P1.gC (show wordsL.lookup (Str.ofString "InvalidRule") = some (Str.ofString "rule") by decide +kernel)
  intro a2 n2
  have I2 := I1.step n2 P2.gC (show wordsL.lookup (Str.ofString "InvalidHistory") = some (Str.ofString "history") by decide +kernel)
  intro a3 n3
  have I3 := I2.step n3 P3.gC (show wordsL.lookup (Str.ofString "InvalidHarm") = some (Str.ofString "harm") by decide +kernel)
  intro a4 n4
  have I4 := I3.step n4 P4.gC (show wordsL.lookup (Str.ofString "InvalidNews") = some (Str.ofString "news") by decide +kernel)
  intro a5 n5
  have I5 := I4.step n5 P5.gC (show wordsL.lookup (Str.ofString "InvalidEvent") = some (Str.ofString "event") by decide +kernel)
  refine ⟨Z (show 5 ≤ 1000 by decide), fun l1 m1 => ?_⟩
  have J0 := I5.new (o := .lst [.ref a1, .ref a2, .ref a3, .ref a4, .ref a5]) m1
  have B0 : Inv19 mg (upd _ l1 (.lst [.ref a1, .ref a2, .ref a3, .ref a4, .ref a5])) (upd _ l1 (.lst [.ref a1, .ref a2, .ref a3, .ref a4, .ref a5])) _ _ := ⟨fun _ _ e => e, J0.r⟩
  have S0 := J0.s
  refine ⟨.ref l1, rfl, ?_⟩
  intro a6 n6
  have B1 := B0.step n6 P6.gC (show wordsL.lookup (Str.ofString "InvalidIndex") = some (Str.ofString "index") by decide +kernel)
  intro a7 n7
  have B2 := B1.step n7 P7.gC (show wordsL.lookup (Str.ofString "InvalidPerson") = some (Str.ofString "person") by decide +kernel)
  intro a8 n8
  have B3 := B2.step n8 P8.gC (show wordsL.lookup (Str.ofString "NotNow") = some (Str.ofString "notnow") by decide +kernel)
  intro a9 n9
  have B4 := B3.step n9 P9.gC (show wordsL.lookup (Str.ofString "TooMany") = some (Str.ofString "many") by decide +kernel)
  intro a10 n10
  have B5 := B4.step n10 P10.gC (show wordsL.lookup (Str.ofString "NothingToUndo") = some (Str.ofString "nothing") by decide +kernel)
  refine ⟨Z (show 5 ≤ 1000 by decide), fun l2 m2 => ?_⟩
  have B6 := B5.new (o := .lst [.ref a6, .ref a7, .ref a8, .ref a9, .ref a10]) m2
  refine ⟨l1, l2, _, _, rfl, rfl, B6.s _ _ upd_same, upd_same, Z (show 10 ≤ 1000 by decide), fun l3 m3 => ?_⟩
  have B7 := B6.new (o := .lst ([.ref a1, .ref a2, .ref a3, .ref a4, .ref a5] ++ [.ref a6, .ref a7, .ref a8, .ref a9, .ref a10])) m3
  refine ⟨.ref l3, rfl, .inl ⟨rfl, _, SqL.of upd_same⟩, .int r, rfl, fun dx nd a11 n11 => ?_⟩
  have B8 := B7.new (o := .xd [(("line" : Str), .int r)]) nd
  have B9 := B8.new (o := ExV (.ref CT) (some dx) a11) n11
  have R9 := B9.r.snoc TE.gC (show wordsL.lookup (Str.ofString "InvalidText") = some (Str.ofString "text") by decide +kernel) (a := a11) (d := some dx) ⟨upd_same, fun dd z => by cases z; exact ⟨_, (upd_ne (ne_of_none upd_same n11)).trans upd_same⟩⟩
  have hl3 := (same_upd (o := ExV (.ref CT) (some dx) a11) n11) _ _ ((same_upd (o := .xd [(("line" : Str), .int r)]) nd) l3 _ upd_same)
  refine ⟨l3, _, _, rfl, rfl, hl3, Z (show 11 ≤ 1000 by decide), ?_⟩
  have T9 := (T3.ext J0.s).ext B9.s
  have na : a11 ≠ l3 := fun z => by rw [z, same_upd nd _ _ upd_same] at n11; cases n11
  have nx : dx ≠ l3 := fun z => by rw [z, upd_same] at nd; cases nd
  refine r5 Q _ (some (.ref a)) (some (.ref t)) r l3 [a1, a2, a3, a4, a5, a6, a7, a8, a9, a10, a11] (tabs_lst T9 hl3) upd_same (R9.updl hl3) ⟨a11, dx, rfl, ?_, ?_⟩ k
  · exact (upd_ne na).trans upd_same
  · exact (upd_ne nx).trans (same_upd n11 _ _ upd_same)
end

theorem all_mk {l : PySem.W.OpenLaw} {w : World} {K : PySem.W.Frag} {h : Heap} {mg : Str → Option Value} {fa : Addr} (X : K.In h) (G : h.Ns mainGlobals mg) (hfa : mg "law" = some (.ref fa))
    {f1 : Addr} {od1 an1 : Option Addr} {sl1 : Array (Option Value)} {oc1 kV1 dc1 pm1 ct1 : Value} {cd1 : Value}
    {f2 : Addr} {od2 an2 : Option Addr} {sl2 : Array (Option Value)} {oc2 kV2 dc2 pm2 ct2 : Value} {cd2 : Value}
    {f3 : Addr} {od3 an3 : Option Addr} {sl3 : Array (Option Value)} {oc3 kV3 dc3 pm3 ct3 : Value} {cd3 : Value}
    {f4 : Addr} {od4 an4 : Option Addr} {sl4 : Array (Option Value)} {oc4 kV4 dc4 pm4 ct4 : Value} {cd4 : Value}
    {f5 : Addr} {od5 an5 : Option Addr} {sl5 : Array (Option Value)} {oc5 kV5 dc5 pm5 ct5 : Value} {cd5 : Value}
    {f6 : Addr} {od6 an6 : Option Addr} {sl6 : Array (Option Value)} {oc6 kV6 dc6 pm6 ct6 : Value} {cd6 : Value}
    {f7 : Addr} {od7 an7 : Option Addr} {sl7 : Array (Option Value)} {oc7 kV7 dc7 pm7 ct7 : Value} {cd7 : Value}
    {f8 : Addr} {od8 an8 : Option Addr} {sl8 : Array (Option Value)} {oc8 kV8 dc8 pm8 ct8 : Value} {cd8 : Value}
    {f9 : Addr} {od9 an9 : Option Addr} {sl9 : Array (Option Value)} {oc9 kV9 dc9 pm9 ct9 : Value} {cd9 : Value}
    {f10 : Addr} {od10 an10 : Option Addr} {sl10 : Array (Option Value)} {oc10 kV10 dc10 pm10 ct10 : Value} {cd10 : Value}
    {f11 : Addr} {od11 an11 : Option Addr} {sl11 : Array (Option Value)} {oc11 kV11 dc11 pm11 ct11 : Value} {cd11 : Value}
    {f12 : Addr} {od12 an12 : Option Addr} {sl12 : Array (Option Value)} {oc12 kV12 dc12 pm12 ct12 : Value} {cd12 : Value}
    {f13 : Addr} {od13 an13 : Option Addr} {sl13 : Array (Option Value)} {oc13 kV13 dc13 pm13 ct13 : Value} {cd13 : Value}
    {f14 : Addr} {od14 an14 : Option Addr} {sl14 : Array (Option Value)} {oc14 kV14 dc14 pm14 ct14 : Value} {cd14 : Value}
    {f15 : Addr} {od15 an15 : Option Addr} {sl15 : Array (Option Value)} {oc15 kV15 dc15 pm15 ct15 : Value} {cd15 : Value}
    {f16 : Addr} {od16 an16 : Option Addr} {sl16 : Array (Option Value)} {oc16 kV16 dc16 pm16 ct16 : Value} {cd16 : Value}
    {fW : Addr} {odW anW : Option Addr} {slW : Array (Option Value)} {ocW kVW dcW pmW ctW : Value} {cdW : Value}
    {fT : Addr} {odT anT : Option Addr} {slT : Array (Option Value)} {ocT kVT dcT pmT ctT : Value} {cdT : Value}
    {fR7 : Addr} {odR7 anR7 : Option Addr} {slR7 : Array (Option Value)} {ocR7 kVR7 dcR7 pmR7 ctR7 : Value} {cdR7 : Value}
    {fL : Addr} {odL anL : Option Addr} {slL : Array (Option Value)} {ocL kVL dcL pmL ctL : Value} {ccL PtL : Addr} {vcL : Array Value} {dzL : Option Addr} {szL : Array (Option Value)}
    {qBEGINNER : Addr} {ddBEGINNER : Option Addr} {nBEGINNER : Nat} {slBEGINNER : Array (Option Value)} {tBEGINNER0 : Tok}
    {qDEEDS : Addr} {ddDEEDS : Option Addr} {nDEEDS : Nat} {slDEEDS : Array (Option Value)} {tDEEDS0 tDEEDS1 tDEEDS2 tDEEDS3 tDEEDS4 tDEEDS5 : Tok}
    {qEVENTS : Addr} {ddEVENTS : Option Addr} {nEVENTS : Nat} {slEVENTS : Array (Option Value)} {tEVENTS0 tEVENTS1 tEVENTS2 tEVENTS3 tEVENTS4 tEVENTS5 tEVENTS6 : Tok}
    {tMOST : Tok}
    {qTESTS : Addr} {ddTESTS : Option Addr} {nTESTS : Nat} {slTESTS : Array (Option Value)} {tTESTS0 tTESTS1 tTESTS2 tTESTS3 tTESTS4 tTESTS5 tTESTS6 tTESTS7 : Tok}
    {LE W1 W2 W3 W4 W5 W6 W7 W8 W9 W10 W11 : Addr}
    {bX : Addr} {nmX qX : Str} {NX : Addr} {bsX : List Value} {snX : List Str} {subX : List Value} {abX : Bool} {colX : Option Bool} {ddX : Option Addr} {m0X m1X m2X m3X m5X : Option Value}
    {fIX : Addr} {odIX anIX : Option Addr} {slIX : Array (Option Value)} {ocIX kVIX dcIX pmIX ctIX : Value} {cdIX : Value}
    {CP CR : Addr} {foS roS : Option Value} {TdR : Addr} {ddR : Option Addr} {teR : Addr} {nR : Nat} {slR : Array (Option Value)}
    {fPI : Addr} {odPI anPI : Option Addr} {slPI : Array (Option Value)} {ocPI kVPI dcPI pmPI ctPI : Value} {cdPI : Value}
    {fPU : Addr} {odPU anPU : Option Addr} {slPU : Array (Option Value)} {ocPU kVPU dcPU pmPU ctPU : Value} {cdPU : Value}
    {fPS : Addr} {odPS anPS : Option Addr} {slPS : Array (Option Value)} {ocPS kVPS dcPS pmPS ctPS : Value} {cdPS : Value}
    {fPD : Addr} {odPD anPD : Option Addr} {slPD : Array (Option Value)} {ocPD kVPD dcPD pmPD ctPD : Value} {cdPD : Value}
    {fQS : Addr} {odQS anQS : Option Addr} {slQS : Array (Option Value)} {ocQS kVQS dcQS pmQS ctQS : Value} {cdQS : Value}
    {fQI : Addr} {odQI anQI : Option Addr} {slQI : Array (Option Value)} {ocQI kVQI dcQI pmQI ctQI : Value} {cdQI : Value}
    (a1 : PySem.W.nsIn K mainGlobals "_law_draw" = some (some (.ref f1)))
    (l1 : K.lookup f1 = some ⟨oc1, od1, .func (PySem.W.fnOf "_law_draw" "_law_draw" (defArgs s_law_draw) (defBody s_law_draw) (defScope s_law_draw) .none kV1 dc1 pm1 an1 cd1 ct1), sl1⟩)
    (c1 : PySem.W.codeIn K cd1 "_law_draw" = true)
    (k1 : PySem.W.keepIn K (.ref f1) = true)
    (a2 : PySem.W.nsIn K mainGlobals "is_test" = some (some (.ref f2)))
    (l2 : K.lookup f2 = some ⟨oc2, od2, .func (PySem.W.fnOf "is_test" "is_test" (defArgs s_is_test) (defBody s_is_test) (defScope s_is_test) .none kV2 dc2 pm2 an2 cd2 ct2), sl2⟩)
    (c2 : PySem.W.codeIn K cd2 "is_test" = true)
    (k2 : PySem.W.keepIn K (.ref f2) = true)
    (a3 : PySem.W.nsIn K mainGlobals "is_clause" = some (some (.ref f3)))
    (l3 : K.lookup f3 = some ⟨oc3, od3, .func (PySem.W.fnOf "is_clause" "is_clause" (defArgs s_is_clause) (defBody s_is_clause) (defScope s_is_clause) .none kV3 dc3 pm3 an3 cd3 ct3), sl3⟩)
    (c3 : PySem.W.codeIn K cd3 "is_clause" = true)
    (k3 : PySem.W.keepIn K (.ref f3) = true)
    (a4 : PySem.W.nsIn K mainGlobals "is_rule" = some (some (.ref f4)))
    (l4 : K.lookup f4 = some ⟨oc4, od4, .func (PySem.W.fnOf "is_rule" "is_rule" (defArgs s_is_rule) (defBody s_is_rule) (defScope s_is_rule) .none kV4 dc4 pm4 an4 cd4 ct4), sl4⟩)
    (c4 : PySem.W.codeIn K cd4 "is_rule" = true)
    (k4 : PySem.W.keepIn K (.ref f4) = true)
    (a5 : PySem.W.nsIn K mainGlobals "check_rule" = some (some (.ref f5)))
    (l5 : K.lookup f5 = some ⟨oc5, od5, .func (PySem.W.fnOf "check_rule" "check_rule" (defArgs s_check_rule) (defBody s_check_rule) (defScope s_check_rule) .none kV5 dc5 pm5 an5 cd5 ct5), sl5⟩)
    (c5 : PySem.W.codeIn K cd5 "check_rule" = true)
    (k5 : PySem.W.keepIn K (.ref f5) = true)
    (a6 : PySem.W.nsIn K mainGlobals "holds" = some (some (.ref f6)))
    (l6 : K.lookup f6 = some ⟨oc6, od6, .func (PySem.W.fnOf "holds" "holds" (defArgs s_holds) (defBody s_holds) (defScope s_holds) .none kV6 dc6 pm6 an6 cd6 ct6), sl6⟩)
    (c6 : PySem.W.codeIn K cd6 "holds" = true)
    (k6 : PySem.W.keepIn K (.ref f6) = true)
    (a7 : PySem.W.nsIn K mainGlobals "clause_of" = some (some (.ref f7)))
    (l7 : K.lookup f7 = some ⟨oc7, od7, .func (PySem.W.fnOf "clause_of" "clause_of" (defArgs s_clause_of) (defBody s_clause_of) (defScope s_clause_of) .none kV7 dc7 pm7 an7 cd7 ct7), sl7⟩)
    (c7 : PySem.W.codeIn K cd7 "clause_of" = true)
    (k7 : PySem.W.keepIn K (.ref f7) = true)
    (a8 : PySem.W.nsIn K mainGlobals "met" = some (some (.ref f8)))
    (l8 : K.lookup f8 = some ⟨oc8, od8, .func (PySem.W.fnOf "met" "met" (defArgs s_met) (defBody s_met) (defScope s_met) .none kV8 dc8 pm8 an8 cd8 ct8), sl8⟩)
    (c8 : PySem.W.codeIn K cd8 "met" = true)
    (k8 : PySem.W.keepIn K (.ref f8) = true)
    (a9 : PySem.W.nsIn K mainGlobals "stale" = some (some (.ref f9)))
    (l9 : K.lookup f9 = some ⟨oc9, od9, .func (PySem.W.fnOf "stale" "stale" (defArgs s_stale) (defBody s_stale) (defScope s_stale) .none kV9 dc9 pm9 an9 cd9 ct9), sl9⟩)
    (c9 : PySem.W.codeIn K cd9 "stale" = true)
    (k9 : PySem.W.keepIn K (.ref f9) = true)
    (a10 : PySem.W.nsIn K mainGlobals "first_stand" = some (some (.ref f10)))
    (l10 : K.lookup f10 = some ⟨oc10, od10, .func (PySem.W.fnOf "first_stand" "first_stand" (defArgs s_first_stand) (defBody s_first_stand) (defScope s_first_stand) .none kV10 dc10 pm10 an10 cd10 ct10), sl10⟩)
    (c10 : PySem.W.codeIn K cd10 "first_stand" = true)
    (k10 : PySem.W.keepIn K (.ref f10) = true)
    (a11 : PySem.W.nsIn K mainGlobals "bought" = some (some (.ref f11)))
    (l11 : K.lookup f11 = some ⟨oc11, od11, .func (PySem.W.fnOf "bought" "bought" (defArgs s_bought) (defBody s_bought) (defScope s_bought) .none kV11 dc11 pm11 an11 cd11 ct11), sl11⟩)
    (c11 : PySem.W.codeIn K cd11 "bought" = true)
    (k11 : PySem.W.keepIn K (.ref f11) = true)
    (a12 : PySem.W.nsIn K mainGlobals "met_so" = some (some (.ref f12)))
    (l12 : K.lookup f12 = some ⟨oc12, od12, .func (PySem.W.fnOf "met_so" "met_so" (defArgs s_met_so) (defBody s_met_so) (defScope s_met_so) .none kV12 dc12 pm12 an12 cd12 ct12), sl12⟩)
    (c12 : PySem.W.codeIn K cd12 "met_so" = true)
    (k12 : PySem.W.keepIn K (.ref f12) = true)
    (a13 : PySem.W.nsIn K mainGlobals "acted" = some (some (.ref f13)))
    (l13 : K.lookup f13 = some ⟨oc13, od13, .func (PySem.W.fnOf "acted" "acted" (defArgs s_acted) (defBody s_acted) (defScope s_acted) .none kV13 dc13 pm13 an13 cd13 ct13), sl13⟩)
    (c13 : PySem.W.codeIn K cd13 "acted" = true)
    (k13 : PySem.W.keepIn K (.ref f13) = true)
    (a14 : PySem.W.nsIn K mainGlobals "behind" = some (some (.ref f14)))
    (l14 : K.lookup f14 = some ⟨oc14, od14, .func (PySem.W.fnOf "behind" "behind" (defArgs s_behind) (defBody s_behind) (defScope s_behind) .none kV14 dc14 pm14 an14 cd14 ct14), sl14⟩)
    (c14 : PySem.W.codeIn K cd14 "behind" = true)
    (k14 : PySem.W.keepIn K (.ref f14) = true)
    (a15 : PySem.W.nsIn K mainGlobals "is_event" = some (some (.ref f15)))
    (l15 : K.lookup f15 = some ⟨oc15, od15, .func (PySem.W.fnOf "is_event" "is_event" (defArgs s_is_event) (defBody s_is_event) (defScope s_is_event) .none kV15 dc15 pm15 an15 cd15 ct15), sl15⟩)
    (c15 : PySem.W.codeIn K cd15 "is_event" = true)
    (k15 : PySem.W.keepIn K (.ref f15) = true)
    (a16 : PySem.W.nsIn K mainGlobals "check_index" = some (some (.ref f16)))
    (l16 : K.lookup f16 = some ⟨oc16, od16, .func (PySem.W.fnOf "check_index" "check_index" (defArgs s_check_index) (defBody s_check_index) (defScope s_check_index) .none kV16 dc16 pm16 an16 cd16 ct16), sl16⟩)
    (c16 : PySem.W.codeIn K cd16 "check_index" = true)
    (k16 : PySem.W.keepIn K (.ref f16) = true)
    (aW : PySem.W.nsIn K mainGlobals "_law_word" = some (some (.ref fW)))
    (lW : K.lookup fW = some ⟨ocW, odW, .func (PySem.W.fnOf "_law_word" "_law_word" (defArgs s_word) (defBody s_word) (defScope s_word) .none kVW dcW pmW anW cdW ctW), slW⟩)
    (cW : PySem.W.codeIn K cdW "_law_word" = true)
    (kW : PySem.W.keepIn K (.ref fW) = true)
    (aT : PySem.W.nsIn K mainGlobals "_law_tried" = some (some (.ref fT)))
    (lT : K.lookup fT = some ⟨ocT, odT, .func (PySem.W.fnOf "_law_tried" "_law_tried" (defArgs s_tried) (defBody s_tried) (defScope s_tried) .none kVT dcT pmT anT cdT ctT), slT⟩)
    (cT : PySem.W.codeIn K cdT "_law_tried" = true)
    (kT : PySem.W.keepIn K (.ref fT) = true)
    (aR7 : PySem.W.nsIn K mainGlobals "read_rule" = some (some (.ref fR7)))
    (lR7 : K.lookup fR7 = some ⟨ocR7, odR7, .func (PySem.W.fnOf "read_rule" "read_rule" (defArgs s_read7) (defBody s_read7) (defScope s_read7) .none kVR7 dcR7 pmR7 anR7 cdR7 ctR7), slR7⟩)
    (cR7 : PySem.W.codeIn K cdR7 "read_rule" = true)
    (kR7 : PySem.W.keepIn K (.ref fR7) = true)
    (aL : PySem.W.nsIn K mainGlobals "law" = some (some (.ref fL)))
    (lL : K.lookup fL = some ⟨ocL, odL, .func (PySem.W.fnOf "law" "law" (defArgs s_law) (defBody s_law) (defScope s_law) .none kVL dcL pmL anL (.ref ccL) ctL), slL⟩)
    (cL : PySem.W.codeIn K (.ref ccL) "law" = true)
    (kL : PySem.W.keepIn K (.ref fL) = true)
    (xL : K.lookup ccL = some ⟨.type "code", dzL, .fields vcL, szL⟩)
    (pL : (vcL[11]? : Option Value) = some (.ref PtL))
    (hL : PySem.W.codeHdIn K ccL PtL = true)
    (qL : K.lookup PtL = none)
    (tL : h.get? PtL = some { cls := .none, data := .fields #[] })
    (zValueError : PySem.W.nsIn K mainGlobals "ValueError" = some none)
    (zbool : PySem.W.nsIn K mainGlobals "bool" = some none)
    (zenumerate : PySem.W.nsIn K mainGlobals "enumerate" = some none)
    (zint : PySem.W.nsIn K mainGlobals "int" = some none)
    (zisinstance : PySem.W.nsIn K mainGlobals "isinstance" = some none)
    (zlen : PySem.W.nsIn K mainGlobals "len" = some none)
    (zlist : PySem.W.nsIn K mainGlobals "list" = some none)
    (zstr : PySem.W.nsIn K mainGlobals "str" = some none)
    (ztuple : PySem.W.nsIn K mainGlobals "tuple" = some none)
    (zzip : PySem.W.nsIn K mainGlobals "zip" = some none)
    (aBEGINNER : PySem.W.nsIn K mainGlobals "BEGINNER" = some (some (.ref qBEGINNER)))
    (lBEGINNER : K.lookup qBEGINNER = some ⟨.type "tuple", ddBEGINNER, .seq #[.str "none" tBEGINNER0, .bool false, .bool false, .bool false] nBEGINNER, slBEGINNER⟩)
    (aDEEDS : PySem.W.nsIn K mainGlobals "DEEDS" = some (some (.ref qDEEDS)))
    (lDEEDS : K.lookup qDEEDS = some ⟨.type "tuple", ddDEEDS, .seq #[.str "house" tDEEDS0, .str "leave" tDEEDS1, .str "none" tDEEDS2, .str "open" tDEEDS3, .str "own" tDEEDS4, .str "ticked" tDEEDS5] nDEEDS, slDEEDS⟩)
    (aEVENTS : PySem.W.nsIn K mainGlobals "EVENTS" = some (some (.ref qEVENTS)))
    (lEVENTS : K.lookup qEVENTS = some ⟨.type "tuple", ddEVENTS, .seq #[.str "buy" tEVENTS0, .str "clear" tEVENTS1, .str "home" tEVENTS2, .str "meet" tEVENTS3, .str "put" tEVENTS4, .str "strike" tEVENTS5, .str "want" tEVENTS6] nEVENTS, slEVENTS⟩)
    (aMOST : PySem.W.nsIn K mainGlobals "MOST" = some (some (.int 40 tMOST)))
    (aTESTS : PySem.W.nsIn K mainGlobals "TESTS" = some (some (.ref qTESTS)))
    (lTESTS : K.lookup qTESTS = some ⟨.type "tuple", ddTESTS, .seq #[.str "changed" tTESTS0, .str "fresh" tTESTS1, .str "house none" tTESTS2, .str "house open" tTESTS3, .str "house ticked" tTESTS4, .str "own none" tTESTS5, .str "own open" tTESTS6, .str "own ticked" tTESTS7] nTESTS, slTESTS⟩)
    (aLE : PySem.W.nsIn K mainGlobals "ListError" = some (some (.ref LE)))
    (aW1 : PySem.W.nsIn K mainGlobals "InvalidRule" = some (some (.ref W1)))
    (aW2 : PySem.W.nsIn K mainGlobals "InvalidHistory" = some (some (.ref W2)))
    (aW3 : PySem.W.nsIn K mainGlobals "InvalidHarm" = some (some (.ref W3)))
    (aW4 : PySem.W.nsIn K mainGlobals "InvalidNews" = some (some (.ref W4)))
    (aW5 : PySem.W.nsIn K mainGlobals "InvalidEvent" = some (some (.ref W5)))
    (aW6 : PySem.W.nsIn K mainGlobals "InvalidIndex" = some (some (.ref W6)))
    (aW7 : PySem.W.nsIn K mainGlobals "InvalidPerson" = some (some (.ref W7)))
    (aW8 : PySem.W.nsIn K mainGlobals "NotNow" = some (some (.ref W8)))
    (aW9 : PySem.W.nsIn K mainGlobals "TooMany" = some (some (.ref W9)))
    (aW10 : PySem.W.nsIn K mainGlobals "NothingToUndo" = some (some (.ref W10)))
    (aW11 : PySem.W.nsIn K mainGlobals "InvalidText" = some (some (.ref W11)))
    (bLE : PySem.W.subIn K (.ref LE) (.type "BaseException") = some true)
    (dLE : PySem.W.hasDictIn K LE = true)
    (tLE : PySem.W.typeIn K (.ref LE) = some (.type "type"))
    (wcs : WCs K LE [W1, W2, W3, W4, W5, W6, W7, W8, W9, W10, W11])
    (sep : Sep K [W1, W2, W3, W4, W5, W6, W7, W8, W9, W10, W11])
    (xE1 : PySem.W.excIn K W1 bmVE "ValueError.__new__" = true)
    (kE1 : PySem.W.keepIn K (.ref W1) = true)
    (bE1 : PySem.W.subIn K (.ref W1) (.type "BaseException") = some true)
    (xE2 : PySem.W.excIn K W2 bmVE "ValueError.__new__" = true)
    (kE2 : PySem.W.keepIn K (.ref W2) = true)
    (bE2 : PySem.W.subIn K (.ref W2) (.type "BaseException") = some true)
    (xE3 : PySem.W.excIn K W3 bmVE "ValueError.__new__" = true)
    (kE3 : PySem.W.keepIn K (.ref W3) = true)
    (bE3 : PySem.W.subIn K (.ref W3) (.type "BaseException") = some true)
    (xE4 : PySem.W.excIn K W4 bmVE "ValueError.__new__" = true)
    (kE4 : PySem.W.keepIn K (.ref W4) = true)
    (bE4 : PySem.W.subIn K (.ref W4) (.type "BaseException") = some true)
    (xE5 : PySem.W.excIn K W5 bmVE "ValueError.__new__" = true)
    (kE5 : PySem.W.keepIn K (.ref W5) = true)
    (bE5 : PySem.W.subIn K (.ref W5) (.type "BaseException") = some true)
    (xE6 : PySem.W.excIn K W6 bmVE "ValueError.__new__" = true)
    (kE6 : PySem.W.keepIn K (.ref W6) = true)
    (bE6 : PySem.W.subIn K (.ref W6) (.type "BaseException") = some true)
    (xE7 : PySem.W.excIn K W7 bmVE "ValueError.__new__" = true)
    (kE7 : PySem.W.keepIn K (.ref W7) = true)
    (bE7 : PySem.W.subIn K (.ref W7) (.type "BaseException") = some true)
    (xE8 : PySem.W.excIn K W8 bmVE "ValueError.__new__" = true)
    (kE8 : PySem.W.keepIn K (.ref W8) = true)
    (bE8 : PySem.W.subIn K (.ref W8) (.type "BaseException") = some true)
    (xE9 : PySem.W.excIn K W9 bmVE "ValueError.__new__" = true)
    (kE9 : PySem.W.keepIn K (.ref W9) = true)
    (bE9 : PySem.W.subIn K (.ref W9) (.type "BaseException") = some true)
    (xE10 : PySem.W.excIn K W10 bmVE "ValueError.__new__" = true)
    (kE10 : PySem.W.keepIn K (.ref W10) = true)
    (bE10 : PySem.W.subIn K (.ref W10) (.type "BaseException") = some true)
    (xCX : K.lookup W11 = some (excClassObj nmX qX W11 NX bsX [.ref bX, .type "ValueError", .type "Exception", .type "BaseException", .type "object"] true snX subX abX colX ddX m0X m1X m2X m3X m5X "ValueError.__new__"))
    (saX : PySem.W.findIn K (.ref W11) "__setattr__" = some (some (.builtin "object.__setattr__")))
    (gaX : PySem.W.findIn K (.ref W11) "__getattribute__" = some (some (.builtin "BaseException.__getattribute__")))
    (ggX : PySem.W.findIn K (.ref W11) "__getattr__" = some none)
    (nbX : PySem.W.findIn K (.ref W11) "line" = some none)
    (aIX : PySem.W.findIn K (.ref W11) "__init__" = some (some (.ref fIX)))
    (lIX : K.lookup fIX = some ⟨ocIX, odIX, .func (PySem.W.fnOf "__init__" "InvalidText.__init__" (defArgs s_init_InvalidText) (defBody s_init_InvalidText) (defScope s_init_InvalidText) .none kVIX dcIX pmIX anIX cdIX ctIX), slIX⟩)
    (cIX : PySem.W.codeIn K cdIX "InvalidText.__init__" = true)
    (kIX : PySem.W.keepIn K (.ref fIX) = true)
    (tIX : PySem.W.typeIn K (.ref fIX) = some (.type "function"))
    (kCX : PySem.W.keepIn K (.ref W11) = true)
    (eCX : PySem.W.subIn K (.ref W11) (.type "BaseException") = some true)
    (tCX : PySem.W.typeIn K (.ref W11) = some (.type "type"))
    (hCX : PySem.W.hasDictIn K W11 = true)
    (iCX : PySem.W.isClsIn K W11 = true)
    (sCX : PySem.W.subIn K (.ref W11) (.ref W11) = some true)
    (aBX : PySem.W.nsIn K mainGlobals "ListError" = some (some (.ref bX)))
    (rBX : PySem.W.readsIn K bX (.type "type") = true)
    (gBX : PySem.W.specialIn K (.ref bX) "__getattribute__" = some (some (.builtin "type.__getattribute__")))
    (fBX : PySem.W.findCls K (.ref bX) (.type "type") "__init__" = some (.val (.builtin "ValueError.__init__")))
    (aP : PySem.W.nsIn K mainGlobals "Party" = some (some (.ref CP)))
    (pgP : PySem.W.plainGet K CP Str.empty = true)
    (hdP : PySem.W.hasDictIn K CP = true)
    (poP : PySem.W.plainOver K CP = true)
    (saP : PySem.W.findIn K (.ref CP) "__setattr__" = some (some (.builtin "object.__setattr__")))
    (noPrule_so : NoAttr K CP "rule_so")
    (noPnow : NoAttr K CP "now")
    (noPpast : NoAttr K CP "past")
    (mkP : PySem.W.makesIn K CP = true)
    (kcP : PySem.W.keepIn K (.ref CP) = true)
    (aQ : PySem.W.nsIn K mainGlobals "Rule" = some (some (.ref CR)))
    (pgQ : PySem.W.plainGet K CR Str.empty = true)
    (hdQ : PySem.W.hasDictIn K CR = true)
    (poQ : PySem.W.plainOver K CR = true)
    (saQ : PySem.W.findIn K (.ref CR) "__setattr__" = some (some (.builtin "object.__setattr__")))
    (noQrows : NoAttr K CR "rows")
    (mkQ : PySem.W.makesIn K CR = true)
    (kcQ : PySem.W.keepIn K (.ref CR) = true)
    (aPI : PySem.W.findIn K (.ref CP) "__init__" = some (some (.ref fPI)))
    (lPI : K.lookup fPI = some ⟨ocPI, odPI, .func (PySem.W.fnOf "__init__" "Party.__init__" (defArgs s_pinit) (defBody s_pinit) (defScope s_pinit) .none kVPI dcPI pmPI anPI cdPI ctPI), slPI⟩)
    (cPI : PySem.W.codeIn K cdPI "Party.__init__" = true)
    (kPI : PySem.W.keepIn K (.ref fPI) = true)
    (fnPI : PySem.W.isFn K (.ref fPI) = true)
    (aPU : PySem.W.findIn K (.ref CP) "undo" = some (some (.ref fPU)))
    (lPU : K.lookup fPU = some ⟨ocPU, odPU, .func (PySem.W.fnOf "undo" "Party.undo" (defArgs s_undo) (defBody s_undo) (defScope s_undo) .none kVPU dcPU pmPU anPU cdPU ctPU), slPU⟩)
    (cPU : PySem.W.codeIn K cdPU "Party.undo" = true)
    (kPU : PySem.W.keepIn K (.ref fPU) = true)
    (fnPU : PySem.W.isFn K (.ref fPU) = true)
    (aPS : PySem.W.findIn K (.ref CP) "step" = some (some (.ref fPS)))
    (lPS : K.lookup fPS = some ⟨ocPS, odPS, .func (PySem.W.fnOf "step" "Party.step" (defArgs s_step) (defBody s_step) (defScope s_step) .none kVPS dcPS pmPS anPS cdPS ctPS), slPS⟩)
    (cPS : PySem.W.codeIn K cdPS "Party.step" = true)
    (kPS : PySem.W.keepIn K (.ref fPS) = true)
    (fnPS : PySem.W.isFn K (.ref fPS) = true)
    (aPD : PySem.W.findIn K (.ref CP) "do" = some (some (.ref fPD)))
    (lPD : K.lookup fPD = some ⟨ocPD, odPD, .func (PySem.W.fnOf "do" "Party.do" (defArgs s_do) (defBody s_do) (defScope s_do) .none kVPD dcPD pmPD anPD cdPD ctPD), slPD⟩)
    (cPD : PySem.W.codeIn K cdPD "Party.do" = true)
    (kPD : PySem.W.keepIn K (.ref fPD) = true)
    (fnPD : PySem.W.isFn K (.ref fPD) = true)
    (aQS : PySem.W.findIn K (.ref CR) (PySem.dunder Operator.Sub.info.2) = some (some (.ref fQS)))
    (lQS : K.lookup fQS = some ⟨ocQS, odQS, .func (PySem.W.fnOf "__sub__" "Rule.__sub__" (defArgs s_sub) (defBody s_sub) (defScope s_sub) .none kVQS dcQS pmQS anQS cdQS ctQS), slQS⟩)
    (cQS : PySem.W.codeIn K cdQS "Rule.__sub__" = true)
    (kQS : PySem.W.keepIn K (.ref fQS) = true)
    (fnQS : PySem.W.isFn K (.ref fQS) = true)
    (aQI : PySem.W.findIn K (.ref CR) "__init__" = some (some (.ref fQI)))
    (lQI : K.lookup fQI = some ⟨ocQI, odQI, .func (PySem.W.fnOf "__init__" "Rule.__init__" (defArgs s_rinit) (defBody s_rinit) (defScope s_rinit) (.ref TdR) kVQI dcQI pmQI anQI cdQI ctQI), slQI⟩)
    (cQI : PySem.W.codeIn K cdQI "Rule.__init__" = true)
    (kQI : PySem.W.keepIn K (.ref fQI) = true)
    (fnQI : PySem.W.isFn K (.ref fQI) = true)
    (lTd : K.lookup TdR = some ⟨.type "tuple", ddR, .seq #[.ref teR] nR, slR⟩)
    (sfQ : PySem.W.selfFirst K CR = true)
    (rsQ : PySem.W.findIn K (.ref CR) (dunderR Operator.Sub.info.2) = some none)
    (i1Q : PySem.W.findIn K (.type "int") (PySem.dunder Operator.Sub.info.2) = some foS)
    (i2Q : PySem.W.findIn K (.type "int") (dunderR Operator.Sub.info.2) = some roS)
    (sbQ : PySem.W.subIn K (.type "int") (.ref CR) = some false)
    : LawAtS l w K CX0 14 63 "script" mg fa h := by
  have e := hfa.symm.trans (PySem.W.mg_of X G aL)
  cases e
  have T : Tx K mg := {
    nValueError := PySem.W.mg_none_of X G zValueError,
    nbool := PySem.W.mg_none_of X G zbool,
    nenumerate := PySem.W.mg_none_of X G zenumerate,
    nint := PySem.W.mg_none_of X G zint,
    nisinstance := PySem.W.mg_none_of X G zisinstance,
    nlen := PySem.W.mg_none_of X G zlen,
    nlist := PySem.W.mg_none_of X G zlist,
    nstr := PySem.W.mg_none_of X G zstr,
    ntuple := PySem.W.mg_none_of X G ztuple,
    nzip := PySem.W.mg_none_of X G zzip,
    kBEGINNER := ⟨qBEGINNER, PySem.W.mg_of X G aBEGINNER, fun H => .tup (xs := [.str "none", .bl false, .bl false, .bl false]) (.inr ⟨_, _, _, lBEGINNER, rfl, rfl, by rw [line24]; show 4 ≤ 16777216; decide, (.cons ⟨_, rfl⟩ (.cons rfl (.cons rfl (.cons rfl .nil))))⟩) (.cons (.str _) (.cons (.bl _) (.cons (.bl _) (.cons (.bl _) .nil))))⟩,
    kDEEDS := ⟨qDEEDS, PySem.W.mg_of X G aDEEDS, at_strsK lDEEDS rfl rfl (by rw [line24]; show 6 ≤ 16777216; decide) (.cons ⟨_, rfl⟩ (.cons ⟨_, rfl⟩ (.cons ⟨_, rfl⟩ (.cons ⟨_, rfl⟩ (.cons ⟨_, rfl⟩ (.cons ⟨_, rfl⟩ .nil))))))⟩,
    kEVENTS := ⟨qEVENTS, PySem.W.mg_of X G aEVENTS, at_strsK lEVENTS rfl rfl (by rw [line24]; show 7 ≤ 16777216; decide) (.cons ⟨_, rfl⟩ (.cons ⟨_, rfl⟩ (.cons ⟨_, rfl⟩ (.cons ⟨_, rfl⟩ (.cons ⟨_, rfl⟩ (.cons ⟨_, rfl⟩ (.cons ⟨_, rfl⟩ .nil)))))))⟩,
    kMOST := ⟨_, PySem.W.mg_of X G aMOST, ⟨_, rfl⟩⟩,
    kTESTS := ⟨qTESTS, PySem.W.mg_of X G aTESTS, at_strsK lTESTS rfl rfl (by rw [line24]; show 8 ≤ 16777216; decide) (.cons ⟨_, rfl⟩ (.cons ⟨_, rfl⟩ (.cons ⟨_, rfl⟩ (.cons ⟨_, rfl⟩ (.cons ⟨_, rfl⟩ (.cons ⟨_, rfl⟩ (.cons ⟨_, rfl⟩ (.cons ⟨_, rfl⟩ .nil))))))))⟩ }
  have Dlaw_draw : Def K mg "_law_draw" "_law_draw" s_law_draw ["tape", "many"] := ⟨_, _, (fun_mk (st := s_law_draw) l1 c1 k1), PySem.W.mg_of X G a1, ((fun_mk (st := s_law_draw) l1 c1 k1).binds (ps := ["tape", "many"]) fun _ _ _ _ _ _ us hl => match us, hl with | [_, _], _ => rfl)⟩
  have Dis_test : Def K mg "is_test" "is_test" s_is_test ["value"] := ⟨_, _, (fun_mk (st := s_is_test) l2 c2 k2), PySem.W.mg_of X G a2, ((fun_mk (st := s_is_test) l2 c2 k2).binds (ps := ["value"]) fun _ _ _ _ _ _ us hl => match us, hl with | [_], _ => rfl)⟩
  have Dis_clause : Def K mg "is_clause" "is_clause" s_is_clause ["value"] := ⟨_, _, (fun_mk (st := s_is_clause) l3 c3 k3), PySem.W.mg_of X G a3, ((fun_mk (st := s_is_clause) l3 c3 k3).binds (ps := ["value"]) fun _ _ _ _ _ _ us hl => match us, hl with | [_], _ => rfl)⟩
  have Dis_rule : Def K mg "is_rule" "is_rule" s_is_rule ["value"] := ⟨_, _, (fun_mk (st := s_is_rule) l4 c4 k4), PySem.W.mg_of X G a4, ((fun_mk (st := s_is_rule) l4 c4 k4).binds (ps := ["value"]) fun _ _ _ _ _ _ us hl => match us, hl with | [_], _ => rfl)⟩
  have Dcheck_rule : Def K mg "check_rule" "check_rule" s_check_rule ["rule"] := ⟨_, _, (fun_mk (st := s_check_rule) l5 c5 k5), PySem.W.mg_of X G a5, ((fun_mk (st := s_check_rule) l5 c5 k5).binds (ps := ["rule"]) fun _ _ _ _ _ _ us hl => match us, hl with | [_], _ => rfl)⟩
  have Dholds : Def K mg "holds" "holds" s_holds ["test", "house", "copy"] := ⟨_, _, (fun_mk (st := s_holds) l6 c6 k6), PySem.W.mg_of X G a6, ((fun_mk (st := s_holds) l6 c6 k6).binds (ps := ["test", "house", "copy"]) fun _ _ _ _ _ _ us hl => match us, hl with | [_, _, _], _ => rfl)⟩
  have Dclause_of : Def K mg "clause_of" "clause_of" s_clause_of ["rule", "house", "copy"] := ⟨_, _, (fun_mk (st := s_clause_of) l7 c7 k7), PySem.W.mg_of X G a7, ((fun_mk (st := s_clause_of) l7 c7 k7).binds (ps := ["rule", "house", "copy"]) fun _ _ _ _ _ _ us hl => match us, hl with | [_, _, _], _ => rfl)⟩
  have Dmet : Def K mg "met" "met" s_met ["rule", "house", "copy"] := ⟨_, _, (fun_mk (st := s_met) l8 c8 k8), PySem.W.mg_of X G a8, ((fun_mk (st := s_met) l8 c8 k8).binds (ps := ["rule", "house", "copy"]) fun _ _ _ _ _ _ us hl => match us, hl with | [_, _, _], _ => rfl)⟩
  have Dstale : Def K mg "stale" "stale" s_stale ["copy"] := ⟨_, _, (fun_mk (st := s_stale) l9 c9 k9), PySem.W.mg_of X G a9, ((fun_mk (st := s_stale) l9 c9 k9).binds (ps := ["copy"]) fun _ _ _ _ _ _ us hl => match us, hl with | [_], _ => rfl)⟩
  have Dfirst_stand : Def K mg "first_stand" "first_stand" s_first_stand [] := ⟨_, _, (fun_mk (st := s_first_stand) l10 c10 k10), PySem.W.mg_of X G a10, ((fun_mk (st := s_first_stand) l10 c10 k10).binds (ps := []) fun _ _ _ _ _ _ us hl => match us, hl with | [], _ => rfl)⟩
  have Dbought : Def K mg "bought" "bought" s_bought ["lead", "copy"] := ⟨_, _, (fun_mk (st := s_bought) l11 c11 k11), PySem.W.mg_of X G a11, ((fun_mk (st := s_bought) l11 c11 k11).binds (ps := ["lead", "copy"]) fun _ _ _ _ _ _ us hl => match us, hl with | [_, _], _ => rfl)⟩
  have Dmet_so : Def K mg "met_so" "met_so" s_met_so ["rule", "lead", "copy"] := ⟨_, _, (fun_mk (st := s_met_so) l12 c12 k12), PySem.W.mg_of X G a12, ((fun_mk (st := s_met_so) l12 c12 k12).binds (ps := ["rule", "lead", "copy"]) fun _ _ _ _ _ _ us hl => match us, hl with | [_, _, _], _ => rfl)⟩
  have Dacted : Def K mg "acted" "acted" s_acted ["rule", "lead", "copy", "event"] := ⟨_, _, (fun_mk (st := s_acted) l13 c13 k13), PySem.W.mg_of X G a13, ((fun_mk (st := s_acted) l13 c13 k13).binds (ps := ["rule", "lead", "copy", "event"]) fun _ _ _ _ _ _ us hl => match us, hl with | [_, _, _, _], _ => rfl)⟩
  have Dbehind : Def K mg "behind" "behind" s_behind ["rule", "stand", "event"] := ⟨_, _, (fun_mk (st := s_behind) l14 c14 k14), PySem.W.mg_of X G a14, ((fun_mk (st := s_behind) l14 c14 k14).binds (ps := ["rule", "stand", "event"]) fun _ _ _ _ _ _ us hl => match us, hl with | [_, _, _], _ => rfl)⟩
  have Dis_event : Def K mg "is_event" "is_event" s_is_event ["value"] := ⟨_, _, (fun_mk (st := s_is_event) l15 c15 k15), PySem.W.mg_of X G a15, ((fun_mk (st := s_is_event) l15 c15 k15).binds (ps := ["value"]) fun _ _ _ _ _ _ us hl => match us, hl with | [_], _ => rfl)⟩
  have Dcheck_index : Def K mg "check_index" "check_index" s_check_index ["rule", "index"] := ⟨_, _, (fun_mk (st := s_check_index) l16 c16 k16), PySem.W.mg_of X G a16, ((fun_mk (st := s_check_index) l16 c16 k16).binds (ps := ["rule", "index"]) fun _ _ _ _ _ _ us hl => match us, hl with | [_, _], _ => rfl)⟩
  have WT : WordTx K mg := wordTx_mk (Cs := [W1, W2, W3, W4, W5, W6, W7, W8, W9, W10, W11]) rfl ⟨PySem.W.mg_of X G aW1, PySem.W.mg_of X G aW2, PySem.W.mg_of X G aW3, PySem.W.mg_of X G aW4, PySem.W.mg_of X G aW5, PySem.W.mg_of X G aW6, PySem.W.mg_of X G aW7, PySem.W.mg_of X G aW8, PySem.W.mg_of X G aW9, PySem.W.mg_of X G aW10, PySem.W.mg_of X G aW11, trivial⟩ wcs sep (PySem.W.mg_of X G aLE) bLE dLE tLE
  have P1 : PErr K mg "InvalidRule" W1 := ⟨PySem.W.mg_of X G aW1, xE1, kE1, bE1, (wcs_get (i := 0) wcs rfl).t⟩
  have P2 : PErr K mg "InvalidHistory" W2 := ⟨PySem.W.mg_of X G aW2, xE2, kE2, bE2, (wcs_get (i := 1) wcs rfl).t⟩
  have P3 : PErr K mg "InvalidHarm" W3 := ⟨PySem.W.mg_of X G aW3, xE3, kE3, bE3, (wcs_get (i := 2) wcs rfl).t⟩
  have P4 : PErr K mg "InvalidNews" W4 := ⟨PySem.W.mg_of X G aW4, xE4, kE4, bE4, (wcs_get (i := 3) wcs rfl).t⟩
  have P5 : PErr K mg "InvalidEvent" W5 := ⟨PySem.W.mg_of X G aW5, xE5, kE5, bE5, (wcs_get (i := 4) wcs rfl).t⟩
  have P6 : PErr K mg "InvalidIndex" W6 := ⟨PySem.W.mg_of X G aW6, xE6, kE6, bE6, (wcs_get (i := 5) wcs rfl).t⟩
  have P7 : PErr K mg "InvalidPerson" W7 := ⟨PySem.W.mg_of X G aW7, xE7, kE7, bE7, (wcs_get (i := 6) wcs rfl).t⟩
  have P8 : PErr K mg "NotNow" W8 := ⟨PySem.W.mg_of X G aW8, xE8, kE8, bE8, (wcs_get (i := 7) wcs rfl).t⟩
  have P9 : PErr K mg "TooMany" W9 := ⟨PySem.W.mg_of X G aW9, xE9, kE9, bE9, (wcs_get (i := 8) wcs rfl).t⟩
  have P10 : PErr K mg "NothingToUndo" W10 := ⟨PySem.W.mg_of X G aW10, xE10, kE10, bE10, (wcs_get (i := 9) wcs rfl).t⟩
  have kLE : ∀ nm wd C, wordsL.lookup nm = some wd → mg nm = some (.ref C) → PySem.W.kitOne K (.ref C) (.ref LE) = some true := fun nm wd C h hC => by
    obtain ⟨i, hi⟩ := lookup_ix h
    obtain ⟨D, e1, e2⟩ := named_get (mg := mg) (ns := wordsL.map (·.1)) (Cs := [W1, W2, W3, W4, W5, W6, W7, W8, W9, W10, W11]) rfl ⟨PySem.W.mg_of X G aW1, PySem.W.mg_of X G aW2, PySem.W.mg_of X G aW3, PySem.W.mg_of X G aW4, PySem.W.mg_of X G aW5, PySem.W.mg_of X G aW6, PySem.W.mg_of X G aW7, PySem.W.mg_of X G aW8, PySem.W.mg_of X G aW9, PySem.W.mg_of X G aW10, PySem.W.mg_of X G aW11, trivial⟩ hi
    rw [hC] at e2; cases e2
    exact kit_yes dLE tLE (wcs_get wcs e1).l
  have F0 : FunC K "law" "law" s_law fa (PySem.W.fnOf "law" "law" (defArgs s_law) (defBody s_law) (defScope s_law) .none kVL dcL pmL anL (.ref ccL) ctL) ccL := ⟨⟨_, _, _, _, _, _, _, _, rfl, lL, cL⟩, kL⟩
  refine ⟨PySem.W.fnOf "law" "law" (defArgs s_law) (defBody s_law) (defScope s_law) .none kVL dcL pmL anL (.ref ccL) ctL, [(ccL, PtL)], spLawT [(PtL, q_law)] K, fun p hp => by rw [List.mem_singleton.mp hp]; exact tL, fun p hp => by rw [List.mem_singleton.mp hp]; exact qL, fun p hp => by rw [List.mem_singleton.mp hp]; exact PySem.W.codeHd_of_K X hL, fun s v => .of_eq rfl, ?_, fun base KB GB TB => ?_⟩
  · intro H a ns hn _ hT hS
    refine ⟨a, ns, rfl, hS, hn, fun p hp => ?_, fun _ => rfl⟩
    rw [List.mem_singleton.mp hp]
    exact tabs_start (hT (ccL, PtL) (List.mem_singleton_self _))
  have Fword := ok_word (P := l.prog) (w := w) (base := base) T WT (fun_mk (st := s_word) lW cW kW)
  have FW := ok_wordV (P := l.prog) (w := w) (base := base) T WT (fun_mk (st := s_word) lW cW kW)
  have Ftried := told_tried (P := l.prog) (w := w) (base := base) WT (fun_mk (st := s_tried) lT cT kT) (PySem.W.mg_of X G aT) ((fun_mk (st := s_tried) lT cT kT).binds (ps := ["call"]) fun _ _ _ _ _ _ us hl => match us, hl with | [_], _ => rfl) Fword (PySem.W.mg_of X G aW) kW ((fun_mk (st := s_word) lW cW kW).binds (ps := ["e"]) fun _ _ _ _ _ _ us hl => match us, hl with | [_], _ => rfl)
  have OX : OexC K W11 := ⟨⟨nmX, qX, NX, bsX, _, snX, subX, abX, colX, ddX, m0X, m1X, m2X, m3X, m5X, xCX, rfl⟩, saX, eCX, tCX, kCX⟩
  have TE : FErr l.prog w K mg base "InvalidText" "line" 1 W11 := ⟨PySem.W.mg_of X G aW11, OX, gaX, ggX, nbX, hCX, exm_self eCX iCX tCX sCX, _, _, aIX, tIX, ok_init_InvalidText (fun_mk (st := s_init_InvalidText) lIX cIX kIX) OX nbX ⟨_, _, PySem.W.mg_of X G aBX, rBX, gBX, fBX⟩, ((fun_mk (st := s_init_InvalidText) lIX cIX kIX).binds (ps := ["self", "line"]) fun _ _ _ _ _ _ us hl => match us, hl with | [_, _], _ => rfl)⟩
  have Flaw_draw := fd_law_draw (P := l.prog) (w := w) (base := base) T Dlaw_draw  
  have Fis_test := fd_is_test (P := l.prog) (w := w) (base := base) T Dis_test  
  have Fis_clause := fd_is_clause (P := l.prog) (w := w) (base := base) T Dis_clause  Fis_test
  have Fis_rule := fd_is_rule (P := l.prog) (w := w) (base := base) T Dis_rule  Fis_clause
  have Fcheck_rule := fd_check_rule (P := l.prog) (w := w) (base := base) T Dcheck_rule  Fis_rule
  have Fholds0 : FD l.prog w K mg base CX0 "holds" ["test", "house", "copy"] 1 (spP K mg (c_holds 0)) := fd_no Dholds (by rintro ds Q Y ⟨t, h, c, _, _, _, _, h4, _⟩; exact absurd h4 (Nat.not_lt_zero _))
  have Fholds1 := fd_holds (P := l.prog) (w := w) (base := base) 0 T Dholds Fholds0
  have Fholds2 := fd_holds (P := l.prog) (w := w) (base := base) 1 T Dholds Fholds1
  have Fholds := Fholds2
  have Fclause_of := fd_clause_of (P := l.prog) (w := w) (base := base) T Dclause_of  Fholds
  have Fmet := fd_met (P := l.prog) (w := w) (base := base) T Dmet  Fclause_of
  have Fstale := fd_stale (P := l.prog) (w := w) (base := base) T Dstale  
  have Ffirst_stand := fd_first_stand (P := l.prog) (w := w) (base := base) T Dfirst_stand  
  have Fbought := fd_bought (P := l.prog) (w := w) (base := base) T Dbought  
  have Fmet_so := fd_met_so (P := l.prog) (w := w) (base := base) T Dmet_so  Fmet
  have Facted := fd_acted (P := l.prog) (w := w) (base := base) T Dacted  Fmet_so Fbought
  have Fbehind := fd_behind (P := l.prog) (w := w) (base := base) T Dbehind  Facted Fstale
  have Fis_event := fd_is_event (P := l.prog) (w := w) (base := base) T Dis_event  
  have Fcheck_index := fd_check_index (P := l.prog) (w := w) (base := base) T Dcheck_index P6 
  have PC : PtyC K CP := ⟨⟨pgP, hdP, poP, saP⟩, noPrule_so, noPnow, noPpast⟩
  have RC : RuC K CR := ⟨⟨pgQ, hdQ, poQ, saQ⟩, noQrows⟩
  have FPI := ok_pinit (P := l.prog) (w := w) (base := base) T PC (fun_mk (st := s_pinit) lPI cPI kPI) Fcheck_rule Ffirst_stand
  have FPU := ok_undo (P := l.prog) (w := w) (base := base) PC P10 (fun_mk (st := s_undo) lPU cPU kPU)
  have FPS := ok_step (P := l.prog) (w := w) (base := base) PC (fun_mk (st := s_step) lPS cPS kPS) Fbehind
  have FPD := ok_do (P := l.prog) (w := w) (base := base) PC P5 P8 (fun_mk (st := s_do) lPD cPD kPD) Fis_event ⟨aPS, fnPS, kPS⟩ FPS ((fun_mk (st := s_step) lPS cPS kPS).binds (ps := ["self", "now", "event"]) fun _ _ _ _ _ _ us hl => match us, hl with | [_, _, _], _ => rfl)
  have MP : PtyM l.prog w K mg base CP := ⟨PC, PySem.W.mg_of X G aP, ⟨_, _, ⟨mkP, aPI, fnPI, kcP⟩, FPI, ((fun_mk (st := s_pinit) lPI cPI kPI).binds (ps := ["self", "rule"]) fun _ _ _ _ _ _ us hl => match us, hl with | [_, _], _ => rfl)⟩, ⟨_, _, ⟨aPU, fnPU, kPU⟩, FPU, ((fun_mk (st := s_undo) lPU cPU kPU).binds (ps := ["self"]) fun _ _ _ _ _ _ us hl => match us, hl with | [_], _ => rfl)⟩, ⟨_, _, ⟨aPD, fnPD, kPD⟩, FPD, ((fun_mk (st := s_do) lPD cPD kPD).binds (ps := ["self", "person", "word"]) fun _ _ _ _ _ _ us hl => match us, hl with | [_, _, _], _ => rfl)⟩⟩
  have DI : FunD K "__init__" "Rule.__init__" (defArgs s_rinit) (defBody s_rinit) (defScope s_rinit) [.ref teR] [] fQI (PySem.W.fnOf "__init__" "Rule.__init__" (defArgs s_rinit) (defBody s_rinit) (defScope s_rinit) (.ref TdR) kVQI dcQI pmQI anQI cdQI ctQI) := ⟨⟨_, _, _, _, _, _, _, _, _, _, rfl, lQI, cQI, .inr ⟨(by simp), TdR, _, [.ref teR], nR, rfl, lTd, rfl, .cons rfl .nil⟩, .inl rfl⟩, kQI⟩
  have FRI := ok_rinit (P := l.prog) (w := w) (mg := mg) (base := base) RC DI Fcheck_rule
  obtain ⟨dsI, vI, bI⟩ := DI.binds1 (ps := ["self", "clauses"]) 2 1 (by simp) rfl (fun Td kV doc pm an cdv ct us its h1 h2 => match us, its, h1, h2 with | [_, _], [_], _, _ => ⟨_, rfl, rfl⟩)
  have vI : Vals [] dsI := vI
  cases vI
  have FRS := ok_sub (P := l.prog) (w := w) (base := base) RC (fun_mk (st := s_sub) lQS cQS kQS) Fcheck_index
  have MR : RuM l.prog w K mg base CR := ⟨PySem.W.mg_of X G aQ, ⟨_, _, ⟨mkQ, aQI, fnQI, kcQ⟩, FRI, bI⟩, ⟨_, _, ⟨sfQ, aQS, fnQS, ⟨_, rsQ, .inl rfl⟩, ⟨_, i1Q⟩, ⟨_, i2Q⟩, sbQ⟩, FRS, ((fun_mk (st := s_sub) lQS cQS kQS).binds (ps := ["self", "index"]) fun _ _ _ _ _ _ us hl => match us, hl with | [_, _], _ => rfl)⟩⟩
  have F7 := ok_read7 (P := l.prog) (w := w) (base := base) T (fun_mk (st := s_read7) lR7 cR7 kR7) TE
  exact ok_law T WT F0 (TB (ccL, PtL) (List.mem_singleton_self _)) Flaw_draw Ftried MP MR F7 (PySem.W.mg_of X G aR7) kR7 ((fun_mk (st := s_read7) lR7 cR7 kR7).binds (ps := ["value"]) fun _ _ _ _ _ _ us hl => match us, hl with | [_], _ => rfl) FW (PySem.W.mg_of X G aW) kW ((fun_mk (st := s_word) lW cW kW).binds (ps := ["e"]) fun _ _ _ _ _ _ us hl => match us, hl with | [_], _ => rfl) TE (PySem.W.mg_of X G aLE) kLE P1 P2 P3 P4 P5 P6 P7 P8 P9 P10
theorem walk {l : PySem.W.OpenLaw} {q : Program} {loose : List Str} {XP : (Str → Option Value) → Heap → Prop} {YP : World → Heap → Prop} {d : DefRec} {K : Params → PySem.W.Frag} (hn : l.most = some 63) (hdf : d.params.defaults = [])
    (hY : ∀ (w : World) (h : Heap), YP w h → (K w.params).In h)
    (F : ∀ (w : World) (mg : Str → Option Value) (fa : Addr) (h : Heap), YP w h → (K w.params).In h → h.Ns mainGlobals mg → mg d.name = some (.ref fa) → LawAtS l w (K w.params) CX0 14 63 "script" mg fa h) :
    PySem.W.WalkO q loose XP YP l.row.toRowW d [] (fun f vs => PySem.call f vs) :=
  walk_ofTs (n := 63) (k := 14) (x := "script") (CX := fun _ => CX0) hn (by decide) hdf ⟨rfl, by decide, by decide⟩ hY F fun _ _ _ _ _ z => z
end DL
open PySem PySem.W PyProof.Rows
set_option maxRecDepth 100000 in
set_option maxHeartbeats 0 in
theorem PySem.Challenge.cw_boughttwice_k19_names_of_refusals_holds : PySem.Challenge.rw_boughttwice_k19_names_of_refusals.Holds := by
  w_on; o_law; k_head; (case hw => w_witness2)
  k_fill
  refine DL.walk (l := PySem.Challenge.rw_boughttwice_k19_names_of_refusals) rfl rfl (fun w h Y => PySem.W.km_in_of Y) ?F
  case F =>
    intro w mg fa h Y KX G hmg
    refine' DL.all_mk KX G hmg ?a1 ?l1 ?c1 ?k1 ?a2 ?l2 ?c2 ?k2 ?a3 ?l3 ?c3 ?k3 ?a4 ?l4 ?c4 ?k4 ?a5 ?l5 ?c5 ?k5 ?a6 ?l6 ?c6 ?k6 ?a7 ?l7 ?c7 ?k7 ?a8 ?l8 ?c8 ?k8 ?a9 ?l9 ?c9 ?k9 ?a10 ?l10 ?c10 ?k10 ?a11 ?l11 ?c11 ?k11 ?a12 ?l12 ?c12 ?k12 ?a13 ?l13 ?c13 ?k13 ?a14 ?l14 ?c14 ?k14 ?a15 ?l15 ?c15 ?k15 ?a16 ?l16 ?c16 ?k16 ?aW ?lW ?cW ?kW ?aT ?lT ?cT ?kT ?aR7 ?lR7 ?cR7 ?kR7 ?aL ?lL ?cL ?kL ?xL ?pL ?hL ?qL ?tL ?zValueError ?zbool ?zenumerate ?zint ?zisinstance ?zlen ?zlist ?zstr ?ztuple ?zzip ?aBEGINNER ?lBEGINNER ?aDEEDS ?lDEEDS ?aEVENTS ?lEVENTS ?aMOST ?aTESTS ?lTESTS ?aLE ?aW1 ?aW2 ?aW3 ?aW4 ?aW5 ?aW6 ?aW7 ?aW8 ?aW9 ?aW10 ?aW11 ?bLE ?dLE ?tLE ?wcs ?sep ?xE1 ?kE1 ?bE1 ?xE2 ?kE2 ?bE2 ?xE3 ?kE3 ?bE3 ?xE4 ?kE4 ?bE4 ?xE5 ?kE5 ?bE5 ?xE6 ?kE6 ?bE6 ?xE7 ?kE7 ?bE7 ?xE8 ?kE8 ?bE8 ?xE9 ?kE9 ?bE9 ?xE10 ?kE10 ?bE10 ?xCX ?saX ?gaX ?ggX ?nbX ?aIX ?lIX ?cIX ?kIX ?tIX ?kCX ?eCX ?tCX ?hCX ?iCX ?sCX ?aBX ?rBX ?gBX ?fBX ?aP ?pgP ?hdP ?poP ?saP ?noPrule_so ?noPnow ?noPpast ?mkP ?kcP ?aQ ?pgQ ?hdQ ?poQ ?saQ ?noQrows ?mkQ ?kcQ ?aPI ?lPI ?cPI ?kPI ?fnPI ?aPU ?lPU ?cPU ?kPU ?fnPU ?aPS ?lPS ?cPS ?kPS ?fnPS ?aPD ?lPD ?cPD ?kPD ?fnPD ?aQS ?lQS ?cQS ?kQS ?fnQS ?aQI ?lQI ?cQI ?kQI ?fnQI ?lTd ?sfQ ?rsQ ?i1Q ?i2Q ?sbQ
    (case a1 => k_is)
    (case l1 => k_is)
    (case c1 => k_is)
    (case k1 => k_is)
    (case a2 => k_is)
    (case l2 => k_is)
    (case c2 => k_is)
    (case k2 => k_is)
    (case a3 => k_is)
    (case l3 => k_is)
    (case c3 => k_is)
    (case k3 => k_is)
    (case a4 => k_is)
    (case l4 => k_is)
    (case c4 => k_is)
    (case k4 => k_is)
    (case a5 => k_is)
    (case l5 => k_is)
    (case c5 => k_is)
    (case k5 => k_is)
    (case a6 => k_is)
    (case l6 => k_is)
    (case c6 => k_is)
    (case k6 => k_is)
    (case a7 => k_is)
    (case l7 => k_is)
    (case c7 => k_is)
    (case k7 => k_is)
    (case a8 => k_is)
    (case l8 => k_is)
    (case c8 => k_is)
    (case k8 => k_is)
    (case a9 => k_is)
    (case l9 => k_is)
    (case c9 => k_is)
    (case k9 => k_is)
    (case a10 => k_is)
    (case l10 => k_is)
    (case c10 => k_is)
    (case k10 => k_is)
    (case a11 => k_is)
    (case l11 => k_is)
    (case c11 => k_is)
    (case k11 => k_is)
    (case a12 => k_is)
    (case l12 => k_is)
    (case c12 => k_is)
    (case k12 => k_is)
    (case a13 => k_is)
    (case l13 => k_is)
    (case c13 => k_is)
    (case k13 => k_is)
    (case a14 => k_is)
    (case l14 => k_is)
    (case c14 => k_is)
    (case k14 => k_is)
    (case a15 => k_is)
    (case l15 => k_is)
    (case c15 => k_is)
    (case k15 => k_is)
    (case a16 => k_is)
    (case l16 => k_is)
    (case c16 => k_is)
    (case k16 => k_is)
    (case aW => k_is)
    (case lW => k_is)
    (case cW => k_is)
    (case kW => k_is)
    (case aT => k_is)
    (case lT => k_is)
    (case cT => k_is)
    (case kT => k_is)
    (case aR7 => k_is)
    (case lR7 => k_is)
    (case cR7 => k_is)
    (case kR7 => k_is)
    (case aL => k_is)
    (case lL => k_is)
    (case cL => k_is)
    (case kL => k_is)
    (case xL => k_is)
    (case pL => rfl)
    (case hL => kernel_rfl)
    (case qL => kernel_rfl)
    (case tL => exact PySem.W.km_tabs_of Y _ (by k_mem))
    (case zValueError => k_is)
    (case zbool => k_is)
    (case zenumerate => k_is)
    (case zint => k_is)
    (case zisinstance => k_is)
    (case zlen => k_is)
    (case zlist => k_is)
    (case zstr => k_is)
    (case ztuple => k_is)
    (case zzip => k_is)
    (case aBEGINNER => k_is)
    (case lBEGINNER => k_is)
    (case aDEEDS => k_is)
    (case lDEEDS => k_is)
    (case aEVENTS => k_is)
    (case lEVENTS => k_is)
    (case aMOST => k_is)
    (case aTESTS => k_is)
    (case lTESTS => k_is)
    (case aLE => k_is)
    (case aW1 => k_is)
    (case aW2 => k_is)
    (case aW3 => k_is)
    (case aW4 => k_is)
    (case aW5 => k_is)
    (case aW6 => k_is)
    (case aW7 => k_is)
    (case aW8 => k_is)
    (case aW9 => k_is)
    (case aW10 => k_is)
    (case aW11 => k_is)
    (case bLE => k_is)
    (case dLE => k_is)
    (case tLE => k_is)
    (case wcs => exact ⟨⟨⟨by k_is, by k_is, by k_is, by k_is, by k_is, by k_is, by k_is, by k_is⟩, by k_is, by k_is, by k_is, by k_is⟩, ⟨⟨by k_is, by k_is, by k_is, by k_is, by k_is, by k_is, by k_is, by k_is⟩, by k_is, by k_is, by k_is, by k_is⟩, ⟨⟨by k_is, by k_is, by k_is, by k_is, by k_is, by k_is, by k_is, by k_is⟩, by k_is, by k_is, by k_is, by k_is⟩, ⟨⟨by k_is, by k_is, by k_is, by k_is, by k_is, by k_is, by k_is, by k_is⟩, by k_is, by k_is, by k_is, by k_is⟩, ⟨⟨by k_is, by k_is, by k_is, by k_is, by k_is, by k_is, by k_is, by k_is⟩, by k_is, by k_is, by k_is, by k_is⟩, ⟨⟨by k_is, by k_is, by k_is, by k_is, by k_is, by k_is, by k_is, by k_is⟩, by k_is, by k_is, by k_is, by k_is⟩, ⟨⟨by k_is, by k_is, by k_is, by k_is, by k_is, by k_is, by k_is, by k_is⟩, by k_is, by k_is, by k_is, by k_is⟩, ⟨⟨by k_is, by k_is, by k_is, by k_is, by k_is, by k_is, by k_is, by k_is⟩, by k_is, by k_is, by k_is, by k_is⟩, ⟨⟨by k_is, by k_is, by k_is, by k_is, by k_is, by k_is, by k_is, by k_is⟩, by k_is, by k_is, by k_is, by k_is⟩, ⟨⟨by k_is, by k_is, by k_is, by k_is, by k_is, by k_is, by k_is, by k_is⟩, by k_is, by k_is, by k_is, by k_is⟩, ⟨⟨by k_is, by k_is, by k_is, by k_is, by k_is, by k_is, by k_is, by k_is⟩, by k_is, by k_is, by k_is, by k_is⟩, trivial⟩)
    (case sep => exact ⟨⟨⟨by k_is, by k_is⟩, ⟨by k_is, by k_is⟩, ⟨by k_is, by k_is⟩, ⟨by k_is, by k_is⟩, ⟨by k_is, by k_is⟩, ⟨by k_is, by k_is⟩, ⟨by k_is, by k_is⟩, ⟨by k_is, by k_is⟩, ⟨by k_is, by k_is⟩, ⟨by k_is, by k_is⟩, trivial⟩, ⟨⟨by k_is, by k_is⟩, ⟨by k_is, by k_is⟩, ⟨by k_is, by k_is⟩, ⟨by k_is, by k_is⟩, ⟨by k_is, by k_is⟩, ⟨by k_is, by k_is⟩, ⟨by k_is, by k_is⟩, ⟨by k_is, by k_is⟩, ⟨by k_is, by k_is⟩, trivial⟩, ⟨⟨by k_is, by k_is⟩, ⟨by k_is, by k_is⟩, ⟨by k_is, by k_is⟩, ⟨by k_is, by k_is⟩, ⟨by k_is, by k_is⟩, ⟨by k_is, by k_is⟩, ⟨by k_is, by k_is⟩, ⟨by k_is, by k_is⟩, trivial⟩, ⟨⟨by k_is, by k_is⟩, ⟨by k_is, by k_is⟩, ⟨by k_is, by k_is⟩, ⟨by k_is, by k_is⟩, ⟨by k_is, by k_is⟩, ⟨by k_is, by k_is⟩, ⟨by k_is, by k_is⟩, trivial⟩, ⟨⟨by k_is, by k_is⟩, ⟨by k_is, by k_is⟩, ⟨by k_is, by k_is⟩, ⟨by k_is, by k_is⟩, ⟨by k_is, by k_is⟩, ⟨by k_is, by k_is⟩, trivial⟩, ⟨⟨by k_is, by k_is⟩, ⟨by k_is, by k_is⟩, ⟨by k_is, by k_is⟩, ⟨by k_is, by k_is⟩, ⟨by k_is, by k_is⟩, trivial⟩, ⟨⟨by k_is, by k_is⟩, ⟨by k_is, by k_is⟩, ⟨by k_is, by k_is⟩, ⟨by k_is, by k_is⟩, trivial⟩, ⟨⟨by k_is, by k_is⟩, ⟨by k_is, by k_is⟩, ⟨by k_is, by k_is⟩, trivial⟩, ⟨⟨by k_is, by k_is⟩, ⟨by k_is, by k_is⟩, trivial⟩, ⟨⟨by k_is, by k_is⟩, trivial⟩, trivial, trivial⟩)
    (case xE1 => k_exc)
    (case kE1 => k_is)
    (case bE1 => k_is)
    (case xE2 => k_exc)
    (case kE2 => k_is)
    (case bE2 => k_is)
    (case xE3 => k_exc)
    (case kE3 => k_is)
    (case bE3 => k_is)
    (case xE4 => k_exc)
    (case kE4 => k_is)
    (case bE4 => k_is)
    (case xE5 => k_exc)
    (case kE5 => k_is)
    (case bE5 => k_is)
    (case xE6 => k_exc)
    (case kE6 => k_is)
    (case bE6 => k_is)
    (case xE7 => k_exc)
    (case kE7 => k_is)
    (case bE7 => k_is)
    (case xE8 => k_exc)
    (case kE8 => k_is)
    (case bE8 => k_is)
    (case xE9 => k_exc)
    (case kE9 => k_is)
    (case bE9 => k_is)
    (case xE10 => k_exc)
    (case kE10 => k_is)
    (case bE10 => k_is)
    (case xCX => k_is)
    (case saX => k_is)
    (case gaX => k_is)
    (case ggX => k_is)
    (case nbX => k_is)
    (case aIX => k_is)
    (case lIX => k_is)
    (case cIX => k_is)
    (case kIX => k_is)
    (case tIX => k_is)
    (case kCX => k_is)
    (case eCX => k_is)
    (case tCX => k_is)
    (case hCX => k_is)
    (case iCX => k_is)
    (case sCX => k_is)
    (case aBX => k_is)
    (case rBX => k_is)
    (case gBX => k_is)
    (case fBX => k_is)
    (case aP => k_is)
    (case pgP => k_is)
    (case hdP => k_is)
    (case poP => k_is)
    (case saP => k_is)
    (case noPrule_so => (unfold L2.NoAttr; k_is))
    (case noPnow => (unfold L2.NoAttr; k_is))
    (case noPpast => (unfold L2.NoAttr; k_is))
    (case mkP => k_is)
    (case kcP => k_is)
    (case aQ => k_is)
    (case pgQ => k_is)
    (case hdQ => k_is)
    (case poQ => k_is)
    (case saQ => k_is)
    (case noQrows => (unfold L2.NoAttr; k_is))
    (case mkQ => k_is)
    (case kcQ => k_is)
    (case aPI => k_is)
    (case lPI => k_is)
    (case cPI => k_is)
    (case kPI => k_is)
    (case fnPI => k_is)
    (case aPU => k_is)
    (case lPU => k_is)
    (case cPU => k_is)
    (case kPU => k_is)
    (case fnPU => k_is)
    (case aPS => k_is)
    (case lPS => k_is)
    (case cPS => k_is)
    (case kPS => k_is)
    (case fnPS => k_is)
    (case aPD => k_is)
    (case lPD => k_is)
    (case cPD => k_is)
    (case kPD => k_is)
    (case fnPD => k_is)
    (case aQS => k_is)
    (case lQS => k_is)
    (case cQS => k_is)
    (case kQS => k_is)
    (case fnQS => k_is)
    (case aQI => k_is)
    (case lQI => k_is)
    (case cQI => k_is)
    (case kQI => k_is)
    (case fnQI => k_is)
    (case lTd => k_is)
    (case sfQ => k_is)
    (case rsQ => k_is)
    (case i1Q => k_is)
    (case i2Q => k_is)
    (case sbQ => k_is)
#print axioms PySem.Challenge.cw_boughttwice_k19_names_of_refusals_holds
