import PyProof.Rows.All
import Wide.All
import OpenK.AllK
import Wide.FinOn
import HandS.ForMost
import HandS.Exc
import HandS.TryOnly
import HandS.ExcOwn
import HandS.IsInst
import HandS.TupAny
import HandS.TupLe
import HandS.Deep
import HandS.SortInts
import HandS.Zip
import HandS.Walk
import HandS.Wide
import HandS.Conv
import HandS.Style
import HandS.TupMul
import HandS.Codes
import KE.DataCmp
import KE.SortData
import KE.GoesMore
import PySem.Challenge.RW_namescopied_k11_whole_rings_capped_by_li
set_option Elab.async false
set_option linter.all false
set_option autoImplicit false
set_option maxRecDepth 100000
set_option exponentiation.threshold 5000
namespace Dn
open PySem PySem.Spec PyProof.Rows L2

/-! ### data -/
/-- data that never change -/
inductive D where
  | non | bl (b : Bool) | int (i : Int) | str (x : Str)
  | lst (xs : List D) | tup (xs : List D)
  | ins (C : Addr) (fs : List (Str × D))
/-- data with an owner: a list, an object that may change -/
inductive M where
  | p (d : D)
  | ml (xs : List D)
  | mi (C : Addr) (fs : List (Str × M))
mutual
def frz : M → D
  | .p d => d
  | .ml xs => .lst xs
  | .mi C fs => .ins C (frzF fs)
def frzF : List (Str × M) → List (Str × D)
  | [] => []
  | (k, m) :: r => (k, frz m) :: frzF r
end

variable {K : PySem.W.Frag}
mutual
inductive RepD (K : PySem.W.Frag) (G : Hp) : V → D → Prop
  | non : RepD K G .non .non
  | bl (b : Bool) : RepD K G (.bl b) (.bl b)
  | int (i : Int) : RepD K G (.int i) (.int i)
  | str (x : Str) : RepD K G (.str x) (.str x)
  | lst {a : Addr} {vs : List V} {ds : List D} : SqL K G a vs → RepDs K G vs ds → RepD K G (.ref a) (.lst ds)
  | tup {a : Addr} {vs : List V} {ds : List D} : SqT K G a vs → RepDs K G vs ds → RepD K G (.ref a) (.tup ds)
  | ins {a C dx : Addr} {vs : List (Str × V)} {fs : List (Str × D)} : G a = some (.ins C dx vs) → RepF K G vs fs → RepD K G (.ref a) (.ins C fs)
inductive RepDs (K : PySem.W.Frag) (G : Hp) : List V → List D → Prop
  | nil : RepDs K G [] []
  | cons {v : V} {vs : List V} {d : D} {ds : List D} : RepD K G v d → RepDs K G vs ds → RepDs K G (v :: vs) (d :: ds)
inductive RepF (K : PySem.W.Frag) (G : Hp) : List (Str × V) → List (Str × D) → Prop
  | nil : RepF K G [] []
  | cons {k : Str} {v : V} {vs : List (Str × V)} {d : D} {ds : List (Str × D)} : RepD K G v d → RepF K G vs ds → RepF K G ((k, v) :: vs) ((k, d) :: ds)
end
mutual
inductive RepM (K : PySem.W.Frag) (G H : Hp) : V → M → List Addr → Prop
  | p {v : V} {d : D} : RepD K G v d → RepM K G H v (.p d) []
  | ml {a : Addr} {vs : List V} {ds : List D} : H a = some (.lst vs) → G a = none → RepDs K G vs ds → RepM K G H (.ref a) (.ml ds) [a]
  | mi {a C dx : Addr} {vs : List (Str × V)} {fs : List (Str × M)} {fp : List Addr} : H a = some (.ins C dx vs) → G a = none → RepMs K G H vs fs fp → a ∉ fp → RepM K G H (.ref a) (.mi C fs) (a :: fp)
inductive RepMs (K : PySem.W.Frag) (G H : Hp) : List (Str × V) → List (Str × M) → List Addr → Prop
  | nil : RepMs K G H [] [] []
  | cons {k : Str} {v : V} {vs : List (Str × V)} {m : M} {fs : List (Str × M)} {f1 f2 : List Addr} : RepM K G H v m f1 → RepMs K G H vs fs f2 → (∀ x ∈ f1, x ∉ f2) → RepMs K G H ((k, v) :: vs) ((k, m) :: fs) (f1 ++ f2)
end

theorem seqT_mono {G G' : Hp} {a : Addr} {xs : List V} (e : Same G G') (h : SqT K G a xs) : SqT K G' a xs := by
  rcases h with (h | ⟨o, h⟩) | h
  · exact .inl (.inl (e _ _ h))
  · exact .inl (.inr ⟨o, e _ _ h⟩)
  · exact .inr h
mutual
theorem RepD.mono {G G' : Hp} (e : Same G G') : ∀ {v : V} {d : D}, RepD K G v d → RepD K G' v d
  | _, _, .non => .non
  | _, _, .bl b => .bl b
  | _, _, .int i => .int i
  | _, _, .str x => .str x
  | _, _, .lst h t => .lst (e.seq h) (RepDs.mono e t)
  | _, _, .tup h t => .tup (seqT_mono e h) (RepDs.mono e t)
  | _, _, .ins h t => .ins (e _ _ h) (RepF.mono e t)
theorem RepDs.mono {G G' : Hp} (e : Same G G') : ∀ {v : List V} {d : List D}, RepDs K G v d → RepDs K G' v d
  | _, _, .nil => .nil
  | _, _, .cons h t => .cons (RepD.mono e h) (RepDs.mono e t)
theorem RepF.mono {G G' : Hp} (e : Same G G') : ∀ {v : List (Str × V)} {d : List (Str × D)}, RepF K G v d → RepF K G' v d
  | _, _, .nil => .nil
  | _, _, .cons h t => .cons (RepD.mono e h) (RepF.mono e t)
end
mutual
/-- an owned thing where its own places are kept -/
theorem RepM.move {G G' H H' : Hp} (e : Same G G') : ∀ {v : V} {m : M} {fp : List Addr}, RepM K G H v m fp → (∀ a ∈ fp, ∀ o, H a = some o → H' a = some o) → (∀ a ∈ fp, G' a = none) → RepM K G' H' v m fp
  | _, _, _, .p h, _, _ => .p (h.mono e)
  | _, _, _, .ml h g t, k, n => .ml (k _ (by simp) _ h) (n _ (by simp)) (t.mono e)
  | _, _, _, .mi h g t d, k, n => .mi (k _ (by simp) _ h) (n _ (by simp)) (RepMs.move e t (fun a ha => k a (by simp [ha])) fun a ha => n a (by simp [ha])) d
theorem RepMs.move {G G' H H' : Hp} (e : Same G G') : ∀ {v : List (Str × V)} {m : List (Str × M)} {fp : List Addr}, RepMs K G H v m fp → (∀ a ∈ fp, ∀ o, H a = some o → H' a = some o) → (∀ a ∈ fp, G' a = none) → RepMs K G' H' v m fp
  | _, _, _, .nil, _, _ => .nil
  | _, _, _, .cons h t d, k, n => .cons (RepM.move e h (fun a ha => k a (by simp [ha])) fun a ha => n a (by simp [ha])) (RepMs.move e t (fun a ha => k a (by simp [ha])) fun a ha => n a (by simp [ha])) d
end
mutual
/-- its places stand in H, not in G -/
theorem RepM.at_ {G H : Hp} : ∀ {v : V} {m : M} {fp : List Addr}, RepM K G H v m fp → ∀ a ∈ fp, G a = none ∧ ∃ o, H a = some o
  | _, _, _, .p _, _, ha => nomatch ha
  | _, _, _, .ml h g _, a, ha => by
    have e : a = _ := List.mem_singleton.mp ha
    subst e
    exact ⟨g, _, h⟩
  | _, _, _, .mi h g t _, a, ha => by
    rcases List.mem_cons.mp ha with e | ha
    · subst e
      exact ⟨g, _, h⟩
    · exact RepMs.at_ t a ha
theorem RepMs.at_ {G H : Hp} : ∀ {v : List (Str × V)} {m : List (Str × M)} {fp : List Addr}, RepMs K G H v m fp → ∀ a ∈ fp, G a = none ∧ ∃ o, H a = some o
  | _, _, _, .nil, _, ha => nomatch ha
  | _, _, _, .cons h t _, a, ha => by
    rcases List.mem_append.mp ha with ha | ha
    · exact RepM.at_ h a ha
    · exact RepMs.at_ t a ha
end
/-- G and the owned places as H has them -/
def frzG (G H : Hp) (fp : List Addr) : Hp := fun a => if a ∈ fp then H a else G a
theorem frzG_in {G H : Hp} {fp : List Addr} {a : Addr} (h : a ∈ fp) : frzG G H fp a = H a := if_pos h
theorem frzG_out {G H : Hp} {fp : List Addr} {a : Addr} (h : a ∉ fp) : frzG G H fp a = G a := if_neg h
theorem frzG_sub {G H : Hp} {fp : List Addr} (e : Same G H) : Same (frzG G H fp) H := fun a o h => by
  by_cases q : a ∈ fp
  · rw [frzG_in q] at h; exact h
  · rw [frzG_out q] at h; exact e a o h
theorem frzG_up {G H : Hp} {fp : List Addr} (e : Same G H) : Same G (frzG G H fp) := fun a o h => by
  by_cases q : a ∈ fp
  · rw [frzG_in q]; exact e a o h
  · rw [frzG_out q]; exact h
mutual
theorem RepM.freeze {G H : Hp} (e : Same G H) (fq : List Addr) : ∀ {v : V} {m : M} {fp : List Addr}, RepM K G H v m fp → (∀ a ∈ fp, a ∈ fq) → RepD K (frzG G H fq) v (frz m)
  | _, _, _, .p h, _ => h.mono (frzG_up e)
  | _, _, _, .ml h g t, s => .lst (.inl (.inl ((frzG_in (s _ (by simp))).trans h))) (t.mono (frzG_up e))
  | _, _, _, .mi h g t d, s => .ins ((frzG_in (s _ (by simp))).trans h) (RepMs.freeze e fq t fun a ha => s a (by simp [ha]))
theorem RepMs.freeze {G H : Hp} (e : Same G H) (fq : List Addr) : ∀ {v : List (Str × V)} {m : List (Str × M)} {fp : List Addr}, RepMs K G H v m fp → (∀ a ∈ fp, a ∈ fq) → RepF K (frzG G H fq) v (frzF m)
  | _, _, _, .nil, _ => .nil
  | _, _, _, .cons h t d, s => .cons (RepM.freeze e fq h fun a ha => s a (by simp [ha])) (RepMs.freeze e fq t fun a ha => s a (by simp [ha]))
end

/-! ### slots -/
abbrev En := List (Option M)
inductive Opd where
  | val (m : M)
  | pl (i : Nat)
def Ow (F : Nat → List Addr) (a : Addr) : Prop := ∃ i, a ∈ F i
/-- the slots, the heaps -/
structure Wf (K : PySem.W.Frag) (bs : List Nat) (vs : List V) (G H : Hp) (σ : L2.St) (en : En) (F : Nat → List Addr) : Prop where
  sub : Same G H
  ln : σ.length = en.length
  at_ : ∀ i m, en[i]? = some (some m) → ∃ v, σ[i]? = some (some v) ∧ RepM K G H v m (F i)
  em : ∀ i, (∀ m, en[i]? ≠ some (some m)) → F i = []
  dj : ∀ i j a, a ∈ F i → a ∈ F j → i = j
  bs : ∀ i ∈ bs, σ[i]? = vs[i]?.map some
/-- from G, H, the owned O to G', H', O' -/
structure Fr (G H : Hp) (O : Addr → Prop) (G' H' : Hp) (O' : Addr → Prop) : Prop where
  hk : ∀ a o, H a = some o → ¬ O a → H' a = some o
  gk : Same G G'
  gn : ∀ a, G a = none → (∃ o, H a = some o) → ¬ O a → G' a = none
  on : ∀ a, O' a → O a ∨ H a = none
theorem Fr.refl {G H : Hp} {O : Addr → Prop} : Fr G H O G H O := ⟨fun _ _ h _ => h, fun _ _ h => h, fun _ h _ _ => h, fun _ h => .inl h⟩
theorem Fr.trans {G H G1 H1 G2 H2 : Hp} {O O1 O2 : Addr → Prop} (a : Fr G H O G1 H1 O1) (b : Fr G1 H1 O1 G2 H2 O2) : Fr G H O G2 H2 O2 where
  hk := fun x o h n => by
    refine b.hk x o (a.hk x o h n) fun q => ?_
    rcases a.on x q with q | q
    · exact n q
    · rw [h] at q; cases q
  gk := a.gk.trans b.gk
  gn := fun x g ⟨o, h⟩ n => by
    refine b.gn x (a.gn x g ⟨o, h⟩ n) ⟨o, a.hk x o h n⟩ fun q => ?_
    rcases a.on x q with q | q
    · exact n q
    · rw [h] at q; cases q
  on := fun x q => by
    rcases b.on x q with q | q
    · exact a.on x q
    · by_cases n : O x
      · exact .inl n
      · right
        cases h : H x with
        | none => rfl
        | some o => rw [a.hk x o h n] at q; cases q
/-- a temporary thing beside the owned ones -/
theorem RepM.frame {G H G' H' : Hp} {O O' : Addr → Prop} {v : V} {m : M} {fp : List Addr} (r : RepM K G H v m fp) (f : Fr G H O G' H' O') (n : ∀ a ∈ fp, ¬ O a) : RepM K G' H' v m fp :=
  r.move f.gk (fun a ha o h => f.hk a o h (n a ha)) fun a ha => f.gn a (r.at_ a ha).1 (r.at_ a ha).2 (n a ha)
theorem Fr.notOw {G H G' H' : Hp} {O O' : Addr → Prop} (f : Fr G H O G' H' O') {a : Addr} (n : ¬ O a) (h : ∃ o, H a = some o) : ¬ O' a := fun q => by
  obtain ⟨o, h⟩ := h
  rcases f.on a q with q | q
  · exact n q
  · rw [h] at q; cases q
/-- nothing is owned newly but at new places; nothing else moves -/
structure Ext (G H G' H' : Hp) (fp : List Addr) : Prop where
  sub : Same G' H'
  hk : Same H H'
  gk : Same G G'
  gn : ∀ a, G a = none → (∃ o, H a = some o) → G' a = none
  nw : ∀ a ∈ fp, H a = none
theorem Ext.refl {G H : Hp} (e : Same G H) : Ext G H G H [] := ⟨e, fun _ _ h => h, fun _ _ h => h, fun _ h _ => h, fun _ h => nomatch h⟩
theorem Ext.fr {G H G' H' : Hp} {O : Addr → Prop} {fp : List Addr} (e : Ext G H G' H' fp) : Fr G H O G' H' O := ⟨fun a o h _ => e.hk a o h, e.gk, fun a g h _ => e.gn a g h, fun _ h => .inl h⟩
theorem Ext.wf {G H G' H' : Hp} {fp : List Addr} {bs : List Nat} {vs : List V} {σ : L2.St} {en : En} {F : Nat → List Addr} (e : Ext G H G' H' fp) (w : Wf K bs vs G H σ en F) : Wf K bs vs G' H' σ en F :=
  ⟨e.sub, w.ln, fun i m h => by
    obtain ⟨v, h1, r⟩ := w.at_ i m h
    exact ⟨v, h1, r.move e.gk (fun a _ o q => e.hk a o q) fun a ha => e.gn a (r.at_ a ha).1 (r.at_ a ha).2⟩, w.em, w.dj, w.bs⟩
theorem Wf.owned {bs : List Nat} {vs : List V} {G H : Hp} {σ : L2.St} {en : En} {F : Nat → List Addr} (w : Wf K bs vs G H σ en F) {a : Addr} (h : Ow F a) : G a = none ∧ ∃ o, H a = some o := by
  obtain ⟨i, h⟩ := h
  by_cases q : ∃ m, en[i]? = some (some m)
  · obtain ⟨m, q⟩ := q
    obtain ⟨v, _, r⟩ := w.at_ i m q
    exact r.at_ a h
  · rw [w.em i fun m z => q ⟨m, z⟩] at h
    cases h
/-- a new list -/
theorem Ext.newL {G H : Hp} (e : Same G H) {p : Addr} {o : HO} (n : H p = none) : Ext G H G (upd H p o) [p] :=
  ⟨fun a u h => by rw [upd_ne (ne_of_none (e a u h) n)]; exact e a u h, fun a u h => by rw [upd_ne (ne_of_none h n)]; exact h, fun _ _ h => h, fun _ h _ => h, fun a h => by rw [List.mem_singleton.mp h]; exact n⟩
/-- a new thing that never changes -/
theorem Ext.newP {G H : Hp} (e : Same G H) {p : Addr} {o : HO} (n : H p = none) : Ext G H (upd G p o) (upd H p o) [] := by
  have gp : G p = none := e.free n
  refine ⟨fun a u h => ?_, fun a u h => by rw [upd_ne (ne_of_none h n)]; exact h, fun a u h => by rw [upd_ne (ne_of_none h gp)]; exact h, fun a g ⟨u, h⟩ => by rw [upd_ne (ne_of_none h n)]; exact g, fun _ h => nomatch h⟩
  by_cases q : a = p
  · subst q; rw [upd_same] at h ⊢; exact h
  · rw [upd_ne q] at h ⊢; exact e a u h
theorem Ext.trans {G H G1 H1 G2 H2 : Hp} {fp fq : List Addr} (a : Ext G H G1 H1 fp) (b : Ext G1 H1 G2 H2 fq) : Ext G H G2 H2 (fp ++ fq) where
  sub := b.sub
  hk := a.hk.trans b.hk
  gk := a.gk.trans b.gk
  gn := fun x g ⟨o, h⟩ => b.gn x (a.gn x g ⟨o, h⟩) ⟨o, a.hk x o h⟩
  nw := fun x h => by
    rcases List.mem_append.mp h with h | h
    · exact a.nw x h
    · exact a.hk.free (b.nw x h)
end Dn

namespace Dn
open PySem PySem.Spec PyProof.Rows L2

/-! ### denotations, their readings -/
abbrev FE := En → Option (Opd × En)
abbrev FV := En → Option (D × En)
abbrev FT := En → Option (Bool × En)
abbrev FO := En → Option (List Opd × En)
abbrev FL := En → Option (List D × En)
inductive Fl where
  | nx | rt (m : M) | bk | ct
abbrev FS := En → Option (Fl × En)
abbrev FG := D → En → Option En

inductive RepO (K : PySem.W.Frag) (G H : Hp) (σ : L2.St) : V → Opd → List Addr → Prop
  | val {v : V} {m : M} {fp : List Addr} : RepM K G H v m fp → RepO K G H σ v (.val m) fp
  | pl {i : Nat} {v : V} : σ[i]? = some (some v) → RepO K G H σ v (.pl i) []
/-- a temporary's places: not owned behind, owned or new ahead -/
def Tmp (H : Hp) (F F' : Nat → List Addr) (fp : List Addr) : Prop := ∀ a ∈ fp, ¬ Ow F' a ∧ (Ow F a ∨ H a = none)

section
variable (K : PySem.W.Frag) (bs : List Nat)
def rd (f : FE) : TE := fun σ H Q => ∃ vs G en F o en', Wf K bs vs G H σ en F ∧ f en = some (o, en') ∧
  ∀ G' H' F' v fp, Wf K bs vs G' H' σ en' F' → Fr G H (Ow F) G' H' (Ow F') → RepO K G' H' σ v o fp → Tmp H F F' fp → Q v H'
def rdv (f : FV) : TE := fun σ H Q => ∃ vs G en F d en', Wf K bs vs G H σ en F ∧ f en = some (d, en') ∧
  ∀ G' H' F' v, Wf K bs vs G' H' σ en' F' → Fr G H (Ow F) G' H' (Ow F') → RepD K G' v d → Q v H'
def rdt (f : FT) : TT := fun σ H Q => ∃ vs G en F b en', Wf K bs vs G H σ en F ∧ f en = some (b, en') ∧
  ∀ G' H' F', Wf K bs vs G' H' σ en' F' → Fr G H (Ow F) G' H' (Ow F') → Q b H'
/-- arguments as data -/
def rdl (f : FL) : TA := fun σ H Q => ∃ vs G en F ds en', Wf K bs vs G H σ en F ∧ f en = some (ds, en') ∧
  ∀ G' H' F' us, Wf K bs vs G' H' σ en' F' → Fr G H (Ow F) G' H' (Ow F') → RepDs K G' us ds → Q us H'
def wants (vs : List V) (G H : Hp) (F : Nat → List Addr) (E : Ends) : Fl → En → Prop
  | .nx, en' => ∀ G' H' σ' F', Wf K bs vs G' H' σ' en' F' → Fr G H (Ow F) G' H' (Ow F') → E.nx σ' H'
  | .bk, en' => ∀ G' H' σ' F', Wf K bs vs G' H' σ' en' F' → Fr G H (Ow F) G' H' (Ow F') → E.bk σ' H'
  | .ct, en' => ∀ G' H' σ' F', Wf K bs vs G' H' σ' en' F' → Fr G H (Ow F) G' H' (Ow F') → E.ct σ' H'
  | .rt m, en' => ∀ G' H' σ' F' v fp, Wf K bs vs G' H' σ' en' F' → Fr G H (Ow F) G' H' (Ow F') → RepM K G' H' v m fp → Tmp H F F' fp → E.rt v H'
def rds (f : FS) : TS := fun E σ H => ∃ vs G en F fl en', Wf K bs vs G H σ en F ∧ f en = some (fl, en') ∧ wants K bs vs G H F E fl en'
/-- a target: the thing is given -/
def rdg (g : FG) : TG := fun v σ H Q => ∃ vs G en F d en', Wf K bs vs G H σ en F ∧ RepD K G v d ∧ g d en = some en' ∧
  ∀ G' H' σ' F', Wf K bs vs G' H' σ' en' F' → Fr G H (Ow F) G' H' (Ow F') → Q σ' H'
end

section
variable {K : PySem.W.Frag} {bs : List Nat} {vs : List V} {G H G' H' : Hp} {σ : L2.St} {en en' : En} {F F' : Nat → List Addr} {X : Cx}
theorem _root_.L2.PE.imp {e : Expr} {t t' : TE} (h : PE X e t) (i : ∀ σ H Q, t' σ H Q → t σ H Q) : PE X e t' := ⟨fun pins s σ H Q I q => h.run pins s σ H Q I (i σ H Q q)⟩
theorem _root_.L2.PT.imp {e : Expr} {t t' : TT} (h : PT X e t) (i : ∀ σ H Q, t' σ H Q → t σ H Q) : PT X e t' := ⟨fun pins s σ H Q I q => h.run pins s σ H Q I (i σ H Q q)⟩
theorem _root_.L2.PW.imp {e : Expr} {t t' : TT} (h : PW X e t) (i : ∀ σ H Q, t' σ H Q → t σ H Q) : PW X e t' := ⟨fun wh pins s σ H Q I q => h.run wh pins s σ H Q I (i σ H Q q)⟩
theorem _root_.L2.PA.imp {es : List Expr} {t t' : TA} (h : PA X es t) (i : ∀ σ H Q, t' σ H Q → t σ H Q) : PA X es t' := ⟨fun pos pins s σ H Q I q => h.run pos pins s σ H Q I (i σ H Q q)⟩
theorem _root_.L2.PS.imp {st : Stmt} {t t' : TS} (h : PS X st t) (i : ∀ E σ H, t' E σ H → t E σ H) : PS X st t' := ⟨fun pins s σ H E I q => h.run pins s σ H E I (i E σ H q)⟩
theorem _root_.L2.PSs.imp {st : List Stmt} {t t' : TS} (h : PSs X st t) (i : ∀ E σ H, t' E σ H → t E σ H) : PSs X st t' := ⟨fun pins s σ H E I q => h.run pins s σ H E I (i E σ H q)⟩

theorem Tmp.nil {F F' : Nat → List Addr} : Tmp H F F' [] := fun _ h => nomatch h
theorem Tmp.ext {fp : List Addr} (w : Wf K bs vs G H σ en F) (e : Ext G H G' H' fp) : Tmp H F F fp := fun a ha => And.intro (fun q => by
  obtain ⟨_, o, h⟩ := w.owned q
  rw [e.nw a ha] at h
  cases h) (Or.inr (e.nw a ha))
/-- fp beside O1 ahead of a further step stays beside what is owned behind it -/
theorem Tmp.step {G1 H1 G2 H2 : Hp} {F1 F2 : Nat → List Addr} {fp : List Addr} (t : Tmp H F F1 fp) (hp : ∀ a ∈ fp, ∃ o, H1 a = some o) (f : Fr G1 H1 (Ow F1) G2 H2 (Ow F2)) : Tmp H F F2 fp :=
  fun a ha => ⟨f.notOw (t a ha).1 (hp a ha), (t a ha).2⟩
theorem Tmp.back {G1 H1 : Hp} {F1 F2 : Nat → List Addr} {fp : List Addr} (f : Fr G H (Ow F) G1 H1 (Ow F1)) (t : Tmp H1 F1 F2 fp) : Tmp H F F2 fp :=
  fun a ha => And.intro (t a ha).1 (by
    rcases (t a ha).2 with q | q
    · exact f.on a q
    · by_cases n : Ow F a
      · exact .inl n
      · right
        cases h : H a with
        | none => rfl
        | some o => rw [f.hk a o h n] at q; cases q)

/-- a temporary is made to stay for ever -/
theorem Wf.frzT {v : V} {m : M} {fp : List Addr} (w : Wf K bs vs G H σ en F) (r : RepM K G H v m fp) (n : ∀ a ∈ fp, ¬ Ow F a) : Wf K bs vs (frzG G H fp) H σ en F :=
  ⟨frzG_sub w.sub, w.ln, fun i m' h => by
    obtain ⟨u, h1, q⟩ := w.at_ i m' h
    exact ⟨u, h1, q.move (frzG_up w.sub) (fun _ _ _ z => z) fun a ha => by rw [frzG_out fun z => n a z ⟨i, ha⟩]; exact (q.at_ a ha).1⟩, w.em, w.dj, w.bs⟩
theorem Fr.frzT {G0 H0 : Hp} {O O' : Addr → Prop} {v : V} {m : M} {fp : List Addr} (f : Fr G0 H0 O G H O') (s : Same G H) (n : ∀ a ∈ fp, O a ∨ H0 a = none) : Fr G0 H0 O (frzG G H fp) H O' :=
  ⟨f.hk, f.gk.trans (frzG_up s), fun a g h no => by
    have q : a ∉ fp := fun z => by
      rcases n a z with z | z
      · exact no z
      · obtain ⟨o, h⟩ := h
        rw [z] at h; cases h
    rw [frzG_out q]; exact f.gn a g h no, f.on⟩
def cut (F : Nat → List Addr) (i : Nat) (fp : List Addr) : Nat → List Addr := fun j => if j = i then fp else F j
theorem cut_at {i : Nat} {fp : List Addr} : cut F i fp i = fp := if_pos rfl
theorem cut_ne {i j : Nat} {fp : List Addr} (h : j ≠ i) : cut F i fp j = F j := if_neg h
theorem Ow.cut {i : Nat} {fp : List Addr} {a : Addr} (h : Ow (cut F i fp) a) : a ∈ fp ∨ (a ∉ F i → Ow F a) ∧ ∃ j, j ≠ i ∧ a ∈ F j := by
  obtain ⟨j, h⟩ := h
  by_cases e : j = i
  · subst e; rw [cut_at] at h; exact .inl h
  · rw [cut_ne e] at h; exact .inr ⟨fun _ => ⟨j, h⟩, j, e, h⟩
/-- the slot i gets a thing that is held beside what is owned -/
theorem Wf.put {i : Nat} {v : V} {m : M} {fp : List Addr} (w : Wf K bs vs G H σ en F) (r : RepM K G H v m fp) (n : ∀ a ∈ fp, ∀ j, j ≠ i → a ∉ F j) (hi : i ∉ bs) (hl : i < en.length) : Wf K bs vs G H (σ.set i (some v)) (en.set i (some m)) (cut F i fp) := by
  have hl' : i < σ.length := by rw [w.ln]; exact hl
  refine ⟨w.sub, by rw [List.length_set, List.length_set]; exact w.ln, fun j m' h => ?_, fun j h => ?_, fun j k a h1 h2 => ?_, fun j hj => ?_⟩
  · by_cases e : i = j
    · subst e
      rw [List.getElem?_set_self hl] at h
      cases h
      exact ⟨v, List.getElem?_set_self hl', by rw [cut_at]; exact r⟩
    · rw [List.getElem?_set_ne e] at h ⊢
      rw [cut_ne (Ne.symm e)]
      exact w.at_ j m' h
  · by_cases e : i = j
    · subst e
      exact absurd (List.getElem?_set_self hl) (h m)
    · rw [cut_ne (Ne.symm e)]
      exact w.em j fun m' q => h m' (by rw [List.getElem?_set_ne e]; exact q)
  · by_cases e1 : j = i <;> by_cases e2 : k = i
    · rw [e1, e2]
    · rw [e1, cut_at] at h1
      rw [cut_ne e2] at h2
      exact absurd h2 (n a h1 k e2)
    · rw [e2, cut_at] at h2
      rw [cut_ne e1] at h1
      exact absurd h1 (n a h2 j e1)
    · rw [cut_ne e1] at h1
      rw [cut_ne e2] at h2
      exact w.dj j k a h1 h2
  · rw [List.getElem?_set_ne fun e => hi (by rw [e]; exact hj)]
    exact w.bs j hj
/-- the slot i is forgotten -/
theorem Wf.drop {i : Nat} (w : Wf K bs vs G H σ en F) : Wf K bs vs G H σ (en.set i none) (cut F i []) := by
  refine ⟨w.sub, by rw [List.length_set]; exact w.ln, fun j m' h => ?_, fun j h => ?_, fun j k a h1 h2 => ?_, w.bs⟩
  · by_cases e : i = j
    · subst e
      by_cases hl : i < en.length
      · rw [List.getElem?_set_self hl] at h; cases h
      · rw [List.getElem?_eq_none (by rw [List.length_set]; omega)] at h; cases h
    · rw [List.getElem?_set_ne e] at h
      rw [cut_ne (Ne.symm e)]
      exact w.at_ j m' h
  · by_cases e : j = i
    · rw [e, cut_at]
    · rw [cut_ne e]
      exact w.em j fun m' q => h m' (by rw [List.getElem?_set_ne (Ne.symm e)]; exact q)
  · by_cases e1 : j = i
    · rw [e1, cut_at] at h1; cases h1
    · by_cases e2 : k = i
      · rw [e2, cut_at] at h2; cases h2
      · rw [cut_ne e1] at h1
        rw [cut_ne e2] at h2
        exact w.dj j k a h1 h2
/-- what the slot i holds changes where it stands -/
theorem Wf.upd_ {i : Nat} {v : V} {m : M} {fp : List Addr} (w : Wf K bs vs G H σ en F) (f : Fr G H (fun a => a ∈ F i) G' H' (fun a => a ∈ fp)) (sub : Same G' H') (hv : σ[i]? = some (some v)) (r : RepM K G' H' v m fp) : Wf K bs vs G' H' σ (en.set i (some m)) (cut F i fp) := by
  have hl : i < en.length := by rw [← w.ln]; exact (List.getElem?_eq_some_iff.mp hv).1
  have nw : ∀ j a, j ≠ i → a ∈ F j → a ∉ F i := fun j a e h q => e (w.dj j i a h q)
  refine ⟨sub, by rw [List.length_set]; exact w.ln, fun j m' h => ?_, fun j h => ?_, fun j k a h1 h2 => ?_, w.bs⟩
  · by_cases e : i = j
    · subst e
      rw [List.getElem?_set_self hl] at h
      cases h
      exact ⟨v, hv, by rw [cut_at]; exact r⟩
    · rw [List.getElem?_set_ne e] at h
      rw [cut_ne (Ne.symm e)]
      obtain ⟨u, h1, q⟩ := w.at_ j m' h
      exact ⟨u, h1, q.frame f fun a ha => nw j a (Ne.symm e) ha⟩
  · by_cases e : j = i
    · subst e
      exact absurd (List.getElem?_set_self hl) (h m)
    · rw [cut_ne e]
      exact w.em j fun m' q => h m' (by rw [List.getElem?_set_ne (Ne.symm e)]; exact q)
  · have out : ∀ k a, k ≠ i → a ∈ F k → a ∉ fp := fun k a e h q => by
      rcases f.on a q with z | z
      · exact nw k a e h z
      · obtain ⟨_, o, h'⟩ := w.owned ⟨k, h⟩
        rw [z] at h'; cases h'
    by_cases e1 : j = i <;> by_cases e2 : k = i
    · rw [e1, e2]
    · rw [e1, cut_at] at h1
      rw [cut_ne e2] at h2
      exact absurd h1 (out k a e2 h2)
    · rw [e2, cut_at] at h2
      rw [cut_ne e1] at h1
      exact absurd h2 (out j a e1 h1)
    · rw [cut_ne e1] at h1
      rw [cut_ne e2] at h2
      exact w.dj j k a h1 h2
theorem Fr.cut {i : Nat} {fp : List Addr} (f : Fr G H (fun a => a ∈ F i) G' H' (fun a => a ∈ fp)) : Fr G H (Ow F) G' H' (Ow (cut F i fp)) :=
  ⟨fun a o h n => f.hk a o h fun q => n ⟨i, q⟩, f.gk, fun a g h n => f.gn a g h fun q => n ⟨i, q⟩, fun a q => by
    rcases q.cut with q | ⟨_, j, _, q⟩
    · rcases f.on a q with z | z
      · exact .inl ⟨i, z⟩
      · exact .inr z
    · exact .inl ⟨j, q⟩⟩
theorem RepM.frS {v : V} {m : M} {fp : List Addr} (r : RepM K G H v m fp) (s : Same G H) : Fr G H (fun a => a ∈ fp) (frzG G H fp) H (fun a => a ∈ ([] : List Addr)) :=
  ⟨fun _ _ h _ => h, frzG_up s, fun a g _ n => by rw [frzG_out n]; exact g, fun _ h => nomatch h⟩

/-! ### a thing as data: whatever is owned is made to stay -/
def plV (i : Nat) (en : En) : Option (D × En) := match en[i]? with
  | some (some m) => some (frz m, en.set i (some (.p (frz m))))
  | _ => none
def toV (o : Opd) (en : En) : Option (D × En) := match o with
  | .val m => some (frz m, en)
  | .pl i => plV i en
def fV (f : FE) : FV := fun en => (f en).bind fun (o, e) => toV o e
theorem toV_ok {v : V} {o : Opd} {fp : List Addr} {d : D} {G1 H1 : Hp} {F1 : Nat → List Addr} {e1 : En} (w : Wf K bs vs G1 H1 σ e1 F1) (f : Fr G H (Ow F) G1 H1 (Ow F1)) (r : RepO K G1 H1 σ v o fp) (t : Tmp H F F1 fp) (e : toV o e1 = some (d, en')) :
    ∃ G2 F2, Wf K bs vs G2 H1 σ en' F2 ∧ Fr G H (Ow F) G2 H1 (Ow F2) ∧ RepD K G2 v d := by
  cases r with
  | @val _ m _ r =>
    have e' : some (frz m, e1) = some (d, en') := e
    cases e'
    exact ⟨_, F1, w.frzT r fun a ha => (t a ha).1, f.frzT (v := v) (m := m) w.sub fun a ha => (t a ha).2, r.freeze w.sub _ fun _ h => h⟩
  | @pl i _ h =>
    have e : plV i e1 = some (d, en') := e
    unfold plV at e
    split at e
    · next m q =>
      cases e
      obtain ⟨u, h1, r⟩ := w.at_ i m q
      rw [h] at h1
      cases h1
      have fr := r.frS w.sub
      have R := r.freeze w.sub (F1 i) fun _ h => h
      exact ⟨_, cut F1 i [], w.upd_ fr (frzG_sub w.sub) h (.p R), f.trans (Fr.cut fr), R⟩
    · cases e
theorem dv {e : Expr} {f : FE} (h : PE X e (rd X.K bs f)) : PE X e (rdv X.K bs (fV f)) := by
  refine L2.PE.imp h fun σ H Q q => ?_
  obtain ⟨vs, G, en, F, d, en', w, hf, k⟩ := q
  unfold fV at hf
  obtain ⟨⟨o, e1⟩, h1, h2⟩ := Option.bind_eq_some_iff.mp hf
  refine ⟨vs, G, en, F, o, e1, w, h1, fun G1 H1 F1 v fp w1 f1 r1 t1 => ?_⟩
  obtain ⟨G2, F2, w2, f2, r2⟩ := toV_ok w1 f1 r1 t1 h2
  exact k G2 H1 F2 v w2 f2 r2
/-- what an operand holds now -/
def cont (en : En) : Opd → Option M
  | .val m => some m
  | .pl i => (en[i]?).join
theorem cont_ok {v : V} {o : Opd} {fp : List Addr} {m : M} {G1 H1 : Hp} {F1 : Nat → List Addr} (r : RepO K G1 H1 σ v o fp) (t : Tmp H F F1 fp) (f : Fr G1 H1 (Ow F1) G H' (Ow F')) (w : Wf K bs vs G H' σ en F') (e : cont en o = some m) : ∃ fq, RepM K G H' v m fq := by
  cases r with
  | val r =>
    cases e
    exact ⟨fp, r.frame f fun a ha => (t a ha).1⟩
  | @pl i _ h =>
    have e' : en[i]? = some (some m) := by
      have e2 : (en[i]?).join = some m := e
      cases q : en[i]? with
      | none => rw [q] at e2; cases e2
      | some x =>
        rw [q] at e2
        cases x with
        | none => cases e2
        | some y =>
          have : some y = some m := e2
          rw [this]
    obtain ⟨u, h1, r⟩ := w.at_ i m e'
    rw [h] at h1
    cases h1
    exact ⟨_, r⟩
end
end Dn

namespace Dn
open PySem PySem.Spec PyProof.Rows L2

section
variable {K : PySem.W.Frag} {bs : List Nat} {vs : List V} {G H G' H' : Hp} {σ : L2.St} {en en' : En} {F F' : Nat → List Addr} {X : Cx}

/-! ### names, constants -/
def slotM (en : En) (i : Nat) : Option M := (en[i]?).join
theorem slotM_some {i : Nat} {m : M} (h : slotM en i = some m) : en[i]? = some (some m) := by
  unfold slotM at h
  cases q : en[i]? with
  | none => rw [q] at h; cases h
  | some x =>
    rw [q] at h
    cases x with
    | none => cases h
    | some y =>
      have : some y = some m := h
      rw [this]
def fName (i : Nat) : FE := fun en => (slotM en i).bind fun _ => some (.pl i, en)
theorem de_name (i : Nat) {x : Str} {pos : Pos} (hN : X.N[i]? = some x := by rfl) (hv : Vis X.env.scope x := by first | exact Or.inl rfl | exact Or.inr (Or.inl rfl) | exact Or.inr (Or.inr rfl)) (hd : (x == ("__debug__" : Str)) = false := by decide)
    (hcd : (x == ("__classdict__" : Str)) = false := by decide) : PE X (.Name x pos) (rd X.K bs (fName i)) := (pe_var hN hv hd hcd).imp fun σ H Q q => by
  obtain ⟨vs, G, en, F, o, en', w, hf, k⟩ := q
  obtain ⟨m, h1, h2⟩ := Option.bind_eq_some_iff.mp hf
  cases h2
  obtain ⟨v, hv, r⟩ := w.at_ i m (slotM_some h1)
  exact ⟨v, hv, k G H F v [] w Fr.refl (.pl hv) Tmp.nil⟩
def fC (d : D) : FE := fun en => some (.val (.p d), en)
theorem de_c {e : Expr} {v : V} {d : D} (h : PE X e (tC v)) (r : ∀ G, RepD X.K G v d) : PE X e (rd X.K bs (fC d)) := h.imp fun σ H Q q => by
  obtain ⟨vs, G, en, F, o, en', w, hf, k⟩ := q
  cases hf
  exact k G H F v [] w Fr.refl (.val (.p (r G))) Tmp.nil
theorem de_int {i j pos} : PE X (.Constant (.int i) j pos) (rd X.K bs (fC (.int i))) := de_c pe_int fun _ => .int i
theorem de_bl {b j pos} : PE X (.Constant (.bool b) j pos) (rd X.K bs (fC (.bl b))) := de_c pe_bl fun _ => .bl b
theorem de_non {j pos} : PE X (.Constant .none j pos) (rd X.K bs (fC .non)) := de_c pe_non fun _ => .non
theorem de_str {x j pos} : PE X (.Constant (.str x) j pos) (rd X.K bs (fC (.str x))) := de_c pe_str fun _ => .str x
/-- a module's constant -/
theorem de_gint {x : Str} {i : Int} {t : Tok} {pos : Pos} (hm : X.mg x = some (.int i t)) (hg : Gl X x := by rfl) (hd : (x == ("__debug__" : Str)) = false := by decide) : PE X (.Name x pos) (rd X.K bs (fC (.int i))) := de_c (pe_glob (v := .int i) hg hm ⟨t, rfl⟩ hd) fun _ => .int i
theorem de_gstr {x y : Str} {t : Tok} {pos : Pos} (hm : X.mg x = some (.str y t)) (hg : Gl X x := by rfl) (hd : (x == ("__debug__" : Str)) = false := by decide) : PE X (.Name x pos) (rd X.K bs (fC (.str y))) := de_c (pe_glob (v := .str y) hg hm ⟨t, rfl⟩ hd) fun _ => .str y

/-! ### what a rule by values gives -/
def Res (K : PySem.W.Frag) (G H : Hp) (m : M) (Q : VK) : Prop := ∀ G' H' v fp, Ext G H G' H' fp → RepM K G' H' v m fp → Q v H'
theorem Res.d {d : D} {v : V} {Q : VK} (q : Res K G H (.p d) Q) (e : Same G H) (r : RepD K G v d) : Q v H := q G H v [] (Ext.refl e) (.p r)
theorem Res.list {ds : List D} {us : List V} {p : Addr} {Q : VK} (q : Res K G H (.ml ds) Q) (e : Same G H) (r : RepDs K G us ds) (n : H p = none) : Q (.ref p) (upd H p (.lst us)) :=
  q G _ (.ref p) [p] (Ext.newL e n) (.ml upd_same (e.free n) r)
theorem Res.tup {ds : List D} {us : List V} {p : Addr} {Q : VK} (q : Res K G H (.p (.tup ds)) Q) (e : Same G H) (r : RepDs K G us ds) (n : H p = none) : Q (.ref p) (upd H p (.tup us)) :=
  q _ _ (.ref p) [] (Ext.newP e n) (.p (.tup (.inl (.inl upd_same)) (r.mono fun a o h => by rw [upd_ne (ne_of_none h (e.free n))]; exact h)))
def Bi (K : PySem.W.Frag) (r : R2) (g : M → M → Option M) : Prop := ∀ (G H : Hp) (x y : V) (mx my : M) (fx fy : List Addr) (m : M) (Q : VK),
  Same G H → RepM K G H x mx fx → RepM K G H y my fy → g mx my = some m → Res K G H m Q → r x y H Q
def Un1 (K : PySem.W.Frag) (r : V → Hp → VK → Prop) (g : M → Option M) : Prop := ∀ (G H : Hp) (x : V) (mx : M) (fx : List Addr) (m : M) (Q : VK),
  Same G H → RepM K G H x mx fx → g mx = some m → Res K G H m Q → r x H Q
def fBin (g : M → M → Option M) (fa fb : FE) : FE := fun en => (fa en).bind fun oa => (fb oa.2).bind fun ob => (cont ob.2 oa.1).bind fun ma => (cont ob.2 ob.1).bind fun mb => (g ma mb).map fun m => (.val m, ob.2)
def fUn (g : M → Option M) (fa : FE) : FE := fun en => (fa en).bind fun oa => (cont oa.2 oa.1).bind fun ma => (g ma).map fun m => (.val m, oa.2)
/-- a rule's result, for the one who asked -/
theorem Res.fin {Q : VK} {m : M} (w : Wf K bs vs G' H' σ en' F') (f : Fr G H (Ow F) G' H' (Ow F')) (k : ∀ G' H' F' v fp, Wf K bs vs G' H' σ en' F' → Fr G H (Ow F) G' H' (Ow F') → RepO K G' H' σ v (.val m) fp → Tmp H F F' fp → Q v H') : Res K G' H' m Q := fun G2 H2 v fp e r =>
  k G2 H2 F' v fp (e.wf w) (f.trans e.fr) (.val r) (Tmp.back f (Tmp.ext w e))
theorem rd_bin {r : R2} {g : M → M → Option M} {fa fb : FE} (hb : Bi K r g) (σ : L2.St) (H : Hp) (Q : VK) (q : rd K bs (fBin g fa fb) σ H Q) : tOp r (rd K bs fa) (rd K bs fb) σ H Q := by
  obtain ⟨vs, G, en, F, o, en', w, hf, k⟩ := q
  obtain ⟨⟨oa, e1⟩, h1, hf⟩ := Option.bind_eq_some_iff.mp hf
  obtain ⟨⟨ob, e2⟩, h2, hf⟩ := Option.bind_eq_some_iff.mp hf
  obtain ⟨ma, h3, hf⟩ := Option.bind_eq_some_iff.mp hf
  obtain ⟨mb, h4, hf⟩ := Option.bind_eq_some_iff.mp hf
  obtain ⟨m, h5, hf⟩ := Option.map_eq_some_iff.mp hf
  cases hf
  refine ⟨vs, G, en, F, oa, e1, w, h1, fun G1 H1 F1 x fx w1 f1 r1 t1 => ⟨vs, G1, e1, F1, ob, e2, w1, h2, fun G2 H2 F2 y fy w2 f2 r2 t2 => ?_⟩⟩
  obtain ⟨_, c1⟩ := cont_ok r1 t1 f2 w2 h3
  obtain ⟨_, c2⟩ := cont_ok r2 t2 Fr.refl w2 h4
  exact hb G2 H2 x y ma mb _ _ m Q w2.sub c1 c2 h5 (Res.fin w2 (f1.trans f2) k)
theorem rd_un {r : V → Hp → VK → Prop} {g : M → Option M} {fa : FE} (hb : Un1 K r g) (σ : L2.St) (H : Hp) (Q : VK) (q : rd K bs (fUn g fa) σ H Q) : rd K bs fa σ H fun x H1 => r x H1 Q := by
  obtain ⟨vs, G, en, F, o, en', w, hf, k⟩ := q
  obtain ⟨⟨oa, e1⟩, h1, hf⟩ := Option.bind_eq_some_iff.mp hf
  obtain ⟨ma, h3, hf⟩ := Option.bind_eq_some_iff.mp hf
  obtain ⟨m, h5, hf⟩ := Option.map_eq_some_iff.mp hf
  cases hf
  refine ⟨vs, G, en, F, oa, e1, w, h1, fun G1 H1 F1 x fx w1 f1 r1 t1 => ?_⟩
  obtain ⟨_, c1⟩ := cont_ok r1 t1 Fr.refl w1 h3
  exact hb G1 H1 x ma _ m Q w1.sub c1 h5 (Res.fin w1 f1 k)
section
variable {a b : Expr} {fa fb fc : FE} {pos : Pos}
theorem de_bin {op : Operator} {r : R2} {g : M → M → Option M} (ho : OpR X (binaryOp op) r) (h : Bi X.K r g) (ha : PE X a (rd X.K bs fa)) (hb : PE X b (rd X.K bs fb)) : PE X (.BinOp a op b pos) (rd X.K bs (fBin g fa fb)) := (pe_op ho ha hb).imp fun σ H Q => rd_bin h σ H Q
theorem de_cmp {op : CmpOp} {r : R2} {g : M → M → Option M} (ho : OpR X (compareOp op) r) (h : Bi X.K r g) (ha : PE X a (rd X.K bs fa)) (hb : PE X b (rd X.K bs fb)) (hm : behindInMarks op b = false := by first | exact nomark _ | rfl) : PE X (.Compare a [op] [b] pos) (rd X.K bs (fBin g fa fb)) :=
  (pe_cmpR ho ha hb hm).imp fun σ H Q => rd_bin h σ H Q
theorem de_unop {op : UnaryOp} {r : V → Hp → VK → Prop} {g : M → Option M} (ho : UnR X (unaryOp op) r) (h : Un1 X.K r g) (ha : PE X a (rd X.K bs fa)) : PE X (.UnaryOp op a pos) (rd X.K bs (fUn g fa)) := (pe_un ho ha).imp fun σ H Q => rd_un h σ H Q
theorem de_ix {r : R2} {g : M → M → Option M} (ho : IxR X r) (h : Bi X.K r g) (ha : PE X a (rd X.K bs fa)) (hb : PE X b (rd X.K bs fb)) (hs : PlainIx b := by exact fun _ _ => rfl) : PE X (.Subscript a b pos) (rd X.K bs (fBin g fa fb)) := (pe_ix ho ha hb hs).imp fun σ H Q => rd_bin h σ H Q

/-! ### tests -/
def blM : M → Option Bool
  | .p (.bl b) => some b
  | _ => none
theorem blM_some {m : M} {b : Bool} (h : blM m = some b) : m = .p (.bl b) := by
  unfold blM at h
  split at h
  · cases h; rfl
  · cases h
def fB (f : FE) : FT := fun en => (f en).bind fun oa => ((cont oa.2 oa.1).bind blM).map fun b => (b, oa.2)
theorem rd_B {f : FE} (σ : L2.St) (H : Hp) (Q : Bool → Hp → Prop) (q : rdt K bs (fB f) σ H Q) : rd K bs f σ H fun x H1 => ∃ c, x = .bl c ∧ Q c H1 := by
  obtain ⟨vs, G, en, F, b, en', w, hf, k⟩ := q
  obtain ⟨⟨oa, e1⟩, h1, hf⟩ := Option.bind_eq_some_iff.mp hf
  obtain ⟨b', h2, hf⟩ := Option.map_eq_some_iff.mp hf
  obtain ⟨m, h3, h4⟩ := Option.bind_eq_some_iff.mp h2
  cases hf
  refine ⟨vs, G, en, F, oa, e1, w, h1, fun G1 H1 F1 x fx w1 f1 r1 t1 => ?_⟩
  obtain ⟨_, c1⟩ := cont_ok r1 t1 Fr.refl w1 h3
  have e := blM_some h4
  subst e
  cases c1 with
  | p r => cases r; exact ⟨_, rfl, k G1 H1 F1 w1 f1⟩
theorem dt_val (h : PE X a (rd X.K bs fa)) (he : ∀ whole, isTrue a X.env whole = (do let v ← whole; standAt a.pos; holding [v] (truthy v)) := by intro _; rfl) : PT X a (rdt X.K bs (fB fa)) := (pt_val h he).imp fun σ H Q => rd_B σ H Q
theorem dt_cmp {op : CmpOp} {r : R2} {g : M → M → Option M} (ho : OpR X (compareOp op) r) (h : Bi X.K r g) (ha : PE X a (rd X.K bs fa)) (hb : PE X b (rd X.K bs fb)) (hm : behindInMarks op b = false := by first | exact nomark _ | rfl) : PT X (.Compare a [op] [b] pos) (rdt X.K bs (fB (fBin g fa fb))) :=
  (pt_cmpR ho ha hb hm).imp fun σ H Q q => rd_bin h σ H _ (rd_B σ H Q q)
def fChain (g g' : M → M → Option M) (fa fb fc : FE) : FE := fun en => (fa en).bind fun oa => (fb oa.2).bind fun ob => (cont ob.2 oa.1).bind fun ma => (cont ob.2 ob.1).bind fun mb => ((g ma mb).bind blM).bind fun b =>
  if b then (fc ob.2).bind fun oc => (cont oc.2 ob.1).bind fun mb' => (cont oc.2 oc.1).bind fun mc => (g' mb' mc).map fun m => (.val m, oc.2) else some (.val (.p (.bl false)), ob.2)
theorem rd_chain {r r' : R2} {g g' : M → M → Option M} {fa fb fc : FE} (hb : Bi K r g) (hb' : Bi K r' g') (σ : L2.St) (H : Hp) (Q : VK) (q : rd K bs (fChain g g' fa fb fc) σ H Q) : tChain r r' (rd K bs fa) (rd K bs fb) (rd K bs fc) σ H Q := by
  obtain ⟨vs, G, en, F, o, en', w, hf, k⟩ := q
  obtain ⟨⟨oa, e1⟩, h1, hf⟩ := Option.bind_eq_some_iff.mp hf
  obtain ⟨⟨ob, e2⟩, h2, hf⟩ := Option.bind_eq_some_iff.mp hf
  obtain ⟨ma, h3, hf⟩ := Option.bind_eq_some_iff.mp hf
  obtain ⟨mb, h4, hf⟩ := Option.bind_eq_some_iff.mp hf
  obtain ⟨b, h5, hf⟩ := Option.bind_eq_some_iff.mp hf
  obtain ⟨m, h5, h6⟩ := Option.bind_eq_some_iff.mp h5
  have e := blM_some h6
  subst e
  refine ⟨vs, G, en, F, oa, e1, w, h1, fun G1 H1 F1 x fx w1 f1 r1 t1 => ⟨vs, G1, e1, F1, ob, e2, w1, h2, fun G2 H2 F2 y fy w2 f2 r2 t2 => ?_⟩⟩
  obtain ⟨_, c1⟩ := cont_ok r1 t1 f2 w2 h3
  obtain ⟨_, c2⟩ := cont_ok r2 t2 Fr.refl w2 h4
  refine hb G2 H2 x y ma mb _ _ _ _ w2.sub c1 c2 h5 fun G3 H3 v fp e3 r3 => ?_
  cases r3 with
  | p r3 =>
    cases r3
    refine ⟨_, rfl, ?_⟩
    have w3 := e3.wf w2
    have f3 : Fr G H (Ow F) G3 H3 (Ow F2) := (f1.trans f2).trans e3.fr
    cases b with
    | false =>
      rw [if_neg Bool.false_ne_true]
      have hf' : some (Opd.val (.p (.bl false)), e2) = some (o, en') := hf
      cases hf'
      exact k G3 H3 F2 _ [] w3 f3 (.val (.p (.bl false))) Tmp.nil
    | true =>
      rw [if_pos rfl]
      rw [if_pos rfl] at hf
      obtain ⟨⟨oc, e4⟩, h7, hf⟩ := Option.bind_eq_some_iff.mp hf
      obtain ⟨mb', h8, hf⟩ := Option.bind_eq_some_iff.mp hf
      obtain ⟨mc, h9, hf⟩ := Option.bind_eq_some_iff.mp hf
      obtain ⟨m', h10, hf⟩ := Option.map_eq_some_iff.mp hf
      cases hf
      refine ⟨vs, G3, e2, F2, oc, e4, w3, h7, fun G4 H4 F4 z fz w4 f4 r4 t4 => ?_⟩
      obtain ⟨_, c3⟩ := cont_ok r2 t2 (e3.fr.trans f4) w4 h8
      obtain ⟨_, c4⟩ := cont_ok r4 t4 Fr.refl w4 h9
      exact hb' G4 H4 y z mb' mc _ _ m' Q w4.sub c3 c4 h10 (Res.fin w4 (f3.trans f4) k)
variable {c : Expr} {ft fu : FT}
theorem de_chain {op op' : CmpOp} {r r' : R2} {g g' : M → M → Option M} (ho : OpR X (compareOp op) r) (ho' : OpR X (compareOp op') r') (h : Bi X.K r g) (h' : Bi X.K r' g') (ha : PE X a (rd X.K bs fa)) (hb : PE X b (rd X.K bs fb)) (hc : PE X c (rd X.K bs fc))
    (hm : lastMarks [op, op'] [b, c] = false := by rfl) : PE X (.Compare a [op, op'] [b, c] pos) (rd X.K bs (fChain g g' fa fb fc)) := (pe_chain ho ho' ha hb hc hm).imp fun σ H Q => rd_chain h h' σ H Q
theorem dt_chain {op op' : CmpOp} {r r' : R2} {g g' : M → M → Option M} (ho : OpR X (compareOp op) r) (ho' : OpR X (compareOp op') r') (h : Bi X.K r g) (h' : Bi X.K r' g') (ha : PE X a (rd X.K bs fa)) (hb : PE X b (rd X.K bs fb)) (hc : PE X c (rd X.K bs fc))
    (hm : lastMarks [op, op'] [b, c] = false := by rfl) : PT X (.Compare a [op, op'] [b, c] pos) (rdt X.K bs (fB (fChain g g' fa fb fc))) := (pt_chain ho ho' ha hb hc hm).imp fun σ H Q q => rd_chain h h' σ H _ (rd_B σ H Q q)
def fAnd (fa fb : FT) : FT := fun en => (fa en).bind fun p => if p.1 then fb p.2 else some (false, p.2)
def fOr (fa fb : FT) : FT := fun en => (fa en).bind fun p => if p.1 then some (true, p.2) else fb p.2
def fNot (fa : FT) : FT := fun en => (fa en).map fun p => (!p.1, p.2)
variable {rest : List Expr}
theorem dw_and1 (ha : PT X a (rdt X.K bs ft)) : PW X (.BoolOp .And [a] pos) (rdt X.K bs ft) := pw_and1 ha
theorem dw_or1 (ha : PT X a (rdt X.K bs ft)) : PW X (.BoolOp .Or [a] pos) (rdt X.K bs ft) := pw_or1 ha
theorem dw_and (ha : PT X a (rdt X.K bs ft)) (hb : PW X (.BoolOp .And (b :: rest) pos) (rdt X.K bs fu)) : PW X (.BoolOp .And (a :: b :: rest) pos) (rdt X.K bs (fAnd ft fu)) := (pw_and ha hb).imp fun σ H Q q => by
  obtain ⟨vs, G, en, F, o, en', w, hf, k⟩ := q
  obtain ⟨⟨b1, e1⟩, h1, hf⟩ := Option.bind_eq_some_iff.mp hf
  refine ⟨vs, G, en, F, b1, e1, w, h1, fun G1 H1 F1 w1 f1 => ?_⟩
  cases b1 with
  | true =>
    rw [if_pos rfl] at hf ⊢
    exact ⟨vs, G1, e1, F1, o, en', w1, hf, fun G2 H2 F2 w2 f2 => k G2 H2 F2 w2 (f1.trans f2)⟩
  | false =>
    rw [if_neg Bool.false_ne_true] at hf ⊢
    cases hf
    exact k G1 H1 F1 w1 f1
theorem dw_or (ha : PT X a (rdt X.K bs ft)) (hb : PW X (.BoolOp .Or (b :: rest) pos) (rdt X.K bs fu)) : PW X (.BoolOp .Or (a :: b :: rest) pos) (rdt X.K bs (fOr ft fu)) := (pw_or ha hb).imp fun σ H Q q => by
  obtain ⟨vs, G, en, F, o, en', w, hf, k⟩ := q
  obtain ⟨⟨b1, e1⟩, h1, hf⟩ := Option.bind_eq_some_iff.mp hf
  refine ⟨vs, G, en, F, b1, e1, w, h1, fun G1 H1 F1 w1 f1 => ?_⟩
  cases b1 with
  | true =>
    rw [if_pos rfl] at hf ⊢
    cases hf
    exact k G1 H1 F1 w1 f1
  | false =>
    rw [if_neg Bool.false_ne_true] at hf ⊢
    exact ⟨vs, G1, e1, F1, o, en', w1, hf, fun G2 H2 F2 w2 f2 => k G2 H2 F2 w2 (f1.trans f2)⟩
theorem dt_not (ha : PT X a (rdt X.K bs ft)) : PT X (.UnaryOp .Not a pos) (rdt X.K bs (fNot ft)) := (pt_not ha).imp fun σ H Q q => by
  obtain ⟨vs, G, en, F, o, en', w, hf, k⟩ := q
  obtain ⟨⟨b1, e1⟩, h1, hf⟩ := Option.map_eq_some_iff.mp hf
  cases hf
  exact ⟨vs, G, en, F, b1, e1, w, h1, fun G1 H1 F1 w1 f1 => k G1 H1 F1 w1 f1⟩
/-! as values -/
def fAndV (fa fb : FE) : FE := fun en => (fa en).bind fun oa => ((cont oa.2 oa.1).bind blM).bind fun b => if b then fb oa.2 else some (.val (.p (.bl false)), oa.2)
def fOrV (fa fb : FE) : FE := fun en => (fa en).bind fun oa => ((cont oa.2 oa.1).bind blM).bind fun b => if b then some (.val (.p (.bl true)), oa.2) else fb oa.2
def fNotV (fa : FE) : FE := fun en => (fa en).bind fun oa => ((cont oa.2 oa.1).bind blM).map fun b => (.val (.p (.bl (!b))), oa.2)
theorem de_one {op} (h : PE X a (rd X.K bs fa)) : PE X (.BoolOp op [a] pos) (rd X.K bs fa) := pe_one h
theorem rd_bl {o : Opd} {e1 : En} {b : Bool} {G1 H1 : Hp} {F1 : Nat → List Addr} {x : V} {fx : List Addr} (w1 : Wf K bs vs G1 H1 σ e1 F1) (r1 : RepO K G1 H1 σ x o fx) (t1 : Tmp H F F1 fx) (h2 : (cont e1 o).bind blM = some b) : x = .bl b := by
  obtain ⟨m, h3, h4⟩ := Option.bind_eq_some_iff.mp h2
  obtain ⟨_, c1⟩ := cont_ok r1 t1 Fr.refl w1 h3
  have e := blM_some h4
  subst e
  cases c1 with
  | p r => cases r; rfl
theorem de_and (ha : PE X a (rd X.K bs fa)) (hb : PE X (.BoolOp .And (b :: rest) pos) (rd X.K bs fb)) : PE X (.BoolOp .And (a :: b :: rest) pos) (rd X.K bs (fAndV fa fb)) := (pe_and ha hb).imp fun σ H Q q => by
  obtain ⟨vs, G, en, F, o, en', w, hf, k⟩ := q
  obtain ⟨⟨o1, e1⟩, h1, hf⟩ := Option.bind_eq_some_iff.mp hf
  obtain ⟨b1, h2, hf⟩ := Option.bind_eq_some_iff.mp hf
  refine ⟨vs, G, en, F, o1, e1, w, h1, fun G1 H1 F1 x fx w1 f1 r1 t1 => ⟨b1, rd_bl w1 r1 t1 h2, ?_⟩⟩
  cases b1 with
  | true =>
    rw [if_pos rfl] at hf ⊢
    exact ⟨vs, G1, e1, F1, o, en', w1, hf, fun G2 H2 F2 v fp w2 f2 r2 t2 => k G2 H2 F2 v fp w2 (f1.trans f2) r2 (Tmp.back f1 t2)⟩
  | false =>
    rw [if_neg Bool.false_ne_true] at hf ⊢
    cases hf
    exact k G1 H1 F1 _ [] w1 f1 (.val (.p (.bl false))) Tmp.nil
theorem de_or (ha : PE X a (rd X.K bs fa)) (hb : PE X (.BoolOp .Or (b :: rest) pos) (rd X.K bs fb)) : PE X (.BoolOp .Or (a :: b :: rest) pos) (rd X.K bs (fOrV fa fb)) := (pe_or ha hb).imp fun σ H Q q => by
  obtain ⟨vs, G, en, F, o, en', w, hf, k⟩ := q
  obtain ⟨⟨o1, e1⟩, h1, hf⟩ := Option.bind_eq_some_iff.mp hf
  obtain ⟨b1, h2, hf⟩ := Option.bind_eq_some_iff.mp hf
  refine ⟨vs, G, en, F, o1, e1, w, h1, fun G1 H1 F1 x fx w1 f1 r1 t1 => ⟨b1, rd_bl w1 r1 t1 h2, ?_⟩⟩
  cases b1 with
  | true =>
    rw [if_pos rfl] at hf ⊢
    cases hf
    exact k G1 H1 F1 _ [] w1 f1 (.val (.p (.bl true))) Tmp.nil
  | false =>
    rw [if_neg Bool.false_ne_true] at hf ⊢
    exact ⟨vs, G1, e1, F1, o, en', w1, hf, fun G2 H2 F2 v fp w2 f2 r2 t2 => k G2 H2 F2 v fp w2 (f1.trans f2) r2 (Tmp.back f1 t2)⟩
theorem de_not (ha : PE X a (rd X.K bs fa)) : PE X (.UnaryOp .Not a pos) (rd X.K bs (fNotV fa)) := (pe_not ha).imp fun σ H Q q => by
  obtain ⟨vs, G, en, F, o, en', w, hf, k⟩ := q
  obtain ⟨⟨o1, e1⟩, h1, hf⟩ := Option.bind_eq_some_iff.mp hf
  obtain ⟨b1, h2, hf⟩ := Option.map_eq_some_iff.mp hf
  cases hf
  exact ⟨vs, G, en, F, o1, e1, w, h1, fun G1 H1 F1 x fx w1 f1 r1 t1 => ⟨b1, rd_bl w1 r1 t1 h2, k G1 H1 F1 _ [] w1 f1 (.val (.p (.bl _))) Tmp.nil⟩⟩
def fIfE (ft : FT) (fa fb : FE) : FE := fun en => (ft en).bind fun p => if p.1 then fa p.2 else fb p.2
theorem de_ifExp (ht : PT X c (rdt X.K bs ft)) (ha : PE X a (rd X.K bs fa)) (hb : PE X b (rd X.K bs fb)) : PE X (.IfExp c a b pos) (rd X.K bs (fIfE ft fa fb)) := (pe_ifExp ht ha hb).imp fun σ H Q q => by
  obtain ⟨vs, G, en, F, o, en', w, hf, k⟩ := q
  obtain ⟨⟨b1, e1⟩, h1, hf⟩ := Option.bind_eq_some_iff.mp hf
  refine ⟨vs, G, en, F, b1, e1, w, h1, fun G1 H1 F1 w1 f1 => ?_⟩
  cases b1 with
  | true =>
    rw [if_pos rfl] at hf ⊢
    exact ⟨vs, G1, e1, F1, o, en', w1, hf, fun G2 H2 F2 v fp w2 f2 r2 t2 => k G2 H2 F2 v fp w2 (f1.trans f2) r2 (Tmp.back f1 t2)⟩
  | false =>
    rw [if_neg Bool.false_ne_true] at hf ⊢
    exact ⟨vs, G1, e1, F1, o, en', w1, hf, fun G2 H2 F2 v fp w2 f2 r2 t2 => k G2 H2 F2 v fp w2 (f1.trans f2) r2 (Tmp.back f1 t2)⟩
end
end
end Dn

namespace Dn
open PySem PySem.Spec PyProof.Rows L2

/-! ### data as the library has it -/
mutual
def pyD : D → PyData
  | .non => .none
  | .bl b => .bool b
  | .int i => .int i
  | .str x => .str x
  | .lst xs => .list (pyDs xs)
  | .tup xs => .tuple (pyDs xs)
  | .ins _ _ => .none
def pyDs : List D → List PyData
  | [] => []
  | x :: r => pyD x :: pyDs r
end
mutual
def okD : D → Bool
  | .lst xs => okDs xs
  | .tup xs => okDs xs
  | .ins _ _ => false
  | .str x => PyData.strOk x
  | _ => true
def okDs : List D → Bool
  | [] => true
  | x :: r => okD x && okDs r
end
theorem pyDs_map : ∀ xs : List D, pyDs xs = xs.map pyD
  | [] => rfl
  | x :: r => by rw [pyDs, pyDs_map r]; rfl
theorem okDs_all : ∀ xs : List D, okDs xs = xs.all okD
  | [] => rfl
  | x :: r => by rw [okDs, okDs_all r]; rfl
section
variable {K : PySem.W.Frag} {G H : Hp} {X : Cx}
mutual
theorem RepD.dp (e : Same G H) : ∀ {v : V} {d : D}, RepD K G v d → okD d = true → Dp K H v (pyD d)
  | _, _, .non, _ => .non
  | _, _, .bl b, _ => .bl b
  | _, _, .int i, _ => .int i
  | _, _, .str x, _ => .str x
  | _, _, .lst h t, o => .lst (e.seq h) (RepDs.dp e t o)
  | _, _, .tup h t, o => .tup (seqT_mono e h) (RepDs.dp e t o)
  | _, _, .ins h t, o => nomatch o
theorem RepDs.dp (e : Same G H) : ∀ {v : List V} {d : List D}, RepDs K G v d → okDs d = true → DpAll K H v (pyDs d)
  | _, _, .nil, _ => .nil
  | _, _, .cons h t, o => .cons (RepD.dp e h (Bool.and_eq_true_iff.mp o).1) (RepDs.dp e t (Bool.and_eq_true_iff.mp o).2)
end
theorem RepDs.length : ∀ {us : List V} {ds : List D}, RepDs K G us ds → us.length = ds.length
  | _, _, .nil => rfl
  | _, _, .cons _ t => congrArg (· + 1) (RepDs.length t)
theorem RepDs.get : ∀ {us : List V} {ds : List D}, RepDs K G us ds → ∀ {i : Nat} {d : D}, ds[i]? = some d → ∃ v, us[i]? = some v ∧ RepD K G v d
  | _, _, .nil, _, _, e => by simp at e
  | _, _, .cons r t, 0, d, e => by
    simp only [List.getElem?_cons_zero, Option.some.injEq] at e
    subst e
    exact ⟨_, rfl, r⟩
  | _, _, .cons r t, i + 1, d, e => by
    obtain ⟨v, h1, h2⟩ := RepDs.get t (i := i) (d := d) (by simpa using e)
    exact ⟨v, by simpa using h1, h2⟩
theorem RepDs.get' : ∀ {us : List V} {ds : List D}, RepDs K G us ds → ∀ {i : Nat} {v : V}, us[i]? = some v → ∃ d, ds[i]? = some d ∧ RepD K G v d
  | _, _, .nil, _, _, e => by simp at e
  | _, _, .cons r t, 0, v, e => by
    simp only [List.getElem?_cons_zero, Option.some.injEq] at e
    subst e
    exact ⟨_, rfl, r⟩
  | _, _, .cons r t, i + 1, v, e => by
    obtain ⟨d, h1, h2⟩ := RepDs.get' t (i := i) (v := v) (by simpa using e)
    exact ⟨d, by simpa using h1, h2⟩
theorem RepDs.append : ∀ {us ws : List V} {ds es : List D}, RepDs K G us ds → RepDs K G ws es → RepDs K G (us ++ ws) (ds ++ es)
  | _, _, _, _, .nil, s => s
  | _, _, _, _, .cons r t, s => .cons r (RepDs.append t s)
theorem RepDs.take : ∀ {us : List V} {ds : List D}, RepDs K G us ds → ∀ n, RepDs K G (us.take n) (ds.take n)
  | _, _, .nil, n => by simpa using RepDs.nil
  | _, _, .cons r t, 0 => .nil
  | _, _, .cons r t, n + 1 => .cons r (RepDs.take t n)
theorem RepDs.drop : ∀ {us : List V} {ds : List D}, RepDs K G us ds → ∀ n, RepDs K G (us.drop n) (ds.drop n)
  | _, _, .nil, n => by simpa using RepDs.nil
  | _, _, .cons r t, 0 => .cons r t
  | _, _, .cons r t, n + 1 => RepDs.drop t n
theorem RepDs.set : ∀ {us : List V} {ds : List D} {v : V} {d : D}, RepDs K G us ds → RepD K G v d → ∀ n, RepDs K G (us.set n v) (ds.set n d)
  | _, _, _, _, .nil, _, _ => .nil
  | _, _, _, _, .cons r t, q, 0 => .cons q t
  | _, _, _, _, .cons r t, q, n + 1 => .cons r (RepDs.set t q n)
theorem RepDs.rep : ∀ {us : List V} {ds : List D}, RepDs K G us ds → ∀ n, RepDs K G (List.replicate n us).flatten (List.replicate n ds).flatten
  | _, _, r, 0 => .nil
  | _, _, r, n + 1 => by
    rw [List.replicate_succ, List.replicate_succ, List.flatten_cons, List.flatten_cons]
    exact r.append (RepDs.rep r n)
theorem RepDs.empty {ds : List D} (r : RepDs K G [] ds) : ds = [] := by cases r; rfl

/-! ### views -/
def intM : M → Option Int
  | .p (.int i) => some i
  | _ => none
def strM : M → Option Str
  | .p (.str i) => some i
  | _ => none
/-- a list's items, whoever owns it -/
def lstM : M → Option (List D)
  | .p (.lst xs) => some xs
  | .ml xs => some xs
  | _ => none
def tupM : M → Option (List D)
  | .p (.tup xs) => some xs
  | _ => none
theorem intM_some {m : M} {i : Int} (h : intM m = some i) : m = .p (.int i) := by
  unfold intM at h
  split at h
  · cases h; rfl
  · cases h
theorem strM_some {m : M} {i : Str} (h : strM m = some i) : m = .p (.str i) := by
  unfold strM at h
  split at h
  · cases h; rfl
  · cases h
theorem tupM_some {m : M} {xs : List D} (h : tupM m = some xs) : m = .p (.tup xs) := by
  unfold tupM at h
  split at h
  · cases h; rfl
  · cases h
theorem RepM.int {v : V} {i : Int} {fp : List Addr} (r : RepM K G H v (.p (.int i)) fp) : v = .int i := by cases r with | p r => cases r; rfl
theorem RepM.str {v : V} {i : Str} {fp : List Addr} (r : RepM K G H v (.p (.str i)) fp) : v = .str i := by cases r with | p r => cases r; rfl
theorem RepM.bl {v : V} {i : Bool} {fp : List Addr} (r : RepM K G H v (.p (.bl i)) fp) : v = .bl i := by cases r with | p r => cases r; rfl
theorem RepM.d {v : V} {d : D} {fp : List Addr} (r : RepM K G H v (.p d) fp) : RepD K G v d := by cases r with | p r => exact r
theorem RepM.lst {v : V} {m : M} {xs : List D} {fp : List Addr} (e : Same G H) (r : RepM K G H v m fp) (h : lstM m = some xs) : ∃ a us, v = .ref a ∧ SqL K H a us ∧ RepDs K G us xs := by
  cases r with
  | p r =>
    cases r with
    | lst h1 h2 => cases h; exact ⟨_, _, rfl, e.seq h1, h2⟩
    | _ => cases h
  | ml h1 h2 h3 => cases h; exact ⟨_, _, rfl, .inl (.inl h1), h3⟩
  | mi => cases h
theorem RepM.tup {v : V} {xs : List D} {fp : List Addr} (e : Same G H) (r : RepM K G H v (.p (.tup xs)) fp) : ∃ a us, v = .ref a ∧ SqT K H a us ∧ RepDs K G us xs := by
  cases r with
  | p r => cases r with
    | tup h1 h2 => exact ⟨_, _, rfl, seqT_mono e h1, h2⟩
/-- the whole as the library's data -/
def dataM : M → Option D
  | .p d => if okD d then some d else none
  | .ml xs => if okDs xs then some (.lst xs) else none
  | .mi _ _ => none
theorem RepM.dp {v : V} {m : M} {d : D} {fp : List Addr} (e : Same G H) (r : RepM K G H v m fp) (h : dataM m = some d) : Dp K H v (pyD d) := by
  cases r with
  | @p _ d0 r =>
    have h' : (if okD d0 = true then some d0 else none) = some d := h
    by_cases o : okD d0 = true
    · rw [if_pos o] at h'
      cases h'
      exact r.dp e o
    · rw [if_neg o] at h'; cases h'
  | @ml a us ds h1 h2 h3 =>
    have h' : (if okDs ds = true then some (D.lst ds) else none) = some d := h
    by_cases o : okDs ds = true
    · rw [if_pos o] at h'
      cases h'
      exact .lst (.inl (.inl h1)) (h3.dp e o)
    · rw [if_neg o] at h'; cases h'
  | mi => cases h

/-! ### numbers -/
def lim : Nat := 1000000
theorem lim_line : lim ≤ sizeLine := by decide
def int2 (f : Int → Int → Option M) (a b : M) : Option M := (intM a).bind fun i => (intM b).bind fun j => f i j
theorem bi_int {r : R2} {f : Int → Int → Option M} (h : ∀ (i j : Int) (G H : Hp) (m : M) (Q : VK), Same G H → f i j = some m → Res K G H m Q → r (.int i) (.int j) H Q) : Bi K r (int2 f) := fun G H x y mx my fx fy m Q e rx ry hg q => by
  obtain ⟨i, h1, z1⟩ := Option.bind_eq_some_iff.mp hg
  obtain ⟨j, h2, z2⟩ := Option.bind_eq_some_iff.mp z1
  have e1 := intM_some h1
  have e2 := intM_some h2
  subst e1 e2
  rw [rx.int, ry.int]
  exact h i j G H m Q e z2 q
def pI (i : Int) : M := .p (.int i)
def pB (b : Bool) : M := .p (.bl b)
theorem bi_rI0 (f : Int → Int → Int) : Bi K (rI0 fun i j => .int (f i j)) (int2 fun i j => some (pI (f i j))) := bi_int fun i j G H m Q e h q => by
  cases h
  exact ⟨i, j, rfl, rfl, q.d e (.int _)⟩
theorem bi_rI0b (f : Int → Int → Bool) : Bi K (rI0 fun i j => .bl (f i j)) (int2 fun i j => some (pB (f i j))) := bi_int fun i j G H m Q e h q => by
  cases h
  exact ⟨i, j, rfl, rfl, q.d e (.bl _)⟩
theorem bi_rI {C : Int → Int → Prop} {c : Int → Int → Bool} (f : Int → Int → Int) (hc : ∀ i j, c i j = true → C i j) : Bi K (rI C fun i j => .int (f i j)) (int2 fun i j => if c i j then some (pI (f i j)) else none) := bi_int fun i j G H m Q e h q => by
  by_cases o : c i j = true
  · rw [if_pos o] at h
    cases h
    exact ⟨i, j, rfl, rfl, hc i j o, q.d e (.int _)⟩
  · rw [if_neg o] at h; cases h
/-- small enough for every rule -/
def sm (i : Int) : Bool := decide (i.natAbs < 2 ^ 4096)
theorem sm_log {i : Int} (h : sm i = true) : i.natAbs.log2 < 4096 := by
  have h' : i.natAbs < 2 ^ 4096 := of_decide_eq_true h
  exact PySem.Flt.log2_lt_of (by omega) h'
def gMinus : M → M → Option M := int2 fun i j => some (pI (i - j))
def gMulI : M → M → Option M := int2 fun i j => if sm i && sm j then some (pI (i * j)) else none
def gFdiv : M → M → Option M := int2 fun i j => if decide (0 < j) && sm j then some (pI (i / j)) else none
def gMod : M → M → Option M := int2 fun i j => if decide (0 < j) then some (pI (i % j)) else none
def gPow : M → M → Option M := int2 fun i j => if decide (0 ≤ j) && decide (j ≤ 1000) && decide (i.natAbs < 2 ^ 64) then some (pI (i ^ j.toNat)) else none
theorem bi_sub : Bi K (rI0 fun i j => .int (i - j)) gMinus := bi_rI0 _
theorem bi_mulI : Bi K (rI CMulW fun i j => .int (i * j)) gMulI := bi_rI (c := fun i j => sm i && sm j) _ fun i j h => by
  have h1 := sm_log (Bool.and_eq_true_iff.mp h).1
  have h2 := sm_log (Bool.and_eq_true_iff.mp h).2
  show i.natAbs.log2 + j.natAbs.log2 < 1000000
  omega
theorem bi_fdiv : Bi K (rI CDivW fun i j => .int (i / j)) gFdiv := bi_rI (c := fun i j => decide (0 < j) && sm j) _ fun i j h =>
  ⟨of_decide_eq_true (Bool.and_eq_true_iff.mp h).1, Nat.lt_trans (sm_log (Bool.and_eq_true_iff.mp h).2) (by decide)⟩
theorem bi_mod : Bi K (rI (fun _ j => 0 < j) fun i j => .int (i % j)) gMod := bi_rI (c := fun _ j => decide (0 < j)) _ fun i j h => of_decide_eq_true h
theorem bi_pow : Bi K (rI CPow fun i j => .int (i ^ j.toNat)) gPow := bi_rI (c := fun i j => decide (0 ≤ j) && decide (j ≤ 1000) && decide (i.natAbs < 2 ^ 64)) _ fun i j h => by
  simp only [Bool.and_eq_true, decide_eq_true_eq] at h
  exact ⟨h.1.1, by omega, h.2⟩
def gNeg (a : M) : Option M := (intM a).map fun i => pI (-i)
theorem un_gNeg : Un1 K (rU fun i => .int (-i)) gNeg := fun G H x mx fx m Q e rx hg q => by
  obtain ⟨i, h1, h2⟩ := Option.map_eq_some_iff.mp hg
  have e1 := intM_some h1
  subst e1
  cases h2
  exact ⟨i, rx.int, q.d e (.int _)⟩
/-! ### the joining of rules: the first that serves -/
def orG (f g : M → M → Option M) (a b : M) : Option M := match f a b with
  | some m => some m
  | none => g a b
theorem bi_or {r r' : R2} {f g : M → M → Option M} (h : Bi K r f) (h' : Bi K r' g) : Bi K (fun x y H Q => r x y H Q ∨ r' x y H Q) (orG f g) := fun G H x y mx my fx fy m Q e rx ry hg q => by
  unfold orG at hg
  split at hg
  · next m' hm =>
    cases hg
    exact .inl (h G H x y mx my fx fy _ Q e rx ry hm q)
  · exact .inr (h' G H x y mx my fx fy m Q e rx ry hg q)
/-! ### a + b, a * b -/
def rCatL (K : PySem.W.Frag) : R2 := fun x y H Q => ∃ l b xs zs, x = .ref l ∧ y = .ref b ∧ SqL K H l xs ∧ SqL K H b zs ∧ xs.length + zs.length ≤ sizeLine ∧ ∀ p, H p = none → Q (.ref p) (upd H p (.lst (xs ++ zs)))
theorem op_catL : OpR X (binaryOp .Add) (rCatL X.K) := by
  intro pins s σ H x y v u Q I rx ry h
  obtain ⟨l, b, xs, zs, rfl, rfl, hH, hB, hz, q⟩ := h
  cases rx
  cases ry
  obtain ⟨its, r, ⟨⟨cls, dd, data, sl⟩, n, ho, hc, hd0, hd⟩, z⟩ := I.list hH
  obtain ⟨its2, r2, ⟨⟨cls2, dd2, data2, sl2⟩, n2, ho2, hc2, hd20, hd2⟩, z2⟩ := I.list hB
  simp only at hc hd hc2 hd2 hd0 hd20
  subst hc hd hc2 hd2 hd0 hd20
  have e : its.toArray ++ its2.toArray = (its ++ its2).toArray := by simp
  refine concat_meets ⟨_, ho, rfl⟩ ⟨_, ho2, rfl⟩ noFill_list_add seq_list_add PySem.F.slot_list_add PySem.F.entry_list_add (PySem.F.args_list_add_2 _ _) (list_addW l b its.toArray its2.toArray n n2 none none sl sl2 (by rw [List.size_toArray, List.size_toArray, ← r.length, ← r2.length]; exact hz)) ⟨ho, ho2, ?_⟩
  rw [e]
  exact ⟨.ref _, _, I.lnew (t' := s.toks) (r.append r2) (by rw [List.length_append]; omega), rfl, q _ I.fresh⟩
def gCatL (a b : M) : Option M := (lstM a).bind fun xs => (lstM b).bind fun ys => if xs.length + ys.length ≤ lim then some (.ml (xs ++ ys)) else none
theorem bi_catL : Bi K (rCatL K) gCatL := fun G H x y mx my fx fy m Q e rx ry hg q => by
  obtain ⟨xs, h1, z1⟩ := Option.bind_eq_some_iff.mp hg
  obtain ⟨ys, h2, z2⟩ := Option.bind_eq_some_iff.mp z1
  obtain ⟨a, us, rfl, sa, ra⟩ := rx.lst e h1
  obtain ⟨b, ws, rfl, sb, rb⟩ := ry.lst e h2
  by_cases o : xs.length + ys.length ≤ lim
  · rw [if_pos o] at z2
    cases z2
    refine ⟨a, b, us, ws, rfl, rfl, sa, sb, ?_, fun p n => q.list e (ra.append rb) n⟩
    rw [ra.length, rb.length]
    exact Nat.le_trans o lim_line
  · rw [if_neg o] at z2; cases z2
def gCatT (a b : M) : Option M := (tupM a).bind fun xs => (tupM b).bind fun ys => if xs.length + ys.length ≤ lim then some (.p (.tup (xs ++ ys))) else none
theorem bi_catT : Bi K (rCatA K) gCatT := fun G H x y mx my fx fy m Q e rx ry hg q => by
  obtain ⟨xs, h1, z1⟩ := Option.bind_eq_some_iff.mp hg
  obtain ⟨ys, h2, z2⟩ := Option.bind_eq_some_iff.mp z1
  have e1 := tupM_some h1
  have e2 := tupM_some h2
  subst e1 e2
  obtain ⟨a, us, rfl, sa, ra⟩ := rx.tup e
  obtain ⟨b, ws, rfl, sb, rb⟩ := ry.tup e
  by_cases o : xs.length + ys.length ≤ lim
  · rw [if_pos o] at z2
    cases z2
    refine ⟨a, b, us, ws, rfl, rfl, sa, sb, ?_, fun z => ?_, fun z z' => ?_, fun z z' p n => q.tup e (ra.append rb) n⟩
    · rw [ra.length, rb.length]
      exact Nat.le_trans o lim_line
    · subst z
      have := ra.empty
      subst this
      exact q.d e ry.d
    · subst z'
      have := rb.empty
      subst this
      rw [List.append_nil] at q
      exact q.d e rx.d
  · rw [if_neg o] at z2; cases z2
def gCatS (a b : M) : Option M := (strM a).bind fun x => (strM b).bind fun y => if x.length + y.length ≤ lim then some (.p (.str (x ++ y))) else none
theorem bi_catS : Bi K (fun x y H Q => ∃ i j, x = .str i ∧ y = .str j ∧ i.length + j.length ≤ sizeLine ∧ Q (.str (i ++ j)) H) gCatS := fun G H x y mx my fx fy m Q e rx ry hg q => by
  obtain ⟨xs, h1, z1⟩ := Option.bind_eq_some_iff.mp hg
  obtain ⟨ys, h2, z2⟩ := Option.bind_eq_some_iff.mp z1
  have e1 := strM_some h1
  have e2 := strM_some h2
  subst e1 e2
  by_cases o : xs.length + ys.length ≤ lim
  · rw [if_pos o] at z2
    cases z2
    exact ⟨xs, ys, rx.str, ry.str, Nat.le_trans o lim_line, q.d e (.str _)⟩
  · rw [if_neg o] at z2; cases z2
def gAddI : M → M → Option M := int2 fun i j => some (pI (i + j))
def gAdd : M → M → Option M := orG gAddI (orG gCatT (orG gCatL gCatS))
def rI0i (f : Int → Int → Int) : R2 := rI0 fun i j => .int (f i j)
abbrev orR (r r' : R2) : R2 := fun x y H Q => r x y H Q ∨ r' x y H Q
abbrev rCatS : R2 := fun x y H Q => ∃ i j, x = .str i ∧ y = .str j ∧ i.length + j.length ≤ sizeLine ∧ Q (.str (i ++ j)) H
abbrev rAddA (K : PySem.W.Frag) : R2 := orR (rI0 fun i j => .int (i + j)) (orR (rCatA K) (orR (rCatL K) rCatS))
theorem op_addA : OpR X (binaryOp .Add) (rAddA X.K) := (op_add (X := X)).or (op_catA.or (op_catL.or op_add_str))
theorem bi_add : Bi K (rAddA K) gAdd := bi_or (bi_rI0 (K := K) fun i j => i + j) (bi_or bi_catT (bi_or bi_catL bi_catS))
/-- a list times a number -/
def rRepL (K : PySem.W.Frag) : R2 := rRep
def gRepL (a b : M) : Option M := match a with
  | .ml xs => (intM b).bind fun k => if decide (-(2 ^ 63) ≤ k) && decide (k < 2 ^ 63) && decide (xs.length * k.toNat ≤ lim) then some (.ml (List.replicate k.toNat xs).flatten) else none
  | _ => none
theorem bi_repL : Bi K rRep gRepL := fun G H x y mx my fx fy m Q e rx ry hg q => by
  unfold gRepL at hg
  split at hg
  · next xs =>
    obtain ⟨k, h2, z1⟩ := Option.bind_eq_some_iff.mp hg
    have e2 := intM_some h2
    subst e2
    split at z1
    · next o =>
      simp only [Bool.and_eq_true, decide_eq_true_eq] at o
      cases z1
      cases rx with
      | ml h1 h2 h3 =>
        refine ⟨_, k, _, rfl, ry.int, h1, o.1.1, o.1.2, ?_, fun p n => q.list e (h3.rep _) n⟩
        rw [h3.length]
        exact Nat.le_trans o.2 lim_line
    · cases z1
  · cases hg
/-- a tuple times a number, two or more -/
def gRepT (a b : M) : Option M := (tupM a).bind fun xs => (intM b).bind fun k => if !xs.isEmpty && (decide (2 ≤ k) && (decide (k ≤ 1000) && decide (xs.length ≤ 1000))) then some (.p (.tup (List.replicate k.toNat xs).flatten)) else none
theorem bi_repT : Bi K (rRepT K) gRepT := fun G H x y mx my fx fy m Q e rx ry hg q => by
  obtain ⟨xs, h1, z1⟩ := Option.bind_eq_some_iff.mp hg
  obtain ⟨k, h2, z2⟩ := Option.bind_eq_some_iff.mp z1
  have e1 := tupM_some h1
  have e2 := intM_some h2
  subst e1 e2
  split at z2
  · next o =>
    simp only [Bool.and_eq_true, decide_eq_true_eq, Bool.not_eq_true', List.isEmpty_eq_false_iff] at o
    cases z2
    obtain ⟨a, us, rfl, h3, h4⟩ := rx.tup e
    refine ⟨a, k, us, rfl, ry.int, h3, fun z => ?_, o.2.1, o.2.2.1, by rw [h4.length]; exact o.2.2.2, fun p n => q.tup e (h4.rep _) n⟩
    subst z
    exact o.1 h4.empty
  · cases z2
def gMul : M → M → Option M := orG gMulI (orG gRepL gRepT)
abbrev rMulA (K : PySem.W.Frag) : R2 := orR (rI CMulW fun i j => .int (i * j)) (orR rRep (rRepT K))
theorem op_mulA : OpR X (binaryOp .Mult) (rMulA X.K) := (op_mulW (X := X)).or (op_rep.or op_repT)
theorem bi_mul : Bi K (rMulA K) gMul := bi_or bi_mulI (bi_or (bi_repL (K := K)) bi_repT)
/-! ### comparisons -/
def gNon2 (neg : Bool) (a b : M) : Option M := match b with
  | .p .non => some (pB (match a with | .p .non => !neg | _ => neg))
  | _ => none
theorem isNon_of {v : V} {m : M} {fp : List Addr} (r : RepM K G H v m fp) : decide (v = .non) = (match m with | .p .non => true | _ => false) := by
  cases r with
  | p r => cases r <;> rfl
  | ml => rfl
  | mi => rfl
theorem bi_isN : Bi K (fun x y H Q => y = .non ∧ Q (.bl (decide (x = .non))) H) (gNon2 false) := fun G H x y mx my fx fy m Q e rx ry hg q => by
  unfold gNon2 at hg
  split at hg
  · cases hg
    cases ry with
    | p r =>
      cases r
      refine ⟨rfl, ?_⟩
      rw [isNon_of rx]
      have := q.d e (.bl _)
      revert this
      cases mx with
      | p d => cases d <;> exact fun z => z
      | ml _ => exact fun z => z
      | mi _ _ => exact fun z => z
  · cases hg
theorem bi_notN : Bi K (fun x y H Q => y = .non ∧ Q (.bl (!decide (x = .non))) H) (gNon2 true) := fun G H x y mx my fx fy m Q e rx ry hg q => by
  unfold gNon2 at hg
  split at hg
  · cases hg
    cases ry with
    | p r =>
      cases r
      refine ⟨rfl, ?_⟩
      rw [isNon_of rx]
      have := q.d e (.bl _)
      revert this
      cases mx with
      | p d => cases d <;> exact fun z => z
      | ml _ => exact fun z => z
      | mi _ _ => exact fun z => z
  · cases hg
/-- a == b: numbers, texts, truths, None quickly; else as data -/
def eqQ : D → D → Option Bool
  | .int i, .int j => some (decide (i = j))
  | .str x, .str y => some (decide (x = y))
  | .bl x, .bl y => some (decide (x = y))
  | .non, .non => some true
  | _, _ => none
def pD : M → Option D
  | .p d => some d
  | _ => none
theorem pD_some {m : M} {d : D} (h : pD m = some d) : m = .p d := by
  unfold pD at h
  split at h
  · cases h; rfl
  · cases h
def gEqQ (neg : Bool) (a b : M) : Option M := (pD a).bind fun x => (pD b).bind fun y => (eqQ x y).map fun k => pB (if neg then !k else k)
theorem dcI {i j : Int} : decide (V.int i = V.int j) = decide (i = j) := decide_eq_decide.mpr ⟨V.int.inj, fun e => by rw [e]⟩
theorem dcS {i j : Str} : decide (V.str i = V.str j) = decide (i = j) := decide_eq_decide.mpr ⟨V.str.inj, fun e => by rw [e]⟩
theorem dcB {i j : Bool} : decide (V.bl i = V.bl j) = decide (i = j) := decide_eq_decide.mpr ⟨V.bl.inj, fun e => by rw [e]⟩
theorem bi_eqQ : Bi K rEq (gEqQ false) := fun G H x y mx my fx fy m Q e rx ry hg q => by
  obtain ⟨d1, h1, z1⟩ := Option.bind_eq_some_iff.mp hg
  obtain ⟨d2, h2, z2⟩ := Option.bind_eq_some_iff.mp z1
  obtain ⟨k, h3, z3⟩ := Option.map_eq_some_iff.mp z2
  have e1 := pD_some h1
  have e2 := pD_some h2
  subst e1 e2
  have r1 := rx.d
  have r2 := ry.d
  cases z3
  have w := q.d e (.bl _)
  unfold eqQ at h3
  split at h3
  · cases h3; cases r1; cases r2
    exact ⟨rfl, by rw [dcI]; simpa using w⟩
  · cases h3; cases r1; cases r2
    exact ⟨rfl, by rw [dcS]; simpa using w⟩
  · cases h3; cases r1; cases r2
    exact ⟨rfl, by rw [dcB]; simpa using w⟩
  · cases h3; cases r1; cases r2
    exact ⟨rfl, w⟩
  · cases h3
theorem bi_neQ : Bi K rNe (gEqQ true) := fun G H x y mx my fx fy m Q e rx ry hg q => by
  obtain ⟨d1, h1, z1⟩ := Option.bind_eq_some_iff.mp hg
  obtain ⟨d2, h2, z2⟩ := Option.bind_eq_some_iff.mp z1
  obtain ⟨k, h3, z3⟩ := Option.map_eq_some_iff.mp z2
  have e1 := pD_some h1
  have e2 := pD_some h2
  subst e1 e2
  have r1 := rx.d
  have r2 := ry.d
  cases z3
  have w := q.d e (.bl _)
  unfold eqQ at h3
  split at h3
  · cases h3; cases r1; cases r2
    exact ⟨rfl, by rw [dcI]; simpa using w⟩
  · cases h3; cases r1; cases r2
    exact ⟨rfl, by rw [dcS]; simpa using w⟩
  · cases h3; cases r1; cases r2
    exact ⟨rfl, by rw [dcB]; simpa using w⟩
  · cases h3; cases r1; cases r2
    exact ⟨rfl, w⟩
  · cases h3
def shp (d : D) : Bool := decide ((pyD d).depth ≤ 64) && (pyD d).canLay0
def gEqD (neg : Bool) (a b : M) : Option M := (dataM a).bind fun x => (dataM b).bind fun y => if shp x && shp y then some (pB (if neg then !(PyData.eqv (pyD x) (pyD y)) else PyData.eqv (pyD x) (pyD y))) else none
theorem shp_ok {d : D} (h : shp d = true) : SeqAt.shaped (pyD d) = true := by
  unfold shp at h
  unfold SeqAt.shaped
  rw [Bool.and_comm]; exact h
theorem bi_eqD : Bi K (rEqD K) (gEqD false) := fun G H x y mx my fx fy m Q e rx ry hg q => by
  obtain ⟨d1, h1, z1⟩ := Option.bind_eq_some_iff.mp hg
  obtain ⟨d2, h2, z2⟩ := Option.bind_eq_some_iff.mp z1
  split at z2
  · next o =>
    cases z2
    exact ⟨_, _, rx.dp e h1, ry.dp e h2, shp_ok (Bool.and_eq_true_iff.mp o).1, shp_ok (Bool.and_eq_true_iff.mp o).2, q.d e (.bl _)⟩
  · cases z2
theorem bi_neD : Bi K (rNeD K) (gEqD true) := fun G H x y mx my fx fy m Q e rx ry hg q => by
  obtain ⟨d1, h1, z1⟩ := Option.bind_eq_some_iff.mp hg
  obtain ⟨d2, h2, z2⟩ := Option.bind_eq_some_iff.mp z1
  split at z2
  · next o =>
    cases z2
    exact ⟨_, _, rx.dp e h1, ry.dp e h2, shp_ok (Bool.and_eq_true_iff.mp o).1, shp_ok (Bool.and_eq_true_iff.mp o).2, q.d e (.bl _)⟩
  · cases z2
def gEq : M → M → Option M := orG (gEqQ false) (gEqD false)
def gNe : M → M → Option M := orG (gEqQ true) (gEqD true)
abbrev rEqA (K : PySem.W.Frag) : R2 := orR rEq (rEqD K)
abbrev rNeA (K : PySem.W.Frag) : R2 := orR rNe (rNeD K)
theorem op_eqA (hu : X.A.units + 64 < cLine) : OpR X (compareOp .Eq) (rEqA X.K) := (op_eq (X := X)).or (op_eqD hu)
theorem op_neA (hu : X.A.units + 64 < cLine) : OpR X (compareOp .NotEq) (rNeA X.K) := (op_ne (X := X)).or (op_neD hu)
theorem bi_eq : Bi K (rEqA K) gEq := bi_or bi_eqQ (bi_eqD (K := K))
theorem bi_ne : Bi K (rNeA K) gNe := bi_or bi_neQ (bi_neD (K := K))
/-! orders: numbers quickly, else as data -/
def rOrd (K : PySem.W.Frag) (f : PyData → PyData → Bool) : R2 := fun x y H Q => ∃ d e, Dp K H x d ∧ Dp K H y e ∧ PySem.W.alike d e = true ∧ d ≠ .none ∧ d.depth ≤ 64 ∧ Q (.bl (f d e)) H
theorem op_ordD {op : CmpOp} {f : PyData → PyData → Bool} (hu : X.A.units + 64 < cLine) (h : ∀ {prog : Program} {w : World} {A : Around} {E : Value → Shared → Prop} {s : Shared} {a b : Value} {da db : PyData} {as bs : List Addr} {Q : Value → Shared → Prop},
    Reads s.heap a da as → Reads s.heap b db bs → PySem.W.alike da db = true → da ≠ .none → A.units + min da.depth db.depth < cLine → Q (.bool (f da db)) s → wpAny (model prog w) A (compareOp op a b) Q E s) : OpR X (compareOp op) (rOrd X.K f) := by
  intro pins s σ H x y v u Q I rx ry h'
  obtain ⟨d, e, hd, he, h1, h2, h3, q⟩ := h'
  obtain ⟨as, r1⟩ := Dp.reads I d x v hd rx
  obtain ⟨bs, r2⟩ := Dp.reads I e y u he ry
  exact h r1 r2 h1 h2 (by omega) ⟨.bl _, H, I, rfl, q⟩
def nNon : D → Bool
  | .non => false
  | _ => true
def okO (x y : D) : Bool := PySem.W.alike (pyD x) (pyD y) && (decide ((pyD x).depth ≤ 64) && nNon x)
def gOrdD (f : PyData → PyData → Bool) (a b : M) : Option M := (dataM a).bind fun x => (dataM b).bind fun y => if okO x y then some (pB (f (pyD x) (pyD y))) else none
theorem pyD_non {m : M} {d : D} (h : dataM m = some d) (n : nNon d = true) : pyD d ≠ .none := fun z => by
  cases d with
  | non => cases n
  | ins C fs =>
    cases m with
    | p d =>
      have z2 : (if okD d = true then some d else none) = some (D.ins C fs) := h
      by_cases o : okD d = true
      · rw [if_pos o] at z2; cases z2; cases o
      · rw [if_neg o] at z2; cases z2
    | ml xs =>
      have z2 : (if okDs xs = true then some (D.lst xs) else none) = some (D.ins C fs) := h
      by_cases o : okDs xs = true
      · rw [if_pos o] at z2; cases z2
      · rw [if_neg o] at z2; cases z2
    | mi _ _ => cases h
  | bl _ => cases z
  | int _ => cases z
  | str _ => cases z
  | lst _ => cases z
  | tup _ => cases z
theorem bi_ordD {f : PyData → PyData → Bool} : Bi K (rOrd K f) (gOrdD f) := fun G H x y mx my fx fy m Q e rx ry hg q => by
  obtain ⟨d1, h1, z1⟩ := Option.bind_eq_some_iff.mp hg
  obtain ⟨d2, h2, z2⟩ := Option.bind_eq_some_iff.mp z1
  by_cases o : okO d1 d2 = true
  · rw [if_pos o] at z2
    have o1 := Bool.and_eq_true_iff.mp o
    have o2 := Bool.and_eq_true_iff.mp o1.2
    cases z2
    exact ⟨_, _, rx.dp e h1, ry.dp e h2, o1.1, pyD_non h1 o2.2, of_decide_eq_true o2.1, q.d e (.bl _)⟩
  · rw [if_neg o] at z2
    cases z2
open PySem.W in
def gLt : M → M → Option M := orG (int2 fun i j => some (pB (decide (i < j)))) (gOrdD fun d e => dataLt d e)
open PySem.W in
def gGt : M → M → Option M := orG (int2 fun i j => some (pB (decide (j < i)))) (gOrdD fun d e => dataLt e d)
open PySem.W in
def gLe : M → M → Option M := orG (int2 fun i j => some (pB (decide (i ≤ j)))) (gOrdD fun d e => !dataLt e d)
open PySem.W in
def gGe : M → M → Option M := orG (int2 fun i j => some (pB (decide (j ≤ i)))) (gOrdD fun d e => !dataLt d e)
abbrev rLtA (K : PySem.W.Frag) : R2 := orR (rI0 fun i j => .bl (decide (i < j))) (rOrd K fun d e => PySem.W.dataLt d e)
abbrev rGtA (K : PySem.W.Frag) : R2 := orR (rI0 fun i j => .bl (decide (j < i))) (rOrd K fun d e => PySem.W.dataLt e d)
abbrev rLeA (K : PySem.W.Frag) : R2 := orR (rI0 fun i j => .bl (decide (i ≤ j))) (rOrd K fun d e => !PySem.W.dataLt e d)
abbrev rGeA (K : PySem.W.Frag) : R2 := orR (rI0 fun i j => .bl (decide (j ≤ i))) (rOrd K fun d e => !PySem.W.dataLt d e)
theorem op_ltA (hu : X.A.units + 64 < cLine) : OpR X (compareOp .Lt) (rLtA X.K) := (op_lt (X := X)).or (op_ordD (f := fun d e => PySem.W.dataLt d e) hu PySem.W.lt_data)
theorem op_gtA (hu : X.A.units + 64 < cLine) : OpR X (compareOp .Gt) (rGtA X.K) := (op_gt (X := X)).or (op_ordD (f := fun d e => PySem.W.dataLt e d) hu PySem.W.gt_data)
theorem op_leA (hu : X.A.units + 64 < cLine) : OpR X (compareOp .LtE) (rLeA X.K) := (op_le (X := X)).or (op_ordD (f := fun d e => !PySem.W.dataLt e d) hu PySem.W.le_data)
theorem op_geA (hu : X.A.units + 64 < cLine) : OpR X (compareOp .GtE) (rGeA X.K) := (op_ge (X := X)).or (op_ordD (f := fun d e => !PySem.W.dataLt d e) hu PySem.W.ge_data)
theorem bi_lt : Bi K (rLtA K) gLt := bi_or (bi_rI0b (K := K) fun i j => decide (i < j)) bi_ordD
theorem bi_gt : Bi K (rGtA K) gGt := bi_or (bi_rI0b (K := K) fun i j => decide (j < i)) bi_ordD
theorem bi_le : Bi K (rLeA K) gLe := bi_or (bi_rI0b (K := K) fun i j => decide (i ≤ j)) bi_ordD
theorem bi_ge : Bi K (rGeA K) gGe := bi_or (bi_rI0b (K := K) fun i j => decide (j ≤ i)) bi_ordD
/-! ### items -/
theorem atI_rep {us : List V} {ds : List D} (r : RepDs K G us ds) {i : Int} {d : D} (h : atI ds i = some d) : ∃ v, atI us i = some v ∧ RepD K G v d := by
  unfold atI at h ⊢
  obtain ⟨j, h1, h2⟩ := Option.bind_eq_some_iff.mp h
  obtain ⟨v, h3, h4⟩ := r.get h2
  exact ⟨v, by rw [r.length, h1]; exact h3, h4⟩
def gIx (a b : M) : Option M := (intM b).bind fun i => match lstM a with
  | some xs => (atI xs i).map .p
  | none => match tupM a with
    | some xs => (atI xs i).map .p
    | none => none
theorem bi_ix : Bi K (rIx K) gIx := fun G H x y mx my fx fy m Q e rx ry hg q => by
  obtain ⟨i, h1, z1⟩ := Option.bind_eq_some_iff.mp hg
  have e1 := intM_some h1
  subst e1
  split at z1
  · next xs hl =>
    obtain ⟨d, h2, h3⟩ := Option.map_eq_some_iff.mp z1
    cases h3
    obtain ⟨a, us, rfl, sa, ra⟩ := rx.lst e hl
    obtain ⟨v, h4, h5⟩ := atI_rep ra h2
    exact .inl ⟨a, us, i, v, rfl, ry.int, sa, h4, q.d e h5⟩
  · split at z1
    · next xs hl =>
      obtain ⟨d, h2, h3⟩ := Option.map_eq_some_iff.mp z1
      cases h3
      have e2 := tupM_some hl
      subst e2
      obtain ⟨a, us, rfl, sa, ra⟩ := rx.tup e
      obtain ⟨v, h4, h5⟩ := atI_rep ra h2
      exact .inr (.inl ⟨a, us, i, v, rfl, ry.int, sa, h4, q.d e h5⟩)
    · cases z1
end
end Dn

namespace Dn
open PySem PySem.Spec PyProof.Rows L2

section
variable {K : PySem.W.Frag} {bs : List Nat} {vs : List V} {G H G' H' : Hp} {σ : L2.St} {en en' : En} {F F' : Nat → List Addr} {X : Cx}
variable {a b e : Expr} {es : List Expr} {fa fb fc : FE} {pos : Pos}

/-! ### displays -/
def fNil : FL := fun en => some ([], en)
def fCons (fv : FV) (fl : FL) : FL := fun en => (fv en).bind fun p => (fl p.2).map fun q => (p.1 :: q.1, q.2)
variable {fv : FV} {fl : FL}
theorem dl_nil : PA X [] (rdl X.K bs fNil) := pa_nil.imp fun σ H Q q => by
  obtain ⟨vs, G, en, F, ds, en', w, hf, k⟩ := q
  cases hf
  exact k G H F [] w Fr.refl .nil
theorem dl_cons (ha : PE X e (rd X.K bs fa)) (hr : PA X es (rdl X.K bs fl)) (hs : starEach (e :: es) X.env = (false, eval e X.env) :: starEach es X.env := by rfl) : PA X (e :: es) (rdl X.K bs (fCons (fV fa) fl)) := (pa_cons (dv ha) hr hs).imp fun σ H Q q => by
  obtain ⟨vs, G, en, F, ds, en', w, hf, k⟩ := q
  obtain ⟨⟨d, e1⟩, h1, z1⟩ := Option.bind_eq_some_iff.mp hf
  obtain ⟨⟨dr, e2⟩, h2, z2⟩ := Option.map_eq_some_iff.mp z1
  cases z2
  exact ⟨vs, G, en, F, d, e1, w, h1, fun G1 H1 F1 x w1 f1 r1 => ⟨vs, G1, e1, F1, dr, e2, w1, h2, fun G2 H2 F2 us w2 f2 r2 => k G2 H2 F2 _ w2 (f1.trans f2) (.cons (r1.mono f2.gk) r2)⟩⟩
def fTup (fl : FL) : FE := fun en => (fl en).bind fun q => if q.1.length ≤ lim then some (.val (.p (.tup q.1)), q.2) else none
def fLst (fl : FL) : FE := fun en => (fl en).bind fun q => if q.1.length ≤ lim then some (.val (.ml q.1), q.2) else none
theorem de_tup {x1} (h : PA X es (rdl X.K bs fl)) : PE X (.Tuple es x1 pos) (rd X.K bs (fTup fl)) := (pe_tup h).imp fun σ H Q q => by
  obtain ⟨vs, G, en, F, o, en', w, hf, k⟩ := q
  obtain ⟨⟨ds, e1⟩, h1, z1⟩ := Option.bind_eq_some_iff.mp hf
  by_cases o : ds.length ≤ lim
  · rw [if_pos o] at z1
    cases z1
    refine ⟨vs, G, en, F, ds, e1, w, h1, fun G1 H1 F1 us w1 f1 r1 => ⟨by rw [r1.length]; exact Nat.le_trans o lim_line, fun p n => ?_⟩⟩
    exact (Res.fin w1 f1 k).tup w1.sub r1 n
  · rw [if_neg o] at z1; cases z1
theorem de_lst (h : PA X es (rdl X.K bs fl)) : PE X (.List es pos) (rd X.K bs (fLst fl)) := (pe_lst h).imp fun σ H Q q => by
  obtain ⟨vs, G, en, F, o, en', w, hf, k⟩ := q
  obtain ⟨⟨ds, e1⟩, h1, z1⟩ := Option.bind_eq_some_iff.mp hf
  by_cases o : ds.length ≤ lim
  · rw [if_pos o] at z1
    cases z1
    refine ⟨vs, G, en, F, ds, e1, w, h1, fun G1 H1 F1 us w1 f1 r1 => ⟨by rw [r1.length]; exact Nat.le_trans o lim_line, fun p n => ?_⟩⟩
    exact (Res.fin w1 f1 k).list w1.sub r1 n
  · rw [if_neg o] at z1; cases z1

/-! ### o.f -/
theorem RepF.look : ∀ {us : List (Str × V)} {fs : List (Str × D)}, RepF K G us fs → ∀ {f : Str} {d : D}, fs.lookup f = some d → ∃ v, us.lookup f = some v ∧ RepD K G v d
  | _, _, .nil, _, _, h => nomatch h
  | _, _, .cons (k := k) r t, f, d, h => by
    rw [List.lookup_cons] at h ⊢
    split at h
    · cases h; exact ⟨_, rfl, r⟩
    · exact RepF.look t h
theorem RepMs.look : ∀ {us : List (Str × V)} {fs : List (Str × M)} {fp : List Addr}, RepMs K G H us fs fp → ∀ {f : Str} {m : M}, fs.lookup f = some m → ∃ v fq, us.lookup f = some v ∧ RepM K G H v m fq ∧ ∀ x ∈ fq, x ∈ fp
  | _, _, _, .nil, _, _, h => nomatch h
  | _, _, _, .cons (k := k) r t d, f, m, h => by
    rw [List.lookup_cons] at h ⊢
    split at h
    · cases h; exact ⟨_, _, rfl, r, fun x hx => List.mem_append_left _ hx⟩
    · obtain ⟨v, fq, h1, h2, h3⟩ := RepMs.look t h
      exact ⟨v, fq, h1, h2, fun x hx => List.mem_append_right _ (h3 x hx)⟩
def gAttr (C : Addr) (f : Str) : M → Option M
  | .p (.ins C' fs) => if C' = C then (fs.lookup f).map .p else none
  | .mi C' fs => if C' = C then (fs.lookup f).bind fun m => (pD m).map .p else none
  | _ => none
theorem un_attr {C : Addr} {f : Str} (cl : Cls K C) (na : NoAttr K C f) : Un1 K (fun x H Q => ∃ a C dx fs v, x = .ref a ∧ H a = some (.ins C dx fs) ∧ Cls K C ∧ NoAttr K C f ∧ fs.lookup f = some v ∧ Q v H) (gAttr C f) := fun G H x mx fx m Q e rx hg q => by
  cases rx with
  | p r =>
    cases r with
    | @ins a C' dx us fs h1 h2 =>
      have hg : (if C' = C then (fs.lookup f).map M.p else none) = some m := hg
      by_cases o : C' = C
      · rw [if_pos o] at hg
        obtain ⟨d, h3, h4⟩ := Option.map_eq_some_iff.mp hg
        subst o h4
        obtain ⟨v, h5, h6⟩ := h2.look h3
        exact ⟨a, _, dx, us, v, rfl, e _ _ h1, cl, na, h5, q.d e h6⟩
      · rw [if_neg o] at hg; cases hg
    | _ => cases hg
  | ml => cases hg
  | @mi a C' dx us fs fp h1 h2 h3 h4 =>
    have hg : (if C' = C then (fs.lookup f).bind fun m => (pD m).map M.p else none) = some m := hg
    by_cases o : C' = C
    · rw [if_pos o] at hg
      obtain ⟨m', h5, z1⟩ := Option.bind_eq_some_iff.mp hg
      obtain ⟨d, h6, z2⟩ := Option.map_eq_some_iff.mp z1
      have e1 := pD_some h6
      subst o z2 e1
      obtain ⟨v, fq, h7, h8, _⟩ := h3.look h5
      exact ⟨a, _, dx, us, v, rfl, h1, cl, na, h7, q.d e h8.d⟩
    · rw [if_neg o] at hg; cases hg
theorem de_attr {C : Addr} {f : Str} (cl : Cls X.K C) (na : NoAttr X.K C f) (he : PE X e (rd X.K bs fa)) (hb : attributeBase e f X.env (eval e X.env) = eval e X.env := by rfl) : PE X (.Attribute e f pos) (rd X.K bs (fUn (gAttr C f) fa)) :=
  (pe_fld he hb).imp fun σ H Q => rd_un (un_attr cl na) σ H Q

/-! ### slices -/
abbrev FP := En → Option (Option Int × En)
def rdp (K : PySem.W.Frag) (bs : List Nat) (f : FP) : L2.St → Hp → (Option Int → Hp → Prop) → Prop := fun σ H Q => ∃ vs G en F d en', Wf K bs vs G H σ en F ∧ f en = some (d, en') ∧
  ∀ G' H' F', Wf K bs vs G' H' σ en' F' → Fr G H (Ow F) G' H' (Ow F') → Q d H'
def fNoP : FP := fun en => some (none, en)
def fPart (f : FE) : FP := fun en => (f en).bind fun oa => ((cont oa.2 oa.1).bind intM).map fun i => (some i, oa.2)
theorem dp_none : PO X none (rdp X.K bs fNoP) := ⟨fun pins s σ H Q I q => po_none.run pins s σ H Q I (by
  obtain ⟨vs, G, en, F, d, en', w, hf, k⟩ := q
  cases hf
  exact k G H F w Fr.refl)⟩
theorem dp_some (h : PE X e (rd X.K bs fa)) (he : ∀ k p, e ≠ .Constant .none k p := by intro _ _ z; exact nomatch z) : PO X (some e) (rdp X.K bs (fPart fa)) := ⟨fun pins s σ H Q I q => (po_some h).run pins s σ H Q I (by
  obtain ⟨vs, G, en, F, d, en', w, hf, k⟩ := q
  obtain ⟨⟨o, e1⟩, h1, z1⟩ := Option.bind_eq_some_iff.mp hf
  obtain ⟨i, h2, z2⟩ := Option.map_eq_some_iff.mp z1
  obtain ⟨m, h3, h4⟩ := Option.bind_eq_some_iff.mp h2
  cases z2
  refine ⟨vs, G, en, F, o, e1, w, h1, fun G1 H1 F1 x fx w1 f1 r1 t1 => ?_⟩
  obtain ⟨_, c1⟩ := cont_ok r1 t1 Fr.refl w1 h3
  have e2 := intM_some h4
  subst e2
  exact ⟨i, c1.int, k G1 H1 F1 w1 f1⟩)⟩
def cutA {α : Type} (xs : List α) (lo hi : Option Int) : List α := (xs.drop (HT.sIx xs.length 0 lo)).take (HT.sIx xs.length xs.length hi - HT.sIx xs.length 0 lo)
def gSl (lo hi : Option Int) (m : M) : Option M := match lstM m with
  | some xs => some (.ml (cutA xs lo hi))
  | none => (tupM m).map fun xs => .p (.tup (cutA xs lo hi))
def rSlLT (K : PySem.W.Frag) : V → Option Int → Option Int → Hp → VK → Prop := fun x lo hi H Q => (∃ a xs, x = .ref a ∧ SqL K H a xs ∧ ∀ p, H p = none → Q (.ref p) (upd H p (.lst (cutV xs lo hi)))) ∨ rSlA K x lo hi H Q
theorem sl_LT : SlR X (rSlLT X.K) := sl_list.or sl_tupA
theorem RepDs.cut {us : List V} {ds : List D} (r : RepDs K G us ds) (lo hi : Option Int) : RepDs K G (cutV us lo hi) (cutA ds lo hi) := by
  unfold cutV cutA
  rw [r.length]
  exact (r.drop _).take _
theorem sl_un (lo hi : Option Int) : Un1 K (fun x H Q => rSlLT K x lo hi H Q) (gSl lo hi) := fun G H x mx fx m Q e rx hg q => by
  unfold gSl at hg
  split at hg
  · next xs hl =>
    cases hg
    obtain ⟨a, us, rfl, sa, ra⟩ := rx.lst e hl
    exact .inl ⟨a, us, rfl, sa, fun p n => q.list e (ra.cut lo hi) n⟩
  · obtain ⟨xs, hl, z⟩ := Option.map_eq_some_iff.mp hg
    cases z
    have e2 := tupM_some hl
    subst e2
    obtain ⟨a, us, rfl, sa, ra⟩ := rx.tup e
    refine .inr ⟨a, us, rfl, sa, fun ⟨z1, z2⟩ => ?_, fun _ p n => q.tup e (ra.cut lo hi) n⟩
    have e3 : cutA xs lo hi = xs := by
      unfold cutA
      rw [← ra.length, z1, z2, ra.length]
      simp
    rw [e3] at q
    exact q.d e rx.d
def fSl (fa : FE) (fl fh : FP) : FE := fun en => (fa en).bind fun oa => (fl oa.2).bind fun l => (fh l.2).bind fun h => (cont h.2 oa.1).bind fun m => (gSl l.1 h.1 m).map fun r => (.val r, h.2)
theorem de_slice {lo hi : Option Expr} {fl fh : FP} {p2 : Pos} (he : PE X e (rd X.K bs fa)) (hl : PO X lo (rdp X.K bs fl)) (hu : PO X hi (rdp X.K bs fh)) : PE X (.Subscript e (.Slice lo hi none p2) pos) (rd X.K bs (fSl fa fl fh)) := (pe_slice sl_LT he hl hu).imp fun σ H Q q => by
  obtain ⟨vs, G, en, F, o, en', w, hf, k⟩ := q
  obtain ⟨⟨oa, e1⟩, h1, z1⟩ := Option.bind_eq_some_iff.mp hf
  obtain ⟨⟨l, e2⟩, h2, z2⟩ := Option.bind_eq_some_iff.mp z1
  obtain ⟨⟨h, e3⟩, h3, z3⟩ := Option.bind_eq_some_iff.mp z2
  obtain ⟨m, h4, z4⟩ := Option.bind_eq_some_iff.mp z3
  obtain ⟨r, h5, z5⟩ := Option.map_eq_some_iff.mp z4
  cases z5
  refine ⟨vs, G, en, F, oa, e1, w, h1, fun G1 H1 F1 x fx w1 f1 r1 t1 => ⟨vs, G1, e1, F1, l, e2, w1, h2, fun G2 H2 F2 w2 f2 => ⟨vs, G2, e2, F2, h, e3, w2, h3, fun G3 H3 F3 w3 f3 => ?_⟩⟩⟩
  obtain ⟨_, c1⟩ := cont_ok r1 t1 (f2.trans f3) w3 h4
  exact sl_un l h G3 H3 x m _ r Q w3.sub c1 h5 (Res.fin w3 ((f1.trans f2).trans f3) k)

/-! ### built-ins of one argument, of two -/
section
variable {x : Str} {p : Pos} {id T : String} {r : List V → Hp → VK → Prop} {g : M → Option M} {g2 : M → M → Option M}
theorem de_call1 (hc : CallR X (.builtin id) r) (h : Un1 X.K (fun x H Q => r [x] H Q) g) (hm : X.mg x = none) (ha : PE X e (rd X.K bs fa)) (hg : Gl X x := by rfl) (hv : bootBuiltins x = some (.builtin id) := by decide +kernel) (hn : x ≠ "__name__" := by decide) (hdb : (x == ("__debug__" : Str)) = false := by decide)
    (hs : starEach [e] X.env = (false, eval e X.env) :: starEach [] X.env := by rfl) (hpl : (backTo pos (starEach [] X.env)).any (·.1) = false := by rfl) : PE X (.Call (.Name x p) [e] [] pos) (rd X.K bs (fUn g fa)) :=
  (pe_callB hc hg hm hv (pa_cons ha pa_nil hs) hn hdb hs hpl).imp fun σ H Q q => rd_un h σ H Q q
theorem de_callT1 (hc : CallR X (.type T) r) (h : Un1 X.K (fun x H Q => r [x] H Q) g) (hm : X.mg x = none) (ha : PE X e (rd X.K bs fa)) (hg : Gl X x := by rfl) (hv : bootBuiltins x = some (.type T) := by decide +kernel) (hn : x ≠ "__name__" := by decide) (hdb : (x == ("__debug__" : Str)) = false := by decide)
    (hs : starEach [e] X.env = (false, eval e X.env) :: starEach [] X.env := by rfl) (hpl : (backTo pos (starEach [] X.env)).any (·.1) = false := by rfl) : PE X (.Call (.Name x p) [e] [] pos) (rd X.K bs (fUn g fa)) :=
  (pe_callTy hc hg hm hv (pa_cons ha pa_nil hs) hn hdb hs hpl).imp fun σ H Q q => rd_un h σ H Q q
theorem de_call2 (hc : CallR X (.builtin id) r) (h : Bi X.K (fun x y H Q => r [x, y] H Q) g2) (hm : X.mg x = none) (ha : PE X a (rd X.K bs fa)) (hb : PE X b (rd X.K bs fb)) (hg : Gl X x := by rfl) (hv : bootBuiltins x = some (.builtin id) := by decide +kernel) (hn : x ≠ "__name__" := by decide) (hdb : (x == ("__debug__" : Str)) = false := by decide)
    (hs : starEach [a, b] X.env = (false, eval a X.env) :: starEach [b] X.env := by rfl) (hs2 : starEach [b] X.env = (false, eval b X.env) :: starEach [] X.env := by rfl) (hpl : (backTo pos (starEach [b] X.env)).any (·.1) = false := by rfl) : PE X (.Call (.Name x p) [a, b] [] pos) (rd X.K bs (fBin g2 fa fb)) :=
  (pe_callB hc hg hm hv (pa_cons ha (pa_cons hb pa_nil hs2) hs) hn hdb hs hpl).imp fun σ H Q q => rd_bin (r := fun x y H Q => r [x, y] H Q) h σ H Q q
/-- the second argument stands written -/
theorem de_callC {c : V} (hc : CallR X (.builtin id) r) (h : Un1 X.K (fun x H Q => r [x, c] H Q) g) (hm : X.mg x = none) (ha : PE X a (rd X.K bs fa)) (hb : PE X b (tC c)) (hg : Gl X x := by rfl) (hv : bootBuiltins x = some (.builtin id) := by decide +kernel) (hn : x ≠ "__name__" := by decide) (hdb : (x == ("__debug__" : Str)) = false := by decide)
    (hs : starEach [a, b] X.env = (false, eval a X.env) :: starEach [b] X.env := by rfl) (hs2 : starEach [b] X.env = (false, eval b X.env) :: starEach [] X.env := by rfl) (hpl : (backTo pos (starEach [b] X.env)).any (·.1) = false := by rfl) : PE X (.Call (.Name x p) [a, b] [] pos) (rd X.K bs (fUn g fa)) :=
  (pe_callB hc hg hm hv (pa_cons ha (pa_cons hb pa_nil hs2) hs) hn hdb hs hpl).imp fun σ H Q q => rd_un h σ H Q q
end
def seqM (m : M) : Option (List D) := match lstM m with
  | some xs => some xs
  | none => tupM m
theorem RepM.seq {v : V} {m : M} {xs : List D} {fp : List Addr} (e : Same G H) (r : RepM K G H v m fp) (h : seqM m = some xs) : ∃ a us, v = .ref a ∧ (SqL K H a us ∨ SqT K H a us) ∧ RepDs K G us xs := by
  unfold seqM at h
  split at h
  · next ys hl =>
    cases h
    obtain ⟨a, us, h1, h2, h3⟩ := r.lst e hl
    exact ⟨a, us, h1, .inl h2, h3⟩
  · have e2 := tupM_some h
    subst e2
    obtain ⟨a, us, h1, h2, h3⟩ := r.tup e
    exact ⟨a, us, h1, .inr h2, h3⟩
/-! len, abs, int -/
def gLen (m : M) : Option M := (seqM m).map fun xs => pI xs.length
theorem un_len : Un1 K (fun x H Q => ∃ p ys, [x] = [V.ref p] ∧ (SqL K H p ys ∨ SqT K H p ys) ∧ Q (.int ys.length) H) gLen := fun G H x mx fx m Q e rx hg q => by
  obtain ⟨xs, h1, z⟩ := Option.map_eq_some_iff.mp hg
  cases z
  obtain ⟨a, us, rfl, h2, h3⟩ := rx.seq e h1
  exact ⟨a, us, rfl, h2, by rw [h3.length]; exact q.d e (.int _)⟩
def gAbs (m : M) : Option M := (intM m).map fun i => pI (if i < 0 then -i else i)
theorem un_abs : Un1 K (fun x H Q => ∃ i, [x] = [V.int i] ∧ Q (.int (if i < 0 then -i else i)) H) gAbs := fun G H x mx fx m Q e rx hg q => by
  obtain ⟨i, h1, z⟩ := Option.map_eq_some_iff.mp hg
  have e1 := intM_some h1
  subst e1
  cases z
  rw [rx.int]
  exact ⟨i, rfl, q.d e (.int _)⟩
def gInt : M → Option M
  | .p (.int i) => some (pI i)
  | .p (.bl b) => some (pI (if b then 1 else 0))
  | _ => none
theorem un_int : Un1 K (fun x H Q => (∃ i, [x] = [V.int i] ∧ Q (.int i) H) ∨ ∃ k, [x] = [V.bl k] ∧ Q (.int (if k then 1 else 0)) H) gInt := fun G H x mx fx m Q e rx hg q => by
  unfold gInt at hg
  split at hg
  · cases hg
    rw [rx.int]
    exact .inl ⟨_, rfl, q.d e (.int _)⟩
  · cases hg
    rw [rx.bl]
    exact .inr ⟨_, rfl, q.d e (.int _)⟩
  · cases hg
/-! list(x), tuple(x) -/
def gList (m : M) : Option M := (seqM m).map .ml
theorem un_list : Un1 K (fun x H Q => ∃ p ys, [x] = [V.ref p] ∧ (SqL K H p ys ∨ SqT K H p ys) ∧ ∀ l, H l = none → Q (.ref l) (upd H l (.lst ys))) gList := fun G H x mx fx m Q e rx hg q => by
  obtain ⟨xs, h1, z⟩ := Option.map_eq_some_iff.mp hg
  cases z
  obtain ⟨a, us, rfl, h2, h3⟩ := rx.seq e h1
  exact ⟨a, us, rfl, h2, fun l n => q.list e h3 n⟩
def gTuple (m : M) : Option M := (seqM m).map fun xs => .p (.tup xs)
theorem un_tuple : Un1 K (fun x H Q => ∃ p ys, [x] = [V.ref p] ∧ ((SqL K H p ys ∧ ∀ l, H l = none → Q (.ref l) (upd H l (.tup ys))) ∨ (SqT K H p ys ∧ Q (.ref p) H))) gTuple := fun G H x mx fx m Q e rx hg q => by
  obtain ⟨xs, h1, z⟩ := Option.map_eq_some_iff.mp hg
  cases z
  unfold seqM at h1
  split at h1
  · next ys hl =>
    cases h1
    obtain ⟨a, us, rfl, h2, h3⟩ := rx.lst e hl
    exact ⟨a, us, rfl, .inl ⟨h2, fun l n => q.tup e h3 n⟩⟩
  · have e2 := tupM_some h1
    subst e2
    obtain ⟨a, us, rfl, h2, h3⟩ := rx.tup e
    exact ⟨a, us, rfl, .inr ⟨h2, q.d e rx.d⟩⟩
/-! max, min of two -/
def gMax2 : M → M → Option M := int2 fun i j => some (pI (if j > i then j else i))
def gMin2 : M → M → Option M := int2 fun i j => some (pI (if j < i then j else i))
theorem bi_max2 : Bi K (fun x y H Q => ∃ i j, [x, y] = [V.int i, V.int j] ∧ Q (.int (if j > i then j else i)) H) gMax2 := bi_int fun i j G H m Q e h q => by
  cases h
  exact ⟨i, j, rfl, q.d e (.int _)⟩
theorem bi_min2 : Bi K (fun x y H Q => ∃ i j, [x, y] = [V.int i, V.int j] ∧ Q (.int (if j < i then j else i)) H) gMin2 := bi_int fun i j G H m Q e h q => by
  cases h
  exact ⟨i, j, rfl, q.d e (.int _)⟩
/-! all, any, sum -/
def blsD : List D → Option (List Bool)
  | [] => some []
  | .bl b :: r => (blsD r).map (b :: ·)
  | _ :: _ => none
def intsD : List D → Option (List Int)
  | [] => some []
  | .int b :: r => (intsD r).map (b :: ·)
  | _ :: _ => none
theorem bls_rep : ∀ {us : List V} {ds : List D} {ks : List Bool}, RepDs K G us ds → blsD ds = some ks → us = ks.map V.bl
  | _, _, _, .nil, h => by cases h; rfl
  | _, _, _, .cons r t, h => by
    unfold blsD at h
    split at h
    · next e => exact nomatch e
    · next b r' e =>
      injection e with e1 e2
      subst e1 e2
      obtain ⟨ks, h1, h2⟩ := Option.map_eq_some_iff.mp h
      subst h2
      cases r
      rw [bls_rep t h1]
      rfl
    · cases h
theorem ints_rep : ∀ {us : List V} {ds : List D} {ks : List Int}, RepDs K G us ds → intsD ds = some ks → us = ks.map V.int
  | _, _, _, .nil, h => by cases h; rfl
  | _, _, _, .cons r t, h => by
    unfold intsD at h
    split at h
    · next e => exact nomatch e
    · next b r' e =>
      injection e with e1 e2
      subst e1 e2
      obtain ⟨ks, h1, h2⟩ := Option.map_eq_some_iff.mp h
      subst h2
      cases r
      rw [ints_rep t h1]
      rfl
    · cases h
theorem blsD_map (ks : List Bool) : blsD (ks.map .bl) = some ks := by
  induction ks with
  | nil => rfl
  | cons b r ih => rw [List.map_cons, blsD, ih]; rfl
theorem intsD_map (ks : List Int) : intsD (ks.map .int) = some ks := by
  induction ks with
  | nil => rfl
  | cons b r ih => rw [List.map_cons, intsD, ih]; rfl
def gAll (m : M) : Option M := ((lstM m).bind blsD).map fun ks => pB (ks.all id)
def gAny (m : M) : Option M := ((lstM m).bind blsD).map fun ks => pB (ks.any id)
def gSum (m : M) : Option M := ((lstM m).bind intsD).map fun ks => pI ks.sum
theorem un_all : Un1 K (fun x H Q => rAll K [x] H Q) gAll := fun G H x mx fx m Q e rx hg q => by
  obtain ⟨ks, h1, z⟩ := Option.map_eq_some_iff.mp hg
  obtain ⟨xs, h2, h3⟩ := Option.bind_eq_some_iff.mp h1
  cases z
  obtain ⟨a, us, rfl, h4, h5⟩ := rx.lst e h2
  exact ⟨a, ks, rfl, by rw [← bls_rep h5 h3]; exact h4, q.d e (.bl _)⟩
theorem un_any : Un1 K (fun x H Q => rAny K [x] H Q) gAny := fun G H x mx fx m Q e rx hg q => by
  obtain ⟨ks, h1, z⟩ := Option.map_eq_some_iff.mp hg
  obtain ⟨xs, h2, h3⟩ := Option.bind_eq_some_iff.mp h1
  cases z
  obtain ⟨a, us, rfl, h4, h5⟩ := rx.lst e h2
  exact ⟨a, ks, rfl, by rw [← bls_rep h5 h3]; exact h4, q.d e (.bl _)⟩
theorem un_sum : Un1 K (fun x H Q => rSum K [x] H Q) gSum := fun G H x mx fx m Q e rx hg q => by
  obtain ⟨ks, h1, z⟩ := Option.map_eq_some_iff.mp hg
  obtain ⟨xs, h2, h3⟩ := Option.bind_eq_some_iff.mp h1
  cases z
  obtain ⟨a, us, rfl, h4, h5⟩ := rx.lst e h2
  exact ⟨a, ks, rfl, by rw [← ints_rep h5 h3]; exact h4, q.d e (.int _)⟩
/-! isinstance -/
def tyM : M → Option String
  | .p .non => some "NoneType"
  | .p (.bl _) => some "bool"
  | .p (.int _) => some "int"
  | .p (.str _) => some "str"
  | .p (.lst _) => some "list"
  | .ml _ => some "list"
  | .p (.tup _) => some "tuple"
  | _ => none
theorem ty_of {v : V} {m : M} {t : String} {fp : List Addr} (e : Same G H) (r : RepM K G H v m fp) (h : tyM m = some t) : TyX K H v (.type t) := by
  cases r with
  | p r =>
    cases r with
    | non => cases h; exact .base .non
    | bl b => cases h; exact .base (.bl b)
    | int b => cases h; exact .base (.int b)
    | str b => cases h; exact .base (.str b)
    | lst h1 h2 =>
      cases h
      rcases e.seq h1 with (z | ⟨o, z⟩) | ⟨o, its, n, z1, z2, _⟩
      · exact .base (.lst z)
      · exact .base (.frz z)
      · exact .kList z1 z2
    | tup h1 h2 =>
      cases h
      rcases seqT_mono e h1 with (z | ⟨o, z⟩) | ⟨o, its, n, z1, z2, _⟩
      · exact .base (.tup z)
      · exact .fTuple z
      · exact .kTuple z1 z2
    | ins => cases h
  | ml h1 h2 h3 => cases h; exact .base (.lst h1)
  | mi => cases h
def gIs (f : String → Bool) (m : M) : Option M := (tyM m).map fun t => pB (f t)
theorem un_is {T : String} {f : String → Bool} (h : ∀ t ∈ ["NoneType", "bool", "int", "str", "list", "tuple"], kitB t T = some (f t)) : Un1 K (fun x H Q => rIsi K [x, .ty T] H Q) (gIs f) := fun G H x mx fx m Q e rx hg q => by
  obtain ⟨t, h1, z⟩ := Option.map_eq_some_iff.mp hg
  cases z
  refine ⟨x, .ty T, .type t, .type T, f t, rfl, .ty T, ty_of e rx h1, kit_ty (h t ?_), q.d e (.bl _)⟩
  unfold tyM at h1
  split at h1 <;> cases h1 <;> decide
def isInt (t : String) : Bool := t == "int" || t == "bool"
def isBool (t : String) : Bool := t == "bool"
def isTuple (t : String) : Bool := t == "tuple"
def isStr (t : String) : Bool := t == "str"
def isList (t : String) : Bool := t == "list"
theorem kit_int : ∀ t ∈ ["NoneType", "bool", "int", "str", "list", "tuple"], kitB t "int" = some (isInt t) := by decide +kernel
theorem kit_bool : ∀ t ∈ ["NoneType", "bool", "int", "str", "list", "tuple"], kitB t "bool" = some (isBool t) := by decide +kernel
theorem kit_tuple : ∀ t ∈ ["NoneType", "bool", "int", "str", "list", "tuple"], kitB t "tuple" = some (isTuple t) := by decide +kernel
theorem kit_str : ∀ t ∈ ["NoneType", "bool", "int", "str", "list", "tuple"], kitB t "str" = some (isStr t) := by decide +kernel
theorem kit_list : ∀ t ∈ ["NoneType", "bool", "int", "str", "list", "tuple"], kitB t "list" = some (isList t) := by decide +kernel
/-- of a class of one's own: yes -/
def gIsC (C : Addr) : M → Option M
  | .p (.ins C' _) => if C' = C then some (pB true) else none
  | .mi C' _ => if C' = C then some (pB true) else none
  | _ => none
theorem un_isC {C : Addr} : Un1 K (fun x H Q => ∃ a dx fs, [x, .ref C] = [.ref a, .ref C] ∧ H a = some (.ins C dx fs) ∧ Q (.bl true) H) (gIsC C) := fun G H x mx fx m Q e rx hg q => by
  cases rx with
  | p r =>
    cases r with
    | @ins a C' dx us fs h1 h2 =>
      have hg : (if C' = C then some (pB true) else none) = some m := hg
      by_cases o : C' = C
      · rw [if_pos o] at hg
        cases hg
        subst o
        exact ⟨a, dx, us, rfl, e _ _ h1, q.d e (.bl _)⟩
      · rw [if_neg o] at hg; cases hg
    | _ => cases hg
  | ml => cases hg
  | @mi a C' dx us fs fp h1 h2 h3 h4 =>
    have hg : (if C' = C then some (pB true) else none) = some m := hg
    by_cases o : C' = C
    · rw [if_pos o] at hg
      cases hg
      subst o
      exact ⟨a, dx, us, rfl, h1, q.d e (.bl _)⟩
    · rw [if_neg o] at hg; cases hg
/-! repr of data -/
def rRepr (K : PySem.W.Frag) : List V → Hp → VK → Prop := fun xs H Q => ∃ a d, xs = [.ref a] ∧ Dp K H (.ref a) d ∧ d.showable = true ∧ d.hasDict = false ∧ d.depth ≤ 60 ∧ d.shown.length ≤ sizeLine ∧ Q (.str d.shown) H
theorem call_repr (hu : X.A.units + 64 < cLine) (hgd : X.A.guards = some []) : CallR X (.builtin "repr") (rRepr X.K) := by
  intro pins s σ H xs us Q I r h
  obtain ⟨a, d, rfl, hd, h1, h2, h3, h4, q⟩ := h
  obtain ⟨u, rfl, ru⟩ := vals1 r
  cases (show u = Value.ref a from ru)
  obtain ⟨as, rs⟩ := Dp.reads I d _ _ hd ru
  exact repr_of_reads' rs h1 (PyData.noDict_hsm h2) hgd (by omega) (fun _ _ e => e) (fun h' u tk hk => ⟨.str d.shown, H, I.kept (t' := tk) hk, ⟨u, rfl⟩, q⟩) h4
end
end Dn

namespace Dn
open PySem PySem.Spec PyProof.Rows L2

/-! ### defs, called where no repr is under way -/
section
variable {P : Program} {w : World} {K : PySem.W.Frag} {mg : Str → Option Value} {base : Heap}
structure FnG (P : Program) (w : World) (K : PySem.W.Frag) (mg : Str → Option Value) (base : Heap) (k : Nat) (f : Addr) (fd : FuncData) (ps : List Str) (sp : Sp) : Prop where
  ln : ∀ us H Q E, sp us H Q E → us.length = ps.length
  go : ∀ (A : Around) (outer : List Env) (s : Shared) (H : Hp) (args : Args) (us : List Value) (ws : List V) (Q : VK) (E : XK), Room k A → A.guards = some [] → Env0 P w K mg base A outer s H → BindsTo s fd args (ps.zip us) → Vals ws us → sp ws H Q E →
    codeAny (model P w) A (.call (.ref f) args) (CR CX0 outer P w H s Q E) s
theorem FnG.up {j k : Nat} {f : Addr} {fd : FuncData} {ps : List Str} {sp : Sp} (F : FnG P w K mg base j f fd ps sp) (h : j ≤ k) : FnG P w K mg base k f fd ps sp := ⟨F.ln, fun A o s H a us ws Q E r => F.go A o s H a us ws Q E (r.mono h)⟩
theorem fn_body {x qual : Str} {st : Stmt} {f : Addr} {fd : FuncData} {N ps : List Str} {k : Nat} {sp : Sp} (F : Fun K x qual st f fd) (S : FnScope N ps (defScope st)) (ln : ∀ us H Q E, sp us H Q E → us.length = ps.length)
    (hb : ∀ (cdv : Value) (A : Around) (outer : List Env) (s : Shared) (H : Hp) (us : List V) (Q : VK) (E : XK), Room k (A.deeper (envOfC qual (defScope st) s.heap.objs.size f cdv)) → A.guards = some [] → sp us H Q E →
      ∃ t, PSs (cxOf CX0 P w K mg base N qual (defScope st) f cdv A outer s H E).nox (defBody st) t ∧ t { nx := fun _ H' => Q .non H', rt := Q } (start N us) H) : FnG P w K mg base (k + 1) f fd ps sp := by
  obtain ⟨oc, od, kV, doc, pm, an, cdv, ct, osl, rfl, lk, hcd⟩ := F.ex
  refine ⟨ln, fun A outer s H args us ws Q E hr hgd e0 hbt r hsp => ?_⟩
  have hl := ln _ _ _ _ hsp
  have inK : K.In s.heap := e0.mod.kin.keeps fun b o e => (e0.bs b o e).1
  have nl : s.heap.NoLimit := e0.mod.nolimit.keeps fun b o e => (e0.bs b o e).1
  have kinds : ∀ y ∈ ps.zip us, (defScope st).names.lookup y.1 = some .local ∨ ((defScope st).names.lookup y.1 = some .cell ∧ ((cellsFrom (s.heap.objs.size + 1) (defScope st).names []).lookup y.1).isSome = true) := fun y hy => by
    rcases S.par y.1 (List.of_mem_zip hy).1 with q | q
    · left; exact q
    · right; exact ⟨q, PySem.W.cellsFrom_some _ _ _ (.inl q)⟩
  refine codeAny_call_function hr.depth (inK _ _ lk) rfl S.co S.gen rfl (PySem.W.codeRec_of inK hcd) (hbt _ _ _ _ ?_)
  refine wpAny_newFunctionEnv_cells S.kind kinds fun env he s1 x => ?_
  subst he
  refine ⟨nl.keeps x.toInCall.keep, codeAny_func ?_⟩
  obtain ⟨t, ht, hq⟩ := hb cdv A outer s H ws Q E (hr.deeper _) hgd hsp
  have J : Inv (cxOf CX0 P w K mg base N qual (defScope st) f cdv A outer s H E) [] (start N ws) H s1 := inv_start S hr.hd e0 hl r x
  refine wpAny_mono (ht.nox.run [] s1 (start N ws) H _ J hq) (fun fl s' hs => ?_) fun e s' hs => hs
  cases fl with
  | ret u =>
    obtain ⟨v, σ', H', J', rv, q⟩ := hs
    exact ⟨v, H', J'.os, J'.bare, J'.base, J'.hok, rv, q⟩
  | next =>
    obtain ⟨σ', H', J', q⟩ := hs
    exact ⟨V.non, H', J'.os, J'.bare, J'.base, J'.hok, rfl, q⟩
  | brk => exact (hs.choose_spec.choose_spec.2 : False).elim
  | cont => exact (hs.choose_spec.choose_spec.2 : False).elim
end
section
variable {X : Cx} {k : Nat} {f C : Addr} {fd : FuncData} {ps : List Str} {sp : Sp} {x m : Str} {p pos apos : Pos} {e o : Expr} {es : List Expr} {ta : TE} {t : TA}
theorem go_fn {pins : List (Addr × Obj)} {σ : L2.St} {H : Hp} {s : Shared} {Q : VK} {us : List Value} {ws : List V} (F : FnG X.prog X.w X.K X.mg X.base k f fd ps sp) (hr : Room k X.A) (hgd : X.A.guards = some []) (hb : Binds X.K fd ps [])
    (I : Inv X pins σ H s) (r : Vals ws us) (h : sp ws H Q E0) : wpAny (model X.prog X.w) X.A (call (.ref f) us) (EP X pins σ Q) X.xe s := by
  have hl : (us ++ []).length = ps.length := by rw [List.append_nil, ← r.length]; exact F.ln _ _ _ _ h
  refine wpAny_call (codeAny_mono (F.go X.A X.stack s H ⟨us, []⟩ (us ++ []) ws Q E0 hr hgd I.env0 (hb s us I.kIn hl) (by rw [List.append_nil]; exact r) h) fun res s' hq => ?_)
  cases res with
  | error e => exact (hq : False).elim
  | ok fl => cases fl with
    | ret u => exact I.after hq
    | next => exact (hq : False).elim
    | brk => exact (hq : False).elim
    | cont => exact (hq : False).elim
def tCallG (sp : Sp) (t : TA) : TE := fun σ H Q => t σ H fun us H1 => sp us H1 Q E0
theorem pe_callG (F : FnG X.prog X.w X.K X.mg X.base k f fd ps sp) (hr : Room k X.A) (hgd : X.A.guards = some []) (hg : Gl X x) (hm : X.mg x = some (.ref f)) (hk : PySem.W.keepIn X.K (.ref f) = true) (hb : Binds X.K fd ps [])
    (ha : PA X (e :: es) t) (hdb : (x == ("__debug__" : Str)) = false := by decide) (he : starEach (e :: es) X.env = (false, eval e X.env) :: starEach es X.env := by rfl) (hpl : (backTo pos (starEach es X.env)).any (·.1) = false := by rfl) :
    PE X (.Call (.Name x p) (e :: es) [] pos) (tCallG sp t) := ⟨fun pins s σ H Q I h =>
  wpAny_Call_Name_kw (ld_glob I hg hm (PySem.W.callWith_K (h₀ := X.base) I.ok.mod.kin hk (thn (ha.run pos pins s σ H _ I h) fun us s1 ⟨ws, H1, I1, r, q⟩ => ⟨I1.kIn, go_fn F hr hgd hb I1 r q⟩) he hpl) hdb)⟩
theorem pe_callG0 (F : FnG X.prog X.w X.K X.mg X.base k f fd ps sp) (hr : Room k X.A) (hgd : X.A.guards = some []) (hg : Gl X x) (hm : X.mg x = some (.ref f)) (hk : PySem.W.keepIn X.K (.ref f) = true) (hb : Binds X.K fd ps [])
    (hdb : (x == ("__debug__" : Str)) = false := by decide) : PE X (.Call (.Name x p) [] [] pos) (tCallG sp tNil) := ⟨fun pins s σ H Q I h =>
  wpAny_Call_Name_kw (ld_glob I hg hm (PySem.W.callWith_K0 I.kIn hk (go_fn (us := []) (ws := []) F hr hgd hb I .nil h)) hdb)⟩
theorem make_guards {A : Around} {C : Addr} {us : List Value} {kw : List (Str × Value)} (h : A.guards = some []) : (A.under (.builtin "type.__call__" ⟨.ref C :: us, kw⟩)).guards = some [] := by
  simp [Around.under, Code.guards, Code.isGuard, guardIds, pushGuards, h]
def tMakeG (C : Addr) (sp : Sp) (t : TA) : TE := fun σ H Q => t σ H fun us H1 => ∀ x dx, H1 x = none → H1 dx = none → dx ≠ x →
  sp (.ref x :: us) (upd (upd H1 dx (.own x)) x (.ins C dx [])) (fun v H2 => v = .non ∧ Q (.ref x) H2) E0
theorem pe_makeG (M : Mk X.K C f) (F : FnG X.prog X.w X.K X.mg X.base k f fd ps sp) (hr : Room (k + 1) X.A) (hgd : X.A.guards = some []) (hg : Gl X x) (hm : X.mg x = some (.ref C)) (hb : Binds X.K fd ps [])
    (ha : PA X (e :: es) t) (hdb : (x == ("__debug__" : Str)) = false := by decide) (he : starEach (e :: es) X.env = (false, eval e X.env) :: starEach es X.env := by rfl) (hpl : (backTo pos (starEach es X.env)).any (·.1) = false := by rfl) :
    PE X (.Call (.Name x p) (e :: es) [] pos) (tMakeG C sp t) := ⟨fun pins s σ H Q I h =>
  wpAny_Call_Name_kw (ld_glob I hg hm (PySem.W.callWith_K (h₀ := X.base) I.ok.mod.kin M.kp (thn (ha.run pos pins s σ H _ I h) fun us s1 ⟨ws, H1, I1, r, q⟩ => ⟨I1.kIn, by
    have hq := q (s1.heap.objs.size + 1) s1.heap.objs.size (I1.hok.fresh (Nat.le_succ _)) (I1.hok.fresh (Nat.le_refl _)) (Nat.ne_of_lt (Nat.lt_succ_self _))
    have I2 := Inv.made (C := C) I1
    have r2 : Vals (V.ref (s1.heap.objs.size + 1) :: ws) (Value.ref (s1.heap.objs.size + 1) :: us) := .cons rfl r
    have hl : (Value.ref (s1.heap.objs.size + 1) :: us ++ []).length = ps.length := by
      have e := r2.length
      rw [F.ln _ _ _ _ hq] at e
      rw [List.append_nil]; exact e.symm
    refine wpAny_call (make_map (f := f) I1.kIn M.makes M.init (beq_iff_eq.mp M.fn) (codeAny_mono (F.go _ X.stack _ _ ⟨Value.ref (s1.heap.objs.size + 1) :: us, []⟩ (Value.ref (s1.heap.objs.size + 1) :: us ++ []) _ _ E0 (hr.make C us [])
      (make_guards hgd) (I2.env0.make C us []) (hb _ (Value.ref (s1.heap.objs.size + 1) :: us) I2.kIn hl) (by rw [List.append_nil]; exact r2) hq) fun res s' hq' => ?_))
    cases res with
    | error e => exact (hq' : False).elim
    | ok fl => cases fl with
      | ret u =>
        obtain ⟨v, H', I3, rv, ev, q3⟩ := I2.after hq'
        subst ev
        exact ⟨rv, ⟨V.ref (s1.heap.objs.size + 1), H', I3, rfl, q3⟩⟩
      | next => exact (hq' : False).elim
      | brk => exact (hq' : False).elim
      | cont => exact (hq' : False).elim⟩) he hpl) hdb)⟩
end
/-! ### the law's end -/
theorem law_g {P : Program} {w : World} {K : PySem.W.Frag} {mg mb : Str → Option Value} {k : Nat} {fa a : Addr} {fd : FuncData} {x : Str} {sp : Sp} {s1 : Shared} {us : List Value} {ns : List Int}
    (inK : K.In s1.heap) (g1 : s1.heap.Ns mainGlobals mg) (g2 : s1.heap.Ns builtinsNs mb) (g3 : ∀ x : Str, x ≠ "__name__" → mb x = bootBuiltins x) (g4 : s1.heap.NoLimit) (g5 : s1.gens = #[])
    (ha : s1.heap.get? a = some { cls := .type "list", data := .seq us.toArray }) (hi : IntsAre us ns) (hl : ns.length ≤ sizeLine) (hr : Room k callerA)
    (F : ∀ base : Heap, K.In base → base.Ns mainGlobals mg → FnG P w K mg base k fa fd [x] sp) (hbind : ∀ (s : Shared) (u : Value), BindsTo s fd ⟨[u], []⟩ [(x, u)])
    (hsp : ∀ H : Hp, Only H → SqL K H a (ns.map V.int) → sp [.ref a] H (fun v _ => v = .bl true) E0) :
    codeAny (model P w) callerA (.call (.ref fa) ⟨[.ref a], []⟩) (fun r s' => r = .ok (.ret (.bool true)) ∧ OldK s1.heap s'.heap ∧ s'.os = s1.os ∧ AllBare s'.gens) s1 := by
  have rv := vals_ints hi
  have main : ∀ H : Hp, Only H → SqL K H a (ns.map V.int) → HOk P w H s1.heap → (∀ b, H b ≠ none → b = a) → (H a ≠ none → K.lookup a = none) →
      codeAny (model P w) callerA (.call (.ref fa) ⟨[.ref a], []⟩) (fun r s' => r = .ok (.ret (.bool true)) ∧ OldK s1.heap s'.heap ∧ s'.os = s1.os ∧ AllBare s'.gens) s1 := fun H hO hS hok hA hK => by
    have isA : ∀ {b : Addr} {u : HO}, H b = some u → b = a := fun q => hA _ (by rw [q]; exact fun z => nomatch z)
    have noD : ∀ {b : Addr} {o : Obj} {es : Array DictEntry} {ep : Nat}, s1.heap.get? b = some o → o.data = .dict es ep → H b = none := fun {b o es ep} e d => by
      cases q : H b with
      | none => rfl
      | some u =>
        rw [isA q, ha] at e
        cases e
        exact nomatch (show Data.seq us.toArray _ = Data.dict es ep from d)
    have nsK : ∀ {b : Addr} {m : Str → Option Value}, s1.heap.Ns b m → (hidT s1.heap H).Ns b m := fun ⟨o, es, ep, e, d, r⟩ => ⟨o, es, ep, hidT_get e (noD e d), d, r⟩
    have kb : K.In (hidT s1.heap H) := fun b o e => hidT_get (inK b o e) (by
      cases q : H b with
      | none => rfl
      | some u =>
        have e' := isA q
        subst e'
        rw [hK (by rw [q]; exact fun z => nomatch z)] at e
        cases e)
    obtain ⟨mc, c1, c2⟩ := g4
    have e0 : Env0 P w K mg (hidT s1.heap H) callerA [] s1 H := ⟨rfl, ⟨kb, nsK g1, ⟨mb, nsK g2, g3⟩, mc, nsK c1, c2⟩, fun b o e => of_hidT e, Nat.le_of_eq (hidT_size _ _), trivial, fun b hb => (nomatch hb), hok, .of_eq g5⟩
    refine codeAny_mono ((F _ kb (nsK g1)).go callerA [] s1 H ⟨[.ref a], []⟩ [.ref a] [.ref a] _ _ hr rfl e0 (hbind s1 (.ref a)) (.cons rfl .nil) (hsp H hO hS)) fun r s' h => ?_
    cases r with
    | error e => exact (h : False).elim
    | ok fl => cases fl with
      | next => exact (h : False).elim
      | brk => exact (h : False).elim
      | cont => exact (h : False).elim
      | ret u =>
        obtain ⟨v, H', os, bare, un, hok', r', q⟩ := h
        have q' : v = .bl true := q
        subst q'
        obtain rfl : u = Value.bool true := r'
        refine ⟨rfl, OldK.of_keep fun b o e => ?_, os, bare⟩
        cases q : H b with
        | none => exact un.keep b o e q (fun z => nomatch z) (fun z => nomatch z)
        | some u => rcases hO b with z | ⟨ob, xs, z⟩
                    · rw [q] at z; cases z
                    · have f1 := (hok b _ z).1
                      have f2 := (hok' b _ (un.frzs b ob _ z)).1
                      rw [e] at f1
                      cases f1
                      exact f2
  cases hk : K.lookup a with
  | some o =>
    have e := inK a o hk
    rw [ha] at e
    cases e
    exact main (fun _ => none) (fun _ => .inl rfl) (.inr ⟨_, us.toArray, _, hk, rfl, rfl, rfl, by rw [List.size_toArray, hi.length]; exact hl, by simpa using rv⟩) (fun b u z => nomatch (show (none : Option HO) = some u from z)) (fun b z => absurd rfl z) fun z => absurd rfl z
  | none =>
    let H1 : Hp := fun b => if b = a then some (.frz { cls := .type "list", data := .seq us.toArray } (.lst (ns.map V.int))) else none
    have at1 : ∀ {b : Addr} {u : HO}, H1 b = some u → b = a ∧ u = .frz { cls := .type "list", data := .seq us.toArray } (.lst (ns.map V.int)) := fun {b u} z => by
      by_cases hb : b = a
      · exact ⟨hb, Option.some.inj (z.symm.trans (if_pos hb))⟩
      · exact nomatch (if_neg hb : H1 b = none).symm.trans z
    refine main H1 (fun b => ?_) (.inl (.inr ⟨_, if_pos rfl⟩)) (fun b u z => ?_) (fun b z => ?_) fun _ => hk
    · by_cases hb : b = a
      · exact .inr ⟨_, _, if_pos hb⟩
      · exact .inl (if_neg hb)
    · obtain ⟨rfl, rfl⟩ := at1 z
      exact ⟨ha, by rw [List.length_map]; exact hl, us, _, rv, ha⟩
    · cases q : H1 b with
      | none => exact absurd q z
      | some u => exact (at1 q).1
theorem walk_g {l : PySem.W.OpenLaw} {n k : Nat} {q : Program} {loose : List Str} {XP : (Str → Option Value) → Heap → Prop} {YP : World → Heap → Prop} {d : DefRec} {K : Params → PySem.W.Frag} {sp : World → Sp} {x : Str}
    (hn : l.most = some n) (hn2 : n ≤ sizeLine) (hdf : d.params.defaults = []) (hr : Room k callerA) (hY : ∀ (w : World) (h : Heap), YP w h → (K w.params).In h)
    (F : ∀ (w : World) (mg : Str → Option Value) (fa : Addr) (h : Heap), (K w.params).In h → h.Ns mainGlobals mg → mg d.name = some (.ref fa) →
      ∃ fd : FuncData, (∀ (s : Shared) (u : Value), BindsTo s fd ⟨[u], []⟩ [(x, u)]) ∧ ∀ base : Heap, (K w.params).In base → base.Ns mainGlobals mg → FnG l.prog w (K w.params) mg base k fa fd [x] (sp w))
    (hsp : ∀ (w : World) (H : Hp) (a : Addr) (ns : List Int), ns.length ≤ n → Only H → SqL (K w.params) H a (ns.map V.int) → sp w [.ref a] H (fun v _ => v = .bl true) E0) :
    PySem.W.WalkO q loose XP YP l.row.toRowW d [] (fun f us => PySem.call f us) := by
  refine Att.attach_call hn hdf fun w s0 s1 mg mb fa o pm cd doc a us ns G Y ho hd hcd hmg hobj hints hlen hg => ?_
  have inK := hY w _ Y
  obtain ⟨fd, hb, hF⟩ := F w mg fa _ inK G.T.g hmg
  exact law_g inK G.T.g G.T.b G.T.builtins G.T.nolimit hg hobj hints (Nat.le_trans hlen hn2) hr hF hb fun H hO hS => hsp w H a ns hlen hO hS
end Dn

namespace Dn
open PySem PySem.Spec PyProof.Rows L2

section
variable {K : PySem.W.Frag} {bs : List Nat} {vs : List V} {G H G' H' : Hp} {σ : L2.St} {en en' : En} {F F' : Nat → List Addr} {X : Cx}
variable {a b e : Expr} {es : List Expr} {fa fb fc : FE} {pos : Pos}

/-! ### blocks -/
def fSkip : FS := fun en => some (.nx, en)
def fSeq (f g : FS) : FS := fun en => (f en).bind fun q => match q.1 with
  | .nx => g q.2
  | fl => some (fl, q.2)
def fBrk : FS := fun en => some (.bk, en)
def fCnt : FS := fun en => some (.ct, en)
def fNever : FS := fun _ => none
theorem wants.fr {E : Ends} {G1 H1 : Hp} {F1 : Nat → List Addr} {fl : Fl} (f : Fr G H (Ow F) G1 H1 (Ow F1)) (h : wants K bs vs G H F E fl en) : wants K bs vs G1 H1 F1 E fl en := by
  cases fl with
  | nx => exact fun G' H' σ' F' w q => h G' H' σ' F' w (f.trans q)
  | bk => exact fun G' H' σ' F' w q => h G' H' σ' F' w (f.trans q)
  | ct => exact fun G' H' σ' F' w q => h G' H' σ' F' w (f.trans q)
  | rt m => exact fun G' H' σ' F' v fp w q r t => h G' H' σ' F' v fp w (f.trans q) r (Tmp.back f t)
theorem ds_nil : PSs X [] (rds X.K bs fSkip) := pss_nil.imp fun E σ H q => by
  obtain ⟨vs, G, en, F, fl, en', w, hf, k⟩ := q
  cases hf
  exact k G H σ F w Fr.refl
variable {st : Stmt} {rest : List Stmt} {f g : FS}
theorem ds_cons (h1 : PS X st (rds X.K bs f)) (h2 : PSs X rest (rds X.K bs g)) : PSs X (st :: rest) (rds X.K bs (fSeq f g)) := (pss_cons h1 h2).imp fun E σ H q => by
  obtain ⟨vs, G, en, F, fl, en', w, hf, k⟩ := q
  obtain ⟨⟨fl1, e1⟩, h1, z1⟩ := Option.bind_eq_some_iff.mp hf
  refine ⟨vs, G, en, F, fl1, e1, w, h1, ?_⟩
  cases fl1 with
  | nx => exact fun G1 H1 σ1 F1 w1 f1 => ⟨vs, G1, e1, F1, fl, en', w1, z1, k.fr f1⟩
  | bk => cases z1; exact k
  | ct => cases z1; exact k
  | rt m => cases z1; exact k
theorem ds_one (h1 : PS X st (rds X.K bs f)) : PSs X [st] (rds X.K bs f) := pss_one h1
theorem ds_pass : PS X (.Pass pos) (rds X.K bs fSkip) := ps_pass.imp fun E σ H q => by
  obtain ⟨vs, G, en, F, fl, en', w, hf, k⟩ := q
  cases hf
  exact k G H σ F w Fr.refl
theorem ds_break : PS X (.Break pos) (rds X.K bs fBrk) := ps_break.imp fun E σ H q => by
  obtain ⟨vs, G, en, F, fl, en', w, hf, k⟩ := q
  cases hf
  exact k G H σ F w Fr.refl
theorem ds_cont : PS X (.Continue pos) (rds X.K bs fCnt) := ps_continue.imp fun E σ H q => by
  obtain ⟨vs, G, en, F, fl, en', w, hf, k⟩ := q
  cases hf
  exact k G H σ F w Fr.refl
theorem ds_never : PS X st (rds X.K bs fNever) := (ps_never (X := X) (st := st)).imp fun E σ H q => by
  obtain ⟨vs, G, en, F, fl, en', w, hf, k⟩ := q
  cases hf
def fDrop (f : FE) : FS := fun en => (f en).map fun q => (.nx, q.2)
theorem ds_expr (he : PE X e (rd X.K bs fa)) (hs : swapsWith e none pos.line X.env = pure false := by rfl) : PS X (.Expr e pos) (rds X.K bs (fDrop fa)) := (ps_expr he hs).imp fun E σ H q => by
  obtain ⟨vs, G, en, F, fl, en', w, hf, k⟩ := q
  obtain ⟨⟨o, e1⟩, h1, z1⟩ := Option.map_eq_some_iff.mp hf
  cases z1
  exact ⟨vs, G, en, F, o, e1, w, h1, fun G1 H1 F1 v fp w1 f1 r1 t1 => k G1 H1 σ F1 w1 f1⟩
/-! ### return -/
def fRet (f : FE) : FS := fun en => (f en).bind fun q => match q.1 with
  | .val m => some (.rt m, q.2)
  | .pl i => (slotM q.2 i).map fun m => (.rt m, q.2.set i none)
def fRetN : FS := fun en => some (.rt (.p .non), en)
theorem ds_ret (he : PE X e (rd X.K bs fa)) : PS X (.Return (some e) pos) (rds X.K bs (fRet fa)) := (ps_ret he).imp fun E σ H q => by
  obtain ⟨vs, G, en, F, fl, en', w, hf, k⟩ := q
  obtain ⟨⟨o, e1⟩, h1, z1⟩ := Option.bind_eq_some_iff.mp hf
  refine ⟨vs, G, en, F, o, e1, w, h1, fun G1 H1 F1 v fp w1 f1 r1 t1 => ?_⟩
  cases r1 with
  | val r1 =>
    cases z1
    exact k G1 H1 σ F1 v fp w1 f1 r1 t1
  | @pl i _ hv =>
    obtain ⟨m, h2, z2⟩ := Option.map_eq_some_iff.mp z1
    cases z2
    obtain ⟨u, hu, r⟩ := w1.at_ i m (slotM_some h2)
    rw [hv] at hu
    cases hu
    have w2 := w1.drop (i := i)
    have on : ∀ a, Ow (cut F1 i []) a → Ow F1 a ∧ a ∉ F1 i := fun a q => by
      rcases q.cut with q | ⟨_, j, nj, q⟩
      · cases q
      · exact ⟨⟨j, q⟩, fun z => nj (w1.dj j i a q z)⟩
    exact k G1 H1 σ (cut F1 i []) v (F1 i) w2 ⟨f1.hk, f1.gk, f1.gn, fun a q => f1.on a (on a q).1⟩ r fun a ha => ⟨fun q => (on a q).2 ha, f1.on a ⟨i, ha⟩⟩
theorem ds_retN : PS X (.Return none pos) (rds X.K bs fRetN) := ps_retN.imp fun E σ H q => by
  obtain ⟨vs, G, en, F, fl, en', w, hf, k⟩ := q
  cases hf
  exact k G H σ F .non [] w Fr.refl (.p .non) Tmp.nil
/-! ### if -/
def fIf (t : FT) (f g : FS) : FS := fun en => (t en).bind fun p => if p.1 then f p.2 else g p.2
theorem ds_if {c : Expr} {A B : List Stmt} {t : FT} (hc : PT X c (rdt X.K bs t)) (ha : PSs X A (rds X.K bs f)) (hb : PSs X B (rds X.K bs g)) : PS X (.If c A B pos) (rds X.K bs (fIf t f g)) := (ps_if hc ha hb).imp fun E σ H q => by
  obtain ⟨vs, G, en, F, fl, en', w, hf, k⟩ := q
  obtain ⟨⟨b1, e1⟩, h1, z1⟩ := Option.bind_eq_some_iff.mp hf
  refine ⟨vs, G, en, F, b1, e1, w, h1, fun G1 H1 F1 w1 f1 => ?_⟩
  cases b1 with
  | true =>
    rw [if_pos rfl] at z1 ⊢
    exact ⟨vs, G1, e1, F1, fl, en', w1, z1, k.fr f1⟩
  | false =>
    rw [if_neg Bool.false_ne_true] at z1 ⊢
    exact ⟨vs, G1, e1, F1, fl, en', w1, z1, k.fr f1⟩
/-! ### a = e -/
/-- the slot i gets a thing, whatever its length -/
theorem Wf.put' {i : Nat} {v : V} {m : M} {fp : List Addr} (w : Wf K bs vs G H σ en F) (r : RepM K G H v m fp) (n : ∀ a ∈ fp, ¬ Ow F a) (hi : i ∉ bs) : ∃ F', Wf K bs vs G H (σ.set i (some v)) (en.set i (some m)) F' ∧ ∀ a, Ow F' a → Ow F a ∨ a ∈ fp := by
  by_cases hl : i < en.length
  · refine ⟨_, w.put r (fun a ha j _ h => n a ha ⟨j, h⟩) hi hl, fun a q => ?_⟩
    rcases q.cut with q | ⟨_, j, _, q⟩
    · exact .inr q
    · exact .inl ⟨j, q⟩
  · refine ⟨F, ?_, fun a q => .inl q⟩
    have l1 : en.length ≤ i := by omega
    have l2 : σ.length ≤ i := by rw [w.ln]; exact l1
    rw [List.set_eq_of_length_le l1, List.set_eq_of_length_le l2]
    exact w
def setO (i : Nat) (o : Opd) (en : En) : Option En := match o with
  | .val m => some (en.set i (some m))
  | .pl j => (plV j en).map fun q => q.2.set i (some (.p q.1))
theorem setO_ok {i : Nat} {v : V} {o : Opd} {fp : List Addr} {G1 H1 : Hp} {F1 : Nat → List Addr} {e1 : En} (hi : i ∉ bs) (w : Wf K bs vs G1 H1 σ e1 F1) (f : Fr G H (Ow F) G1 H1 (Ow F1)) (r : RepO K G1 H1 σ v o fp) (t : Tmp H F F1 fp) (e : setO i o e1 = some en') :
    ∃ G2 F2, Wf K bs vs G2 H1 (σ.set i (some v)) en' F2 ∧ Fr G H (Ow F) G2 H1 (Ow F2) := by
  cases r with
  | @val _ m _ r =>
    have e' : some (e1.set i (some m)) = some en' := e
    cases e'
    obtain ⟨F2, w2, on⟩ := w.put' r (fun a ha => (t a ha).1) hi
    refine ⟨G1, F2, w2, f.hk, f.gk, f.gn, fun a q => ?_⟩
    rcases on a q with q | q
    · exact f.on a q
    · exact (t a q).2
  | @pl j _ h =>
    have e' : (plV j e1).map (fun q => q.2.set i (some (.p q.1))) = some en' := e
    obtain ⟨⟨d, e2⟩, h1, h2⟩ := Option.map_eq_some_iff.mp e'
    obtain ⟨G2, F2, w2, f2, r2⟩ := toV_ok (o := .pl j) w f (.pl h) Tmp.nil h1
    obtain ⟨F3, w3, on⟩ := w2.put' (RepM.p r2) (fun a ha => nomatch ha) hi
    cases h2
    refine ⟨G2, F3, w3, f2.hk, f2.gk, f2.gn, fun a q => ?_⟩
    rcases on a q with q | q
    · exact f2.on a q
    · cases q
def fSet (i : Nat) (f : FE) : FS := fun en => (f en).bind fun q => (setO i q.1 q.2).map fun e => (.nx, e)
theorem rds_set {i : Nat} (hi : i ∉ bs) (E : Ends) (σ : L2.St) (H : Hp) (q : rds K bs (fSet i fa) E σ H) : tAsg (rd K bs fa) (gName i) E σ H := by
  obtain ⟨vs, G, en, F, fl, en', w, hf, k⟩ := q
  obtain ⟨⟨o, e1⟩, h1, z1⟩ := Option.bind_eq_some_iff.mp hf
  obtain ⟨e2, h2, z2⟩ := Option.map_eq_some_iff.mp z1
  cases z2
  refine ⟨vs, G, en, F, o, e1, w, h1, fun G1 H1 F1 v fp w1 f1 r1 t1 => ?_⟩
  obtain ⟨G2, F2, w2, f2⟩ := setO_ok hi w1 f1 r1 t1 h2
  exact k G2 H1 _ F2 w2 f2
theorem ds_set (i : Nat) {x : Str} {pos' : Pos} (hN : X.N.Nodup) (he : PE X e (rd X.K bs fa)) (hi : X.N[i]? = some x := by rfl) (hx : Loc X.env.scope x := by first | exact Or.inl rfl | exact Or.inr rfl) (hb : i ∉ bs := by decide) (hs : swapsWith e (some (.Name x pos')) pos.line X.env = pure false := by rfl)
    (hf : X.fn x = true ∨ X.env.scope.names.lookup x = some .local := by first | exact .inl rfl | exact .inr rfl) : PS X (.Assign [.Name x pos'] e pos) (rds X.K bs (fSet i fa)) := (ps_set hN hi hx he hs hf).imp fun E σ H q => rds_set hb E σ H q
/-! ### a, b = e1, e2 (no tuple is made) -/
def resO (o : Opd) (en : En) : Option (M × En) := match o with
  | .val m => some (m, en)
  | .pl j => (plV j en).map fun q => (.p q.1, q.2)
theorem resO_ok {v : V} {o : Opd} {fp : List Addr} {m : M} {G1 H1 : Hp} {F1 : Nat → List Addr} {e1 : En} (w : Wf K bs vs G1 H1 σ e1 F1) (f : Fr G H (Ow F) G1 H1 (Ow F1)) (r : RepO K G1 H1 σ v o fp) (t : Tmp H F F1 fp) (e : resO o e1 = some (m, en')) :
    ∃ G2 F2 fq, Wf K bs vs G2 H1 σ en' F2 ∧ Fr G H (Ow F) G2 H1 (Ow F2) ∧ Fr G1 H1 (Ow F1) G2 H1 (Ow F2) ∧ RepM K G2 H1 v m fq ∧ Tmp H F F2 fq ∧ (∀ a ∈ fq, a ∈ fp) := by
  cases r with
  | val r =>
    cases e
    exact ⟨G1, F1, fp, w, f, Fr.refl, r, t, fun _ h => h⟩
  | @pl j _ h =>
    obtain ⟨⟨d, e2⟩, h1, h2⟩ := Option.map_eq_some_iff.mp e
    cases h2
    obtain ⟨G2, F2, w2, f2, r2⟩ := toV_ok (F := F1) (H := H1) (G := G1) (o := .pl j) w Fr.refl (.pl h) Tmp.nil h1
    exact ⟨G2, F2, [], w2, f.trans f2, f2, .p r2, Tmp.nil, fun _ h => nomatch h⟩
def fPar (i j : Nat) (f g : FE) : FS := fun en => (f en).bind fun p => (g p.2).bind fun q => (resO p.1 q.2).bind fun r => (resO q.1 r.2).map fun s => (.nx, (s.2.set i (some r.1)).set j (some s.1))
theorem ds_par (i j : Nat) {x y : Str} {px py pt : Pos} {kt k2 pt2} (hc : X.calm = true) (hN : X.N.Nodup) (ha : PE X a (rd X.K bs fa)) (hb : PE X b (rd X.K bs fb)) (hbi : i ∉ bs := by decide) (hbj : j ∉ bs := by decide)
    (h : ∀ {ta : TA}, PA X [a, b] ta → PS X (.Assign [.Tuple [.Name x px, .Name y py] kt pt] (.Tuple [a, b] k2 pt2) pos) (tPar i j ta)) (hs : starEach [a, b] X.env = (false, eval a X.env) :: starEach [b] X.env := by rfl) (hs2 : starEach [b] X.env = (false, eval b X.env) :: starEach [] X.env := by rfl) :
    PS X (.Assign [.Tuple [.Name x px, .Name y py] kt pt] (.Tuple [a, b] k2 pt2) pos) (rds X.K bs (fPar i j fa fb)) := (h (pa_cons ha (pa_cons hb pa_nil hs2) hs)).imp fun E σ H q => by
  obtain ⟨vs, G, en, F, fl, en', w, hf, k⟩ := q
  obtain ⟨⟨o1, e1⟩, h1, z1⟩ := Option.bind_eq_some_iff.mp hf
  obtain ⟨⟨o2, e2⟩, h2, z2⟩ := Option.bind_eq_some_iff.mp z1
  obtain ⟨⟨m1, e3⟩, h3, z3⟩ := Option.bind_eq_some_iff.mp z2
  obtain ⟨⟨m2, e4⟩, h4, z4⟩ := Option.map_eq_some_iff.mp z3
  cases z4
  refine ⟨vs, G, en, F, o1, e1, w, h1, fun G1 H1 F1 v fp w1 f1 r1 t1 => ⟨vs, G1, e1, F1, o2, e2, w1, h2, fun G2 H2 F2 u fq w2 f2 r2 t2 => ⟨v, u, rfl, ?_⟩⟩⟩
  have at1 : ∀ a ∈ fp, ∃ o, H1 a = some o := fun a ha => by
    cases r1 with
    | val r => exact (r.at_ a ha).2
    | pl _ => cases ha
  have r1' : RepO X.K G2 H2 σ v o1 fp := by
    cases r1 with
    | val r => exact .val (r.frame f2 fun a ha => (t1 a ha).1)
    | pl h => exact .pl h
  have ap : ∀ a ∈ fq, a ∉ fp := fun a ha hp => by
    rcases (t2 a ha).2 with z | z
    · exact (t1 a hp).1 z
    · obtain ⟨o, h⟩ := at1 a hp
      rw [z] at h; cases h
  obtain ⟨G3, F3, fr, w3, f3, f23, r3, t3, s3⟩ := resO_ok w2 (f1.trans f2) r1' (t1.step at1 f2) h3
  have at2 : ∀ a ∈ fq, ∃ o, H2 a = some o := fun a ha => by
    cases r2 with
    | val r => exact (r.at_ a ha).2
    | pl _ => cases ha
  have r2' : RepO X.K G3 H2 σ u o2 fq := by
    cases r2 with
    | val r => exact .val (r.frame f23 fun a ha => (t2 a ha).1)
    | pl h => exact .pl h
  have t2' : Tmp H F F3 fq := Tmp.step (Tmp.back f1 t2) at2 f23
  obtain ⟨G4, F4, fs, w4, f4, f34, r4, t4, s4⟩ := resO_ok w3 f3 r2' t2' h4
  have r3' := r3.frame f34 fun a ha => (t3 a ha).1
  have n3 : ∀ a ∈ fr, ¬ Ow F4 a := fun a ha => f34.notOw (t3 a ha).1 (r3.at_ a ha).2
  obtain ⟨F5, w5, on5⟩ := w4.put' r3' n3 hbi
  obtain ⟨F6, w6, on6⟩ := w5.put' r4 (fun a ha q => by
    rcases on5 a q with q | q
    · exact (t4 a ha).1 q
    · exact ap a (s4 a ha) (s3 a q)) hbj
  refine k G4 H2 _ F6 w6 ⟨f4.hk, f4.gk, f4.gn, fun a q => ?_⟩
  rcases on6 a q with q | q
  · rcases on5 a q with q | q
    · exact f4.on a q
    · exact (t3 a q).2
  · exact (t4 a q).2
/-! ### targets -/
/-- with the slots that are stored into -/
def rdg2 (K : PySem.W.Frag) (bs ts : List Nat) (g : FG) : TG := fun v σ H Q => ∃ vs G en F d en', Wf K bs vs G H σ en F ∧ RepD K G v d ∧ g d en = some en' ∧
  ∀ G' H' σ' F', Wf K bs vs G' H' σ' en' F' → Fr G H (Ow F) G' H' (Ow F') → (σ'.length = σ.length ∧ ∀ j, j ∉ ts → σ'[j]? = σ[j]?) → Q σ' H'
theorem _root_.L2.PG.imp {tg : Expr} {t t' : TG} (h : PG X tg t) (i : ∀ v σ H Q, t' v σ H Q → t v σ H Q) : PG X tg t' := ⟨fun pins s σ H v u Q I r q => h.run pins s σ H v u Q I r (i v σ H Q q)⟩
theorem _root_.L2.PGs.imp {tg : List Expr} {t t' : TGs} (h : PGs X tg t) (i : ∀ v σ H Q, t' v σ H Q → t v σ H Q) : PGs X tg t' := ⟨fun pins s σ H v u Q I r q => h.run pins s σ H v u Q I r (i v σ H Q q)⟩
def gSlot (i : Nat) : FG := fun d en => some (en.set i (some (.p d)))
theorem dg_name (i : Nat) {x : Str} (hN : X.N.Nodup) (hi : X.N[i]? = some x := by rfl) (hx : Loc X.env.scope x := by first | exact Or.inl rfl | exact Or.inr rfl) (hb : i ∉ bs := by decide) (hf : X.fn x = true ∨ X.env.scope.names.lookup x = some .local := by first | exact .inl rfl | exact .inr rfl) : PG X (.Name x pos) (rdg2 X.K bs [i] (gSlot i)) := (pg_name hN hi hx hf).imp fun v σ H Q q => by
  obtain ⟨vs, G, en, F, d, en', w, r, hf, k⟩ := q
  cases hf
  obtain ⟨F', w', on⟩ := w.put' (RepM.p r) (fun a ha => nomatch ha) hb
  refine k G H _ F' w' ⟨fun _ _ h _ => h, fun _ _ h => h, fun _ h _ _ => h, fun a q => ?_⟩ ⟨List.length_set .., fun j hj => List.getElem?_set_ne fun z => hj (by simp [z])⟩
  rcases on a q with q | q
  · exact .inl q
  · cases q
abbrev FGs := List D → En → Option En
def rdgs (K : PySem.W.Frag) (bs ts : List Nat) (g : FGs) : TGs := fun us σ H Q => ∃ vs G en F ds en', Wf K bs vs G H σ en F ∧ RepDs K G us ds ∧ g ds en = some en' ∧
  ∀ G' H' σ' F', Wf K bs vs G' H' σ' en' F' → Fr G H (Ow F) G' H' (Ow F') → (σ'.length = σ.length ∧ ∀ j, j ∉ ts → σ'[j]? = σ[j]?) → Q σ' H'
def gEnd : FGs := fun ds en => match ds with
  | [] => some en
  | _ => none
def gCons1 (g : FG) (gs : FGs) : FGs := fun ds en => match ds with
  | d :: r => (g d en).bind (gs r)
  | [] => none
theorem dgs_nil : PGs X [] (rdgs X.K bs [] gEnd) := pgs_nil.imp fun us σ H Q q => by
  obtain ⟨vs, G, en, F, ds, en', w, r, hf, k⟩ := q
  cases r with
  | nil => cases hf; exact ⟨rfl, k G H σ F w Fr.refl ⟨rfl, fun _ _ => rfl⟩⟩
  | cons _ _ => cases hf
theorem dgs_cons {tg : Expr} {tgs : List Expr} {ts us : List Nat} {g : FG} {gs : FGs} (h : PG X tg (rdg2 X.K bs ts g)) (hs : PGs X tgs (rdgs X.K bs us gs)) (hc : ∀ {t : TG} {u : TGs}, PG X tg t → PGs X tgs u → PGs X (tg :: tgs) (gCons t u) := by exact fun a b => pgs_cons a b) : PGs X (tg :: tgs) (rdgs X.K bs (ts ++ us) (gCons1 g gs)) := (hc h hs).imp fun ws σ H Q q => by
  obtain ⟨vs, G, en, F, ds, en', w, r, hf, k⟩ := q
  cases r with
  | nil => cases hf
  | @cons v us d ds r rr =>
    obtain ⟨e1, h1, z1⟩ := Option.bind_eq_some_iff.mp (show (g d en).bind (gs ds) = some en' from hf)
    refine ⟨v, us, rfl, vs, G, en, F, d, e1, w, r, h1, fun G1 H1 σ1 F1 w1 f1 k1 => ⟨vs, G1, e1, F1, ds, en', w1, rr.mono f1.gk, z1, fun G2 H2 σ2 F2 w2 f2 k2 => k G2 H2 σ2 F2 w2 (f1.trans f2) ⟨k2.1.trans k1.1, fun j hj => ?_⟩⟩⟩
    rw [k2.2 j fun z => hj (List.mem_append_right _ z), k1.2 j fun z => hj (List.mem_append_left _ z)]
def gTupl (gs : FGs) : FG := fun d en => match d with
  | .tup ds => gs ds en
  | _ => none
theorem dg_tup {tgs : List Expr} {k : Nat} {ts : List Nat} {gs : FGs} {n : Nat} (hc : X.calm = true) (hs : PGs X tgs (rdgs X.K bs ts fun ds en => if ds.length = n then gs ds en else none))
    (hn : (assignEach tgs X.env).length = n := by rfl) (hst : (assignEach tgs X.env).findIdx? (·.1) = none := by rfl) : PG X (.Tuple tgs k pos) (rdg2 X.K bs ts (gTupl fun ds en => if ds.length = n then gs ds en else none)) := (pg_tup hc hs hn hst).imp fun v σ H Q q => by
  obtain ⟨vs, G, en, F, d, en', w, r, hf, kk⟩ := q
  cases r with
  | @tup a us ds h1 h2 =>
    have hf' : (if ds.length = n then gs ds en else none) = some en' := hf
    have hl : ds.length = n := by
      by_cases o : ds.length = n
      · exact o
      · rw [if_neg o] at hf'; cases hf'
    exact ⟨a, us, rfl, seqT_mono w.sub h1, h2.length.trans hl, vs, G, en, F, ds, en', w, h2, hf', kk⟩
  | _ => cases hf
/-- the same, whatever their number -/
theorem dg_tup' {tgs : List Expr} {k : Nat} {ts : List Nat} {gs : FGs} {n : Nat} (hc : X.calm = true) (hs : PGs X tgs (rdgs X.K bs ts gs)) (hn : (assignEach tgs X.env).length = n := by rfl) (hl : ∀ ds en en', gs ds en = some en' → ds.length = n) (hst : (assignEach tgs X.env).findIdx? (·.1) = none := by rfl) :
    PG X (.Tuple tgs k pos) (rdg2 X.K bs ts (gTupl gs)) := (pg_tup hc hs hn hst).imp fun v σ H Q q => by
  obtain ⟨vs, G, en, F, d, en', w, r, hf, kk⟩ := q
  cases r with
  | @tup a us ds h1 h2 => exact ⟨a, us, rfl, seqT_mono w.sub h1, h2.length.trans (hl _ _ _ (show gs ds en = some en' from hf)), vs, G, en, F, ds, en', w, h2, hf, kk⟩
  | _ => cases hf
def fAsg (f : FV) (g : FG) : FS := fun en => (f en).bind fun q => (g q.1 q.2).map fun e => (.nx, e)
/-- a, b = e, e a tuple -/
theorem ds_unpack {tgs : List Expr} {kk : Nat} {tpos : Pos} {ts : List Nat} {g : FG} (he : PE X e (rd X.K bs fa)) (hg : PG X (.Tuple tgs kk tpos) (rdg2 X.K bs ts g)) (hs : swapsWithSole [.Tuple tgs kk tpos] e pos.line X.env = pure false := by rfl) (hw : swappedStores [.Tuple tgs kk tpos] e X.env = pure none := by rfl) : PS X (.Assign [.Tuple tgs kk tpos] e pos) (rds X.K bs (fAsg (fV fa) g)) := (ps_asg (dv he) hg hs hw).imp fun E σ H q => by
  obtain ⟨vs, G, en, F, fl, en', w, hf, k⟩ := q
  obtain ⟨⟨d, e1⟩, h1, z1⟩ := Option.bind_eq_some_iff.mp hf
  obtain ⟨e2, h2, z2⟩ := Option.map_eq_some_iff.mp z1
  cases z2
  exact ⟨vs, G, en, F, d, e1, w, h1, fun G1 H1 F1 v w1 f1 r1 => ⟨vs, G1, e1, F1, d, _, w1, r1, h2, fun G2 H2 σ2 F2 w2 f2 _ => k G2 H2 σ2 F2 w2 (f1.trans f2)⟩⟩
end
end Dn

namespace Dn
open PySem PySem.Spec PyProof.Rows L2

section
variable {K : PySem.W.Frag} {bs : List Nat} {vs : List V} {G H G' H' : Hp} {σ : L2.St} {en en' : En} {F F' : Nat → List Addr} {X : Cx}
variable {a b e : Expr} {es : List Expr} {fa fb fc fo : FE} {pos : Pos} {st : Stmt} {rest : List Stmt} {f g : FS}

/-! ### x.append(e), x[i] = e -/
def putL (k : Nat) (h : List D → Option (List D)) (en : En) : Option En := match slotM en k with
  | some (.ml xs) => (h xs).map fun ys => en.set k (some (.ml ys))
  | _ => none
/-- the list at the slot k is changed -/
theorem putL_ok {k : Nat} {h : List D → Option (List D)} {x : V} (w : Wf K bs vs G H σ en F) (hx : σ[k]? = some (some x)) (e : putL k h en = some en') :
    ∃ p us xs ys, x = .ref p ∧ H p = some (.lst us) ∧ RepDs K G us xs ∧ h xs = some ys ∧ en' = en.set k (some (.ml ys)) ∧ ∀ ws, RepDs K G ws ys → ∃ F', Wf K bs vs G (upd H p (.lst ws)) σ en' F' ∧ Fr G H (Ow F) G (upd H p (.lst ws)) (Ow F') := by
  unfold putL at e
  split at e
  · next xs hs =>
    obtain ⟨ys, h1, h2⟩ := Option.map_eq_some_iff.mp e
    obtain ⟨u, hu, r⟩ := w.at_ k _ (slotM_some hs)
    rw [hx] at hu
    cases hu
    generalize hF : F k = fk at r
    cases r with
    | @ml p us _ r1 r2 r3 =>
      refine ⟨p, us, xs, ys, rfl, r1, r3, h1, h2.symm, fun ws rw_ => ?_⟩
      have fr : Fr G H (fun a => a ∈ F k) G (upd H p (.lst ws)) (fun a => a ∈ [p]) := by
        rw [hF]
        refine ⟨fun a o q n => ?_, fun _ _ q => q, fun a q _ _ => q, fun a q => .inl q⟩
        rw [upd_ne fun z => n (by rw [z]; exact List.mem_singleton.mpr rfl)]
        exact q
      have sub : Same G (upd H p (.lst ws)) := fun a o q => by
        rw [upd_ne (ne_of_none q r2)]
        exact w.sub a o q
      rw [← h2]
      exact ⟨_, w.upd_ fr sub hx (.ml upd_same r2 rw_), Fr.cut fr⟩
  · cases e
def isMl (en : En) (k : Nat) : Option Unit := match slotM en k with
  | some (.ml _) => some ()
  | _ => none
theorem isMl_ok {k : Nat} {x : V} (w : Wf K bs vs G H σ en F) (e : isMl en k = some ()) (hx : σ[k]? = some (some x)) : ∃ p us, x = .ref p ∧ H p = some (.lst us) := by
  unfold isMl at e
  split at e
  · next xs hs =>
    obtain ⟨u, hu, r⟩ := w.at_ k _ (slotM_some hs)
    rw [hx] at hu
    cases hu
    generalize F k = fk at r
    cases r with
    | ml h1 _ _ => exact ⟨_, _, rfl, h1⟩
  · cases e
theorem isMl_slot {k : Nat} (w : Wf K bs vs G H σ en F) (e : isMl en k = some ()) : ∃ x, σ[k]? = some (some x) := by
  unfold isMl at e
  split at e
  · next xs hs =>
    obtain ⟨u, hu, r⟩ := w.at_ k _ (slotM_some hs)
    exact ⟨u, hu⟩
  · cases e
def fApp (k : Nat) (fv : FV) : FE := fun en => (isMl en k).bind fun _ => (fv en).bind fun q => (putL k (fun xs => if xs.length < lim then some (xs ++ [q.1]) else none) q.2).map fun e => (.val (.p .non), e)
theorem rd_app {k : Nat} {to : TE} (hto : to = tVar k) (σ : L2.St) (H : Hp) (Q : VK) (q : rd K bs (fApp k (fV fa)) σ H Q) : tBM K "list" rAppend to (tCons (rdv K bs (fV fa)) tNil) σ H Q := by
  subst hto
  obtain ⟨vs, G, en, F, o, en', w, hf, kk⟩ := q
  obtain ⟨_, h0, z0⟩ := Option.bind_eq_some_iff.mp hf
  obtain ⟨⟨d, e1⟩, h1, z1⟩ := Option.bind_eq_some_iff.mp z0
  obtain ⟨e2, h2, z2⟩ := Option.map_eq_some_iff.mp z1
  cases z2
  obtain ⟨x, hx⟩ := isMl_slot w h0
  obtain ⟨p, us, rfl, hp⟩ := isMl_ok w h0 hx
  refine ⟨_, hx, .inl ⟨rfl, us, .inl (.inl hp)⟩, vs, G, en, F, d, e1, w, h1, fun G1 H1 F1 v w1 f1 r1 => ?_⟩
  obtain ⟨p', us', xs, ys, hp', h3, h4, h5, h6, h7⟩ := putL_ok w1 hx h2
  cases hp'
  by_cases o : xs.length < lim
  · rw [if_pos o] at h5
    cases h5
    refine ⟨p, us', v, rfl, rfl, h3, by rw [h4.length]; exact Nat.lt_of_lt_of_le o lim_line, ?_⟩
    obtain ⟨F2, w2, f2⟩ := h7 (us' ++ [v]) (h4.append (.cons r1 .nil))
    exact kk G1 _ F2 _ [] w2 (f1.trans f2) (.val (.p .non)) Tmp.nil
  · rw [if_neg o] at h5; cases h5
theorem de_app (k : Nat) {x : Str} {p1 apos : Pos} (hv : PE X (.Name x p1) (tVar k)) (ha : PE X a (rd X.K bs fa))
    (h : ∀ {to : TE} {t : TA}, PE X (.Name x p1) to → PA X [a] t → PE X (.Call (.Attribute (.Name x p1) "append" apos) [a] [] pos) (tBM X.K "list" rAppend to t)) (hs : starEach [a] X.env = (false, eval a X.env) :: starEach [] X.env := by rfl) :
    PE X (.Call (.Attribute (.Name x p1) "append" apos) [a] [] pos) (rd X.K bs (fApp k (fV fa))) := (h hv (pa_cons (dv ha) pa_nil hs)).imp fun σ H Q q => rd_app rfl σ H Q q
/-- x[i] = e -/
def fSetIx (k : Nat) (fv : FV) (fi : FE) : FS := fun en => (fv en).bind fun q => (isMl q.2 k).bind fun _ => (fi q.2).bind fun r => ((cont r.2 r.1).bind intM).bind fun i => (putL k (fun xs => (ixN xs.length i).map fun j => xs.set j q.1) r.2).map fun e => (.nx, e)
theorem ds_setIx (k : Nat) {x : Str} {p1 p2 : Pos} (hv : PE X (.Name x p1) (tVar k)) (hi : PE X b (rd X.K bs fb)) (he : PE X e (rd X.K bs fa))
    (h : ∀ {to ti te : TE}, PE X (.Name x p1) to → PE X b ti → PE X e te → PS X (.Assign [.Subscript (.Name x p1) b p2] e pos) (tAsg te (L2.gSub to ti rSetL))) :
    PS X (.Assign [.Subscript (.Name x p1) b p2] e pos) (rds X.K bs (fSetIx k (fV fa) fb)) := (h hv hi (dv he)).imp fun E σ H q => by
  obtain ⟨vs, G, en, F, fl, en', w, hf, kk⟩ := q
  obtain ⟨⟨d, e1⟩, h1, z1⟩ := Option.bind_eq_some_iff.mp hf
  obtain ⟨_, h2, z2⟩ := Option.bind_eq_some_iff.mp z1
  obtain ⟨⟨o, e2⟩, h3, z3⟩ := Option.bind_eq_some_iff.mp z2
  obtain ⟨i, h4, z4⟩ := Option.bind_eq_some_iff.mp z3
  obtain ⟨e3, h5, z5⟩ := Option.map_eq_some_iff.mp z4
  obtain ⟨m, h6, h7⟩ := Option.bind_eq_some_iff.mp h4
  cases z5
  refine ⟨vs, G, en, F, d, e1, w, h1, fun G1 H1 F1 v w1 f1 r1 => ?_⟩
  obtain ⟨x, hx⟩ := isMl_slot w1 h2
  refine ⟨x, hx, vs, G1, e1, F1, o, e2, w1, h3, fun G2 H2 F2 y fy w2 f2 r2 t2 => ?_⟩
  obtain ⟨_, c2⟩ := cont_ok r2 t2 Fr.refl w2 h6
  have em := intM_some h7
  subst em
  obtain ⟨p', us', xs, ys, hp', g3, g4, g5, g6, g7⟩ := putL_ok w2 hx h5
  obtain ⟨j, j1, j2⟩ := Option.map_eq_some_iff.mp g5
  subst j2 hp'
  refine ⟨p', us', i, j, rfl, c2.int, g3, by rw [g4.length]; exact j1, ?_⟩
  obtain ⟨F3, w3, f3⟩ := g7 (us'.set j v) (g4.set (r1.mono f2.gk) j)
  exact kk G2 _ σ F3 w3 ((f1.trans f2).trans f3)

/-! ### what a for walks -/
abbrev FI := En → Option (List D × En)
def IterOk (K : PySem.W.Frag) (J : It) (G1 : Hp) (ds : List D) : Prop := ∀ G H, Same G1 G → Same G H → (∀ i, i < ds.length → J.go i H) ∧ J.stop ds.length H ∧
  ∀ i x H', i < ds.length → J.yld i H x H' → ∃ G' d, Ext G H G' H' [] ∧ ds[i]? = some d ∧ RepD K G' x d
def rdi (K : PySem.W.Frag) (bs : List Nat) (f : FI) : TI := fun σ H R => ∃ vs G en F ds en', Wf K bs vs G H σ en F ∧ f en = some (ds, en') ∧
  ∀ G' H' F' J, Wf K bs vs G' H' σ en' F' → Fr G H (Ow F) G' H' (Ow F') → IterOk K J G' ds → R J H'
theorem _root_.L2.PI.imp {tg it : Expr} {t t' : TI} (h : PI X tg it t) (i : ∀ σ H R, t' σ H R → t σ H R) : PI X tg it t' := ⟨fun pins s σ H R I q => h.run pins s σ H R I (i σ H R q)⟩
theorem iter_list {a : Addr} {us : List V} {ds : List D} (h : SqL K G a us) (r : RepDs K G us ds) : IterOk K (Itl K a) G ds := fun G1 H1 s1 s2 => by
  have h2 : SqL K H1 a us := (s1.trans s2).seq h
  refine ⟨fun i hi => ?_, ⟨us, h2, Nat.le_of_eq r.length⟩, fun i x H' hi y => ?_⟩
  · obtain ⟨v, hv, _⟩ := r.get (i := i) (d := ds[i]) (List.getElem?_eq_getElem hi)
    exact ⟨us, v, h2, hv⟩
  · obtain ⟨rfl, hy⟩ := y
    obtain ⟨d, hd, rd⟩ := r.get' (hy us h2)
    exact ⟨G1, d, Ext.refl s2, hd, rd.mono s1⟩
theorem iter_tup {a : Addr} {us : List V} {ds : List D} (h : SqT K G a us) (r : RepDs K G us ds) : IterOk K (Itt K a) G ds := fun G1 H1 s1 s2 => by
  have h2 : SqT K H1 a us := seqT_mono (s1.trans s2) h
  refine ⟨fun i hi => ?_, ⟨us, h2, Nat.le_of_eq r.length⟩, fun i x H' hi y => ?_⟩
  · obtain ⟨v, hv, _⟩ := r.get (i := i) (d := ds[i]) (List.getElem?_eq_getElem hi)
    exact ⟨us, v, h2, hv⟩
  · obtain ⟨rfl, hy⟩ := y
    obtain ⟨d, hd, rd⟩ := r.get' (hy us h2)
    exact ⟨G1, d, Ext.refl s2, hd, rd.mono s1⟩
def rangeD (lo hi : Int) : List D := (List.range (hi - lo).toNat).map fun i => .int (lo + (i : Nat))
theorem iter_range (lo hi : Int) : IterOk K (Itr lo (hi - lo).toNat) G (rangeD lo hi) := fun G1 H1 s1 s2 => by
  have hl : (rangeD lo hi).length = (hi - lo).toNat := by unfold rangeD; rw [List.length_map, List.length_range]
  refine ⟨fun i hi => by rw [hl] at hi; exact hi, by rw [hl]; exact Nat.le_refl _, fun i x H' hi y => ?_⟩
  obtain ⟨rfl, rfl⟩ := y
  rw [hl] at hi
  refine ⟨G1, .int (lo + (i : Nat)), Ext.refl s2, ?_, .int _⟩
  unfold rangeD
  rw [List.getElem?_map, List.getElem?_range hi]
  rfl
/-- a list or a tuple -/
def iSeq (K : PySem.W.Frag) (tl : TE) : TI := fun σ H R => tl σ H fun x H1 => ∃ a, x = .ref a ∧ ((∃ xs, SqL K H1 a xs ∧ R (Itl K a) H1) ∨ (∃ xs, SqT K H1 a xs ∧ R (Itt K a) H1))
theorem pi_seq {tg l : Expr} {tl : TE} (hl : PE X l tl) : PI X tg l (iSeq X.K tl) := ⟨fun pins s σ H R I h => by
  refine thn (hl.run pins s σ H _ I h) fun v s1 ⟨x, H1, I1, r1, a, e, q⟩ => ?_
  subst e
  cases r1
  have fpok : ∀ b ∈ [s1.heap.objs.size], FpOk X pins H1 b := fun b hb => by
    rw [List.mem_singleton.mp hb]
    exact I1.fpOk (Nat.le_refl _) (I1.hok.fresh (Nat.le_refl _))
  rcases q with ⟨xs, hq, q⟩ | ⟨xs, hq, q⟩
  · obtain ⟨its, rv, p', hz⟩ := I1.list hq
    exact wpAny_pyIter_list p'.isList ⟨s1.heap.objs.size, [s1.heap.objs.size], _, _, H1, rfl, I1.kept (t' := s1.toks) (fun b o e => Heap.get?_push_of_some _ e), turn_list a s1.heap.objs.size, ⟨_, Heap.get?_push_size _ rfl, rfl, rfl⟩, fpok, q⟩
  · obtain ⟨its, rv, p', hz⟩ := I1.tuple hq
    exact wpAny_pyIter_tuple (show s1.heap.IsTuple a its.toArray from p') ⟨s1.heap.objs.size, [s1.heap.objs.size], _, _, H1, rfl, I1.kept (t' := s1.toks) (fun b o e => Heap.get?_push_of_some _ e), turn_tuple a s1.heap.objs.size, ⟨_, Heap.get?_push_size _ rfl, rfl, rfl⟩, fpok, q⟩⟩
def fSeqI (fv : FV) : FI := fun en => (fv en).bind fun q => match q.1 with
  | .lst xs => some (xs, q.2)
  | .tup xs => some (xs, q.2)
  | _ => none
theorem di_seq {tg : Expr} (ha : PE X a (rd X.K bs fa)) : PI X tg a (rdi X.K bs (fSeqI (fV fa))) := (pi_seq (dv ha)).imp fun σ H R q => by
  obtain ⟨vs, G, en, F, ds, en', w, hf, k⟩ := q
  obtain ⟨⟨d, e1⟩, h1, z1⟩ := Option.bind_eq_some_iff.mp hf
  refine ⟨vs, G, en, F, d, e1, w, h1, fun G1 H1 F1 v w1 f1 r1 => ?_⟩
  cases r1 with
  | @lst p us xs h2 h3 =>
    have e : some (xs, e1) = some (ds, en') := z1
    cases e
    exact ⟨p, rfl, .inl ⟨us, w1.sub.seq h2, k G1 H1 F1 _ w1 f1 (iter_list h2 h3)⟩⟩
  | @tup p us xs h2 h3 =>
    have e : some (xs, e1) = some (ds, en') := z1
    cases e
    exact ⟨p, rfl, .inr ⟨us, seqT_mono w1.sub h2, k G1 H1 F1 _ w1 f1 (iter_tup h2 h3)⟩⟩
  | _ => cases z1
/-! range -/
def okR (i : Int) : Bool := decide (-(2 ^ 62) ≤ i) && decide (i < 2 ^ 62)
def intD : D → Option Int
  | .int i => some i
  | _ => none
def fRng1 (fl : FL) : FI := fun en => (fl en).bind fun q => match q.1 with
  | [.int j] => if okR j then some (rangeD 0 j, q.2) else none
  | _ => none
def fRng2 (fl : FL) : FI := fun en => (fl en).bind fun q => match q.1 with
  | [.int i, .int j] => if okR i && okR j then some (rangeD i j, q.2) else none
  | _ => none
theorem RepDs.one {us : List V} {i : Int} (r : RepDs K G us [.int i]) : us = [.int i] := by
  cases r with
  | cons r t => cases r; cases t; rfl
theorem RepDs.two {us : List V} {i j : Int} (r : RepDs K G us [.int i, .int j]) : us = [.int i, .int j] := by
  cases r with
  | cons r t =>
    cases r
    rw [t.one]
variable {fl : FL} {p : Pos}
theorem di_rng1 {tg : Expr} (hm : X.mg "range" = none) (ha : PA X [a] (rdl X.K bs fl)) (hg : Gl X "range" := by rfl) (hs : starEach [a] X.env = [(false, eval a X.env)] := by rfl) : PI X tg (.Call (.Name "range" p) [a] [] pos) (rdi X.K bs (fRng1 fl)) := (pi_range1 hg hm ha hs).imp fun σ H R q => by
  obtain ⟨vs, G, en, F, ds, en', w, hf, k⟩ := q
  obtain ⟨⟨d, e1⟩, h1, z1⟩ := Option.bind_eq_some_iff.mp hf
  refine ⟨vs, G, en, F, d, e1, w, h1, fun G1 H1 F1 us w1 f1 r1 => ?_⟩
  split at z1
  · next j hd =>
    have hd : d = [.int j] := hd
    subst hd
    by_cases o : okR j = true
    · rw [if_pos o] at z1
      cases z1
      have o' := Bool.and_eq_true_iff.mp o
      have := iter_range (K := X.K) (G := G1) 0 j
      rw [Int.sub_zero] at this
      exact ⟨j, r1.one, of_decide_eq_true o'.1, of_decide_eq_true o'.2, k G1 H1 F1 _ w1 f1 this⟩
    · rw [if_neg o] at z1; cases z1
  · cases z1
theorem di_rng2 {tg : Expr} (hm : X.mg "range" = none) (ha : PA X [a, b] (rdl X.K bs fl)) (hg : Gl X "range" := by rfl) (hs : starEach [a, b] X.env = [(false, eval a X.env), (false, eval b X.env)] := by rfl) (hs2 : starEach [b] X.env = [(false, eval b X.env)] := by rfl) : PI X tg (.Call (.Name "range" p) [a, b] [] pos) (rdi X.K bs (fRng2 fl)) := (pi_range2 hg hm ha hs hs2).imp fun σ H R q => by
  obtain ⟨vs, G, en, F, ds, en', w, hf, k⟩ := q
  obtain ⟨⟨d, e1⟩, h1, z1⟩ := Option.bind_eq_some_iff.mp hf
  refine ⟨vs, G, en, F, d, e1, w, h1, fun G1 H1 F1 us w1 f1 r1 => ?_⟩
  split at z1
  · next i j hd =>
    have hd : d = [.int i, .int j] := hd
    subst hd
    by_cases o : (okR i && okR j) = true
    · rw [if_pos o] at z1
      cases z1
      have o1 := Bool.and_eq_true_iff.mp (Bool.and_eq_true_iff.mp o).1
      have o2 := Bool.and_eq_true_iff.mp (Bool.and_eq_true_iff.mp o).2
      exact ⟨i, j, r1.two, ⟨of_decide_eq_true o1.1, of_decide_eq_true o1.2, of_decide_eq_true o2.1, of_decide_eq_true o2.2⟩, k G1 H1 F1 _ w1 f1 (iter_range i j)⟩
    · rw [if_neg o] at z1; cases z1
  · cases z1
/-! enumerate -/
def IteT (K : PySem.W.Frag) (a : Addr) : It :=
  ⟨fun i H => ∃ (xs : List V) (x : V), SqT K H a xs ∧ xs[i]? = some x, fun i H v H' => ∃ T x, v = .ref T ∧ H T = none ∧ H' = upd H T (.tup [.int (i : Nat), x]) ∧ ∀ xs, SqT K H a xs → xs[i]? = some x, fun i H => ∃ xs : List V, SqT K H a xs ∧ xs.length = i⟩
theorem turn_enumT {P : Program} {w : World} {K : PySem.W.Frag} {elts : List Expr} {kk : Nat} {tpos : Pos} (a e it : Addr) :
    Turn P w K (.Tuple elts kk tpos) (IteT K a) [e, it] e (fun i h => (∃ old, IsEnum h e it ((i : Nat) : Int) old) ∧ h.IsTupleIter it a i ∧ e ≠ it ∧ e ≠ a ∧ a ≠ it) where
  mem := by simp
  obj := fun i h st b hb => by
    obtain ⟨⟨old, he⟩, ⟨o, ho, hc, hd⟩, _⟩ := st
    rcases (show b = e ∨ b = it by simpa using hb) with z | z
    · rw [z]; exact ⟨_, he, fun v q => nomatch q⟩
    · rw [z]; exact ⟨o, ho, fun v q => by rw [hd] at q; cases q⟩
  keep := fun i h h' st k => by
    obtain ⟨⟨old, he⟩, hi, hne⟩ := st
    exact ⟨⟨old, k e (by simp) _ he⟩, hi.at (fun o q => k it (by simp) o q), hne⟩
  item := by
    intro X hP hw hK hc i pins s σ H E I hf st hg
    subst hP hw hK
    obtain ⟨⟨old, he⟩, hit, hne, hea, hai⟩ := st
    obtain ⟨xs, x, hq, hx⟩ := hg
    obtain ⟨its, rv, p, hz⟩ := I.tuple hq
    obtain ⟨u, hu, ru⟩ := rv.get hx
    have hT : s.heap.IsTuple a its.toArray := p
    have hel : e < s.heap.objs.size := Heap.lt_size he
    have hil : it < s.heap.objs.size := by
      obtain ⟨_, q, _⟩ := hit
      exact Heap.lt_size q
    have hlt : i < its.toArray.size := by
      have := (List.getElem?_eq_some_iff.mp hu).1
      simpa using this
    refine wpAny_pyNext_enum_itemD (PySem.Draws.tuple (prog := X.prog) (w := X.w) (A := X.A.in1) (I.ok.hd hc) it a hai its.toArray) he ⟨hit, hT⟩ hlt hne (by simp [hne, hea]) fun x' h' tk hx' ho hit' hT' hsz hk => ?_
    have ex : x' = u := by
      have q1 : its.toArray[i]? = some x' := hx'
      rw [show its.toArray[i]? = its[i]? by simp, hu] at q1
      exact (Option.some.inj q1).symm
    subst ex
    refine ⟨_, rfl, wpAny_letOwnedTupleGo_enum (s := { s with heap := h', toks := tk + 1 }) ho fun h2 he' sb => ?_⟩
    have hT2 : h2.get? s.heap.objs.size = some { cls := .type "tuple", data := .seq #[.int i tk, x'] } := (sb.2 _ (Nat.ne_of_gt hel)).trans hT'
    have new : ObjOk X.prog X.w (upd H s.heap.objs.size (.tup [.int (i : Nat), x])) h2 s.heap.objs.size (.tup [.int (i : Nat), x]) :=
      ⟨(by decide : 2 ≤ sizeLine), [.int i tk, x'], .cons ⟨_, rfl⟩ (.cons ru .nil), ⟨_, hT2, rfl, _, rfl⟩⟩
    have I1 : Inv X pins σ (upd H s.heap.objs.size (.tup [.int (i : Nat), x])) { s with heap := h2, toks := tk + 1 } :=
      I.turnedNew (t' := tk + 1) (ch := [e, it]) (fun b ob hb q => (sb.2 b fun z => hb (by simp [z])).trans (hk b ob (fun z => hb (by simp [z])) (fun z => hb (by simp [z])) q)) hf (Nat.le_refl _) new
    refine ⟨.ref s.heap.objs.size, _, I1, rfl, ⟨_, x, rfl, I.hok.fresh (Nat.le_refl _), rfl, fun ys hy => by rw [I.tuple_inj hy hq]; exact hx⟩, ⟨⟨x', ?_⟩, hit'.1.at (fun o q => (sb.2 it (Ne.symm hne)).trans q), hne, hea, hai⟩, fun b hb => ?_⟩
    · rw [show ((i + 1 : Nat) : Int) = (i : Int) + 1 by omega]
      exact he'
    · have hb' : b < s.heap.objs.size := by
        rcases (show b = e ∨ b = it by simpa using hb) with z | z
        · rw [z]; exact hel
        · rw [z]; exact hil
      rw [upd_ne (Nat.ne_of_lt hb')]
      exact (hf b hb).1
  done := by
    intro X hP hw hK hc i pins s σ H E I hf st hg
    subst hP hw hK
    obtain ⟨⟨old, he⟩, hit, hne, hea, hai⟩ := st
    obtain ⟨xs, hq, hx⟩ := hg
    obtain ⟨its, rv, p, hz⟩ := I.tuple hq
    have hT : s.heap.IsTuple a its.toArray := p
    obtain ⟨f0, f1, f2, f3, f4, f5⟩ := hf it (by simp)
    have hl := rv.length
    have hz' : its.toArray.size = i := by rw [List.size_toArray]; omega
    exact wpAny_pyNext_enum_endD (PySem.Draws.tuple (prog := X.prog) (w := X.w) (A := X.A.in1) (I.ok.hd hc) it a hai its.toArray) he (by rw [hz']; exact ⟨hit, hT⟩) fun h' eb => ⟨rfl, I.turned (t' := s.toks) (fun b o hb q => eb b o hb q) f0 f1 f3 f4 f5⟩
  self := fun A i s Q E st h => by
    obtain ⟨⟨_, he⟩, _⟩ := st
    exact wpAny_pyIter_enum he h
theorem enum_newT (t : Addr) (items : Array Value) (n : Nat) (dct : Option Addr) (sl : Array (Option Value)) :
    Meets (Builtin.«enumerate.__new__» ⟨[.type "enumerate", .ref t], []⟩) (fun _ R s => s.heap.get? t = some { cls := .type "tuple", dict := dct, data := .seq items n, slots := sl } ∧
      R (.ok (.ret (.ref (s.heap.push { cls := .type "tuple_iterator", data := .fields #[.ref t, .int 0 0] }).objs.size)))
        { s with heap := (s.heap.push { cls := .type "tuple_iterator", data := .fields #[.ref t, .int 0 0] }).push { cls := .type "enumerate", data := .fields #[.none, .bool false, .ref s.heap.objs.size, rawInt 0, .none, .none] } }) :=
  .of_wp fun prog w A R s h => by
    obtain ⟨hp, g, d, tk, os⟩ := s
    obtain ⟨hl, h⟩ := h
    have sb := sub_enumerate
    have hL : Heap.IsTuple (Shared.heap ⟨hp, g, d, tk, os⟩) t items := ⟨_, hl, rfl, n, rfl⟩
    wp_walk using PySem.AutoSeq1.wpAny_loadPart' hl
    refine wpAny_stack_any fun st => wpAny_pure ?_
    split
    · rename_i c _ _ _ _ _
      cases (c == Value.type "enumerate")
      · wp_walk using PySem.AutoSeq1.wpAny_loadPart' hl, PySem.wpAny_pyIter_tuple hL
        exact ⟨_, rfl, h⟩
      · wp_walk using PySem.AutoSeq1.wpAny_loadPart' hl, PySem.wpAny_pyIter_tuple hL
        exact ⟨_, rfl, h⟩
    · wp_walk using PySem.AutoSeq1.wpAny_loadPart' hl, PySem.wpAny_pyIter_tuple hL
      exact ⟨_, rfl, h⟩
theorem call_enumT {prog : Program} {w : World} {A : Around} {E : Value → Shared → Prop} {s : Shared} {t : Addr} {items : Array Value} {Q : Value → Shared → Prop} (hL : s.heap.IsTuple t items)
    (h : ∀ h', IsEnum h' (s.heap.objs.size + 1) s.heap.objs.size 0 .none → h'.IsTupleIter s.heap.objs.size t 0 → h'.objs.size = s.heap.objs.size + 2 →
      (∀ b o, s.heap.get? b = some o → h'.get? b = some o) → Q (.ref (s.heap.objs.size + 1)) { s with heap := h' }) : wpAny (model prog w) A (call (.type "enumerate") [.ref t]) Q E s := by
  obtain ⟨⟨c, dct, dt, sl⟩, hl, hc, n, hd⟩ := hL
  simp only at hc hd
  subst hc hd
  refine callType_new PySem.F.called_enumerate (by decide) (PySem.F.typeCall_enumerate_1 _) (PySem.F.newCall_enumerate_1 _) (fun obj => PySem.F.args_object_init_2 obj _) PySem.F.entry_enumerate_new (enum_newT t items n dct sl) ⟨hl, ?_⟩
  have hz : (s.heap.push { cls := .type "tuple_iterator", data := .fields #[.ref t, .int 0 0] }).objs.size = s.heap.objs.size + 1 := Heap.size_push ..
  show _ ∧ _
  rw [hz]
  have he : IsEnum ((s.heap.push { cls := .type "tuple_iterator", data := .fields #[.ref t, .int 0 0] }).push { cls := .type "enumerate", data := .fields #[.none, .bool false, .ref s.heap.objs.size, rawInt 0, .none, .none] }) (s.heap.objs.size + 1) s.heap.objs.size 0 .none := by
    have q := Heap.get?_push_size (s.heap.push { cls := .type "tuple_iterator", data := .fields #[.ref t, .int 0 0] }) (o := { cls := .type "enumerate", data := .fields #[.none, .bool false, .ref s.heap.objs.size, rawInt 0, .none, .none] }) rfl
    rw [hz] at q
    exact q
  exact ⟨⟨_, he, rfl⟩, h _ he ⟨_, Heap.get?_push_of_some _ (Heap.get?_push_size _ rfl), rfl, rfl⟩ (by rw [Heap.size_push, hz]) fun b o x => Heap.get?_push_of_some _ (Heap.get?_push_of_some _ x)⟩
/-- enumerate of a list or a tuple -/
def iEnumS (K : PySem.W.Frag) (ta : TA) : TI := fun σ H R => ta σ H fun us H1 => ∃ a xs, us = [.ref a] ∧ ((SqL K H1 a xs ∧ R (Ite K a) H1) ∨ (SqT K H1 a xs ∧ R (IteT K a) H1))
theorem pi_enumS {elts : List Expr} {kk : Nat} {tpos : Pos} {ta : TA} (hm : X.mg "enumerate" = none) (ha : PA X [e] ta) (hg : Gl X "enumerate" := by rfl) (hs : starEach [e] X.env = [(false, eval e X.env)] := by rfl) :
    PI X (.Tuple elts kk tpos) (.Call (.Name "enumerate" p) [e] [] pos) (iEnumS X.K ta) := ⟨fun pins s σ H R I h => by
  refine Call_ (ld_blt I hg hm boot_enumerate (PyProof.Rows.callWith_type1 (thn (ha.run pos pins s σ H _ I h) fun us s1 ⟨ws, H1, I1, r1, a, xs, ex, q1⟩ => ?_) hs rfl))
  subst ex
  cases r1 with
  | cons r rr =>
    cases rr
    cases r
    have fpok : ∀ b ∈ [s1.heap.objs.size + 1, s1.heap.objs.size], FpOk X pins H1 b := fun b hb => by
      have hle : s1.heap.objs.size ≤ b := by
        rcases (show b = s1.heap.objs.size + 1 ∨ b = s1.heap.objs.size by simpa using hb) with z | z <;> omega
      exact I1.fpOk hle (I1.hok.fresh hle)
    rcases q1 with ⟨hq, q⟩ | ⟨hq, q⟩
    · obtain ⟨its, rv, p', hz⟩ := I1.list hq
      exact call_enumerate_list p'.isList fun h' he hit hsz hk => wpAny_pyIter_enum he ⟨s1.heap.objs.size + 1, [s1.heap.objs.size + 1, s1.heap.objs.size], _, _, H1, rfl, I1.kept (t' := s1.toks) hk, turn_enum a (s1.heap.objs.size + 1) s1.heap.objs.size, ⟨⟨.none, he⟩, hit, Nat.succ_ne_self _⟩, fpok, q⟩
    · obtain ⟨its, rv, p', hz⟩ := I1.tuple hq
      obtain ⟨ob, ho, _⟩ := id p'
      have hlt := Heap.lt_size ho
      exact call_enumT (show s1.heap.IsTuple a its.toArray from p') fun h' he hit hsz hk => wpAny_pyIter_enum he ⟨s1.heap.objs.size + 1, [s1.heap.objs.size + 1, s1.heap.objs.size], _, _, H1, rfl, I1.kept (t' := s1.toks) hk, turn_enumT a (s1.heap.objs.size + 1) s1.heap.objs.size, ⟨⟨.none, he⟩, hit, Nat.succ_ne_self _, Nat.ne_of_gt (Nat.lt_succ_of_lt hlt), Nat.ne_of_lt hlt⟩, fpok, q⟩⟩
def enumD (xs : List D) : List D := (List.range xs.length).zipWith (fun i d => .tup [.int (i : Nat), d]) xs
theorem enumD_len (xs : List D) : (enumD xs).length = xs.length := by unfold enumD; simp
theorem enumD_get {xs : List D} {i : Nat} {d : D} (h : xs[i]? = some d) : (enumD xs)[i]? = some (.tup [.int (i : Nat), d]) := by
  unfold enumD
  have hl : i < xs.length := (List.getElem?_eq_some_iff.mp h).1
  rw [List.getElem?_zipWith, List.getElem?_range hl, h]
theorem iter_enumL {a : Addr} {us : List V} {ds : List D} (h : SqL K G a us) (r : RepDs K G us ds) : IterOk K (Ite K a) G (enumD ds) := fun G1 H1 s1 s2 => by
  have h2 : SqL K H1 a us := (s1.trans s2).seq h
  rw [enumD_len]
  refine ⟨fun i hi => ?_, ⟨us, h2, Nat.le_of_eq r.length⟩, fun i x H' hi y => ?_⟩
  · obtain ⟨v, hv, _⟩ := r.get (i := i) (d := ds[i]) (List.getElem?_eq_getElem hi)
    exact ⟨us, v, h2, hv⟩
  · obtain ⟨T, z, rfl, nT, rfl, hy⟩ := y
    obtain ⟨d, hd, rd⟩ := r.get' (hy us h2)
    have ex := Ext.newP (o := .tup [.int (i : Nat), z]) s2 nT
    exact ⟨_, _, ex, enumD_get hd, .tup (.inl (.inl upd_same)) (.cons (.int _) (.cons (rd.mono (s1.trans ex.gk)) .nil))⟩
theorem iter_enumT {a : Addr} {us : List V} {ds : List D} (h : SqT K G a us) (r : RepDs K G us ds) : IterOk K (IteT K a) G (enumD ds) := fun G1 H1 s1 s2 => by
  have h2 : SqT K H1 a us := seqT_mono (s1.trans s2) h
  rw [enumD_len]
  refine ⟨fun i hi => ?_, ⟨us, h2, r.length⟩, fun i x H' hi y => ?_⟩
  · obtain ⟨v, hv, _⟩ := r.get (i := i) (d := ds[i]) (List.getElem?_eq_getElem hi)
    exact ⟨us, v, h2, hv⟩
  · obtain ⟨T, z, rfl, nT, rfl, hy⟩ := y
    obtain ⟨d, hd, rd⟩ := r.get' (hy us h2)
    have ex := Ext.newP (o := .tup [.int (i : Nat), z]) s2 nT
    exact ⟨_, _, ex, enumD_get hd, .tup (.inl (.inl upd_same)) (.cons (.int _) (.cons (rd.mono (s1.trans ex.gk)) .nil))⟩
def fEnum (fl : FL) : FI := fun en => (fl en).bind fun q => match q.1 with
  | [.lst xs] => some (enumD xs, q.2)
  | [.tup xs] => some (enumD xs, q.2)
  | _ => none
theorem di_enum {elts : List Expr} {kk : Nat} {tpos : Pos} (hm : X.mg "enumerate" = none) (ha : PA X [a] (rdl X.K bs fl)) (hg : Gl X "enumerate" := by rfl) (hs : starEach [a] X.env = [(false, eval a X.env)] := by rfl) :
    PI X (.Tuple elts kk tpos) (.Call (.Name "enumerate" p) [a] [] pos) (rdi X.K bs (fEnum fl)) := (pi_enumS hm ha hg hs).imp fun σ H R q => by
  obtain ⟨vs, G, en, F, ds, en', w, hf, k⟩ := q
  obtain ⟨⟨d, e1⟩, h1, z1⟩ := Option.bind_eq_some_iff.mp hf
  refine ⟨vs, G, en, F, d, e1, w, h1, fun G1 H1 F1 us w1 f1 r1 => ?_⟩
  split at z1
  · next xs hd =>
    have hd : d = [.lst xs] := hd
    subst hd
    cases z1
    cases r1 with
    | cons r t =>
      cases t
      cases r with
      | lst h2 h3 => exact ⟨_, _, rfl, .inl ⟨w1.sub.seq h2, k G1 H1 F1 _ w1 f1 (iter_enumL h2 h3)⟩⟩
  · next xs hd =>
    have hd : d = [.tup xs] := hd
    subst hd
    cases z1
    cases r1 with
    | cons r t =>
      cases t
      cases r with
      | tup h2 h3 => exact ⟨_, _, rfl, .inr ⟨seqT_mono w1.sub h2, k G1 H1 F1 _ w1 f1 (iter_enumT h2 h3)⟩⟩
  · cases z1
/-! zip of two lists, of two tuples -/
def zipD (xs ys : List D) : List D := xs.zipWith (fun a b => .tup [a, b]) ys
theorem zipD_get {xs ys : List D} {i : Nat} {d e : D} (h : xs[i]? = some d) (h' : ys[i]? = some e) : (zipD xs ys)[i]? = some (.tup [d, e]) := by
  unfold zipD
  rw [List.getElem?_zipWith, h, h']
theorem zipD_len (xs ys : List D) : (zipD xs ys).length = min xs.length ys.length := by unfold zipD; simp
theorem iter_zipL {a b : Addr} {us ws : List V} {ds es : List D} (h : SqL K G a us) (h' : SqL K G b ws) (r : RepDs K G us ds) (r' : RepDs K G ws es) : IterOk K (Itz K a b) G (zipD ds es) := fun G1 H1 s1 s2 => by
  have h2 : SqL K H1 a us := (s1.trans s2).seq h
  have h2' : SqL K H1 b ws := (s1.trans s2).seq h'
  rw [zipD_len]
  refine ⟨fun i hi => ?_, ⟨us, ws, h2, h2', by rw [r.length, r'.length]; omega⟩, fun i x H' hi y => ?_⟩
  · obtain ⟨v, hv, _⟩ := r.get (i := i) (d := ds[i]'(by omega)) (List.getElem?_eq_getElem (by omega))
    obtain ⟨v', hv', _⟩ := r'.get (i := i) (d := es[i]'(by omega)) (List.getElem?_eq_getElem (by omega))
    exact ⟨us, ws, v, v', h2, h2', hv, hv'⟩
  · obtain ⟨T, z, z', rfl, nT, rfl, hy, hy'⟩ := y
    obtain ⟨d, hd, rd⟩ := r.get' (hy us h2)
    obtain ⟨d', hd', rd'⟩ := r'.get' (hy' ws h2')
    have ex := Ext.newP (o := .tup [z, z']) s2 nT
    exact ⟨_, _, ex, zipD_get hd hd', .tup (.inl (.inl upd_same)) (.cons (rd.mono (s1.trans ex.gk)) (.cons (rd'.mono (s1.trans ex.gk)) .nil))⟩
theorem iter_zipT {a b : Addr} {us ws : List V} {ds es : List D} (h : SqT K G a us) (h' : SqT K G b ws) (r : RepDs K G us ds) (r' : RepDs K G ws es) : IterOk K (RZ.ItzT K a b) G (zipD ds es) := fun G1 H1 s1 s2 => by
  have h2 : SqT K H1 a us := seqT_mono (s1.trans s2) h
  have h2' : SqT K H1 b ws := seqT_mono (s1.trans s2) h'
  rw [zipD_len]
  refine ⟨fun i hi => ?_, ⟨us, ws, h2, h2', by rw [r.length, r'.length]; omega⟩, fun i x H' hi y => ?_⟩
  · obtain ⟨v, hv, _⟩ := r.get (i := i) (d := ds[i]'(by omega)) (List.getElem?_eq_getElem (by omega))
    obtain ⟨v', hv', _⟩ := r'.get (i := i) (d := es[i]'(by omega)) (List.getElem?_eq_getElem (by omega))
    exact ⟨us, ws, v, v', h2, h2', hv, hv'⟩
  · obtain ⟨T, z, z', rfl, nT, rfl, hy, hy'⟩ := y
    obtain ⟨d, hd, rd⟩ := r.get' (hy us h2)
    obtain ⟨d', hd', rd'⟩ := r'.get' (hy' ws h2')
    have ex := Ext.newP (o := .tup [z, z']) s2 nT
    exact ⟨_, _, ex, zipD_get hd hd', .tup (.inl (.inl upd_same)) (.cons (rd.mono (s1.trans ex.gk)) (.cons (rd'.mono (s1.trans ex.gk)) .nil))⟩
def fZip (fl : FL) : FI := fun en => (fl en).bind fun q => match q.1 with
  | [.lst xs, .lst ys] => some (zipD xs ys, q.2)
  | [.tup xs, .tup ys] => some (zipD xs ys, q.2)
  | _ => none
theorem di_zip {elts : List Expr} {kk : Nat} {tpos : Pos} (hm : X.mg "zip" = none) (ha : PA X [a, b] (rdl X.K bs fl)) (hg : Gl X "zip" := by rfl) (hs : starEach [a, b] X.env = (false, eval a X.env) :: starEach [b] X.env := by rfl) (hpl : (backTo pos (starEach [b] X.env)).any (·.1) = false := by rfl) :
    PI X (.Tuple elts kk tpos) (.Call (.Name "zip" p) [a, b] [] pos) (rdi X.K bs (fZip fl)) := (RZ.pi_zipA hg hm ha hs hpl).imp fun σ H R q => by
  obtain ⟨vs, G, en, F, ds, en', w, hf, k⟩ := q
  obtain ⟨⟨d, e1⟩, h1, z1⟩ := Option.bind_eq_some_iff.mp hf
  refine ⟨vs, G, en, F, d, e1, w, h1, fun G1 H1 F1 us w1 f1 r1 => ?_⟩
  split at z1
  · next xs ys hd =>
    have hd : d = [.lst xs, .lst ys] := hd
    subst hd
    cases z1
    cases r1 with
    | cons r t =>
      cases t with
      | cons r' t =>
        cases t
        cases r with
        | lst h2 h3 => cases r' with
          | lst h2' h3' => exact ⟨_, _, _, _, rfl, .inl ⟨w1.sub.seq h2, w1.sub.seq h2', k G1 H1 F1 _ w1 f1 (iter_zipL h2 h2' h3 h3')⟩⟩
  · next xs ys hd =>
    have hd : d = [.tup xs, .tup ys] := hd
    subst hd
    cases z1
    cases r1 with
    | cons r t =>
      cases t with
      | cons r' t =>
        cases t
        cases r with
        | tup h2 h3 => cases r' with
          | tup h2' h3' => exact ⟨_, _, _, _, rfl, .inr ⟨seqT_mono w1.sub h2, seqT_mono w1.sub h2', k G1 H1 F1 _ w1 f1 (iter_zipT h2 h2' h3 h3')⟩⟩
  · cases z1
end
end Dn

namespace Dn
open PySem PySem.Spec PyProof.Rows L2

section
variable {K : PySem.W.Frag} {bs : List Nat} {vs : List V} {G H G' H' : Hp} {σ : L2.St} {en en' : En} {F F' : Nat → List Addr} {X : Cx}
variable {a b e : Expr} {es : List Expr} {fa fb fc fo : FE} {pos : Pos} {st : Stmt} {rest : List Stmt} {f g : FS}

/-! ### for -/
def forL (fg : FG) (fb : FS) : List D → En → Option (Fl × En)
  | [], en => some (.nx, en)
  | d :: r, en => (fg d en).bind fun e1 => (fb e1).bind fun q => match q.1 with
    | .nx => forL fg fb r q.2
    | .ct => forL fg fb r q.2
    | .bk => some (.nx, q.2)
    | .rt m => some (.rt m, q.2)
def fFor (fi : FI) (fg : FG) (fb : FS) : FS := fun en => (fi en).bind fun q => forL fg fb q.1 q.2
theorem ds_for {tg it : Expr} {body : List Stmt} {fi : FI} {fg : FG} {fb : FS} {ts : List Nat} (hp : PassesOwn (model X.prog X.w) X.A X.env X.xe) (hc : X.calm = true) (hi : PI X tg it (rdi X.K bs fi)) (hg : PG X tg (rdg2 X.K bs ts fg)) (hb : PSs X body (rds X.K bs fb)) (hfs : ∀ x, foldedSetIterable it X.env x = pure x := by intro _; rfl) :
    PS X (.For tg it body [] pos) (rds X.K bs (fFor fi fg fb)) := (ps_for hp hc hi hg hb hfs).imp fun E σ H q => by
  obtain ⟨vs, G, en, F, fl, en', w, hf, k⟩ := q
  obtain ⟨⟨ds, e1⟩, h1, z1⟩ := Option.bind_eq_some_iff.mp hf
  refine ⟨vs, G, en, F, ds, e1, w, h1, fun G1 H1 F1 J w1 f1 ok => ?_⟩
  have z1 : forL fg fb ds e1 = some (fl, en') := z1
  refine ⟨fun i m σ2 H2 => i + m = ds.length ∧ ∃ G2 e2 F2, Wf X.K bs vs G2 H2 σ2 e2 F2 ∧ Fr G H (Ow F) G2 H2 (Ow F2) ∧ Same G1 G2 ∧ forL fg fb (ds.drop i) e2 = some (fl, en'), ⟨ds.length, by omega, G1, e1, F1, w1, f1, fun _ _ h => h, by rw [List.drop_zero]; exact z1⟩, ?_⟩
  rintro i m σ2 H2 ⟨him, G2, e2, F2, w2, f2, s2, z2⟩
  obtain ⟨o1, o2, o3⟩ := ok G2 H2 s2 w2.sub
  by_cases hi : i < ds.length
  · refine .inr ⟨o1 i hi, fun σ3 H3 => ∃ G3 e3 F3, Wf X.K bs vs G3 H3 σ3 e3 F3 ∧ Fr G H (Ow F) G3 H3 (Ow F3) ∧ Same G1 G3 ∧ forL fg fb (ds.drop (i + 1)) e3 = some (fl, en'), fun σ3 H3 h3 => ⟨m - 1, by omega, by omega, h3⟩, fun x H3 y => ?_⟩
    obtain ⟨G3, d, ex, hd, rd⟩ := o3 i x H3 hi y
    rw [List.drop_eq_getElem_cons hi] at z2
    have ed : ds[i] = d := by
      rw [List.getElem?_eq_getElem hi] at hd
      exact Option.some.inj hd
    rw [ed] at z2
    obtain ⟨e4, h4, z3⟩ := Option.bind_eq_some_iff.mp (show (fg d e2).bind _ = some (fl, en') from z2)
    have w3 := ex.wf w2
    have f3 := f2.trans ex.fr
    refine ⟨vs, G3, e2, F2, d, e4, w3, rd, h4, fun G4 H4 σ4 F4 w4 f4 _ => ?_⟩
    obtain ⟨⟨fl5, e5⟩, h5, z4⟩ := Option.bind_eq_some_iff.mp z3
    have f34 := f3.trans f4
    have s4 : Same G1 G4 := (s2.trans ex.gk).trans f4.gk
    refine ⟨vs, G4, e4, F4, fl5, e5, w4, h5, ?_⟩
    cases fl5 with
    | nx => exact fun G5 H5 σ5 F5 w5 f5 => ⟨G5, e5, F5, w5, f34.trans f5, s4.trans f5.gk, z4⟩
    | ct => exact fun G5 H5 σ5 F5 w5 f5 => ⟨G5, e5, F5, w5, f34.trans f5, s4.trans f5.gk, z4⟩
    | bk =>
      cases z4
      exact fun G5 H5 σ5 F5 w5 f5 => k G5 H5 σ5 F5 w5 (f34.trans f5)
    | rt m =>
      cases z4
      exact fun G5 H5 σ5 F5 v fp w5 f5 r5 t5 => k G5 H5 σ5 F5 v fp w5 (f34.trans f5) r5 (Tmp.back f34 t5)
  · have hz : i = ds.length := by omega
    subst hz
    rw [List.drop_length] at z2
    cases z2
    exact .inl ⟨o2, k G2 H2 σ2 F2 w2 f2⟩
/-! ### while -/
def whL (ft : FT) (fb : FS) : Nat → En → Option (Fl × En)
  | 0, _ => none
  | n + 1, en => (ft en).bind fun p => if p.1 then (fb p.2).bind fun q => match q.1 with
      | .nx => whL ft fb n q.2
      | .ct => whL ft fb n q.2
      | .bk => some (.nx, q.2)
      | .rt m => some (.rt m, q.2)
    else some (.nx, p.2)
def fWhile (n : Nat) (ft : FT) (fb : FS) : FS := whL ft fb n
theorem ds_while {c : Expr} {body : List Stmt} {ft : FT} {fb : FS} (n : Nat) (hp : PassesOwn (model X.prog X.w) X.A X.env X.xe) (hc : PT X c (rdt X.K bs ft)) (hb : PSs X body (rds X.K bs fb)) :
    PS X (.While c body [] pos) (rds X.K bs (fWhile n ft fb)) := (ps_while hp hc hb).imp fun E σ H q => by
  obtain ⟨vs, G, en, F, fl, en', w, hf, k⟩ := q
  refine ⟨fun m σ2 H2 => ∃ G2 e2 F2, Wf X.K bs vs G2 H2 σ2 e2 F2 ∧ Fr G H (Ow F) G2 H2 (Ow F2) ∧ whL ft fb m e2 = some (fl, en'), ⟨n, G, en, F, w, Fr.refl, hf⟩, ?_⟩
  rintro m σ2 H2 ⟨G2, e2, F2, w2, f2, z2⟩
  cases m with
  | zero => cases z2
  | succ m =>
    obtain ⟨⟨b1, e3⟩, h3, z3⟩ := Option.bind_eq_some_iff.mp (show (ft e2).bind _ = some (fl, en') from z2)
    refine ⟨vs, G2, e2, F2, b1, e3, w2, h3, fun G3 H3 F3 w3 f3 => ?_⟩
    have f23 := f2.trans f3
    cases b1 with
    | false =>
      rw [if_neg Bool.false_ne_true] at z3
      cases z3
      exact iteF (k G3 H3 σ2 F3 w3 f23)
    | true =>
      rw [if_pos rfl] at z3
      refine iteT ⟨fun σ3 H3 => ∃ G3 e3 F3, Wf X.K bs vs G3 H3 σ3 e3 F3 ∧ Fr G H (Ow F) G3 H3 (Ow F3) ∧ whL ft fb m e3 = some (fl, en'), fun σ3 H3 h => ⟨m, Nat.lt_succ_self _, h⟩, ?_⟩
      obtain ⟨⟨fl5, e5⟩, h5, z4⟩ := Option.bind_eq_some_iff.mp z3
      refine ⟨vs, G3, e3, F3, fl5, e5, w3, h5, ?_⟩
      cases fl5 with
      | nx => exact fun G5 H5 σ5 F5 w5 f5 => ⟨G5, e5, F5, w5, f23.trans f5, z4⟩
      | ct => exact fun G5 H5 σ5 F5 w5 f5 => ⟨G5, e5, F5, w5, f23.trans f5, z4⟩
      | bk =>
        cases z4
        exact fun G5 H5 σ5 F5 w5 f5 => k G5 H5 σ5 F5 w5 (f23.trans f5)
      | rt m =>
        cases z4
        exact fun G5 H5 σ5 F5 v fp w5 f5 r5 t5 => k G5 H5 σ5 F5 v fp w5 (f23.trans f5) r5 (Tmp.back f23 t5)
/-! ### [e for x in xs if t] -/
def wipeE (en : En) : List Nat → En
  | [] => en
  | i :: r => (wipeE en r).set i none
theorem wipe_out' {σ : L2.St} {i : Nat} : ∀ {ws : List Nat}, i ∉ ws → (wipe σ ws)[i]? = σ[i]?
  | [], _ => rfl
  | w :: ws, h => by
    unfold wipe
    rw [List.getElem?_set_ne fun z => h (by simp [z])]
    exact wipe_out' fun z => h (by simp [z])
theorem wipe_at {σ : L2.St} {i : Nat} : ∀ {ws : List Nat}, i ∈ ws → ∀ v, (wipe σ ws)[i]? ≠ some (some v)
  | w :: ws, h, v, e => (wipe_some e).2 h
theorem Wf.drop' {i : Nat} (w : Wf K bs vs G H σ en F) (hb : i ∉ bs) : ∃ F', Wf K bs vs G H (σ.set i none) (en.set i none) F' ∧ ∀ a, Ow F' a → Ow F a := by
  have w1 := w.drop (i := i)
  refine ⟨cut F i [], ⟨w1.sub, by rw [List.length_set]; exact w1.ln, fun j m h => ?_, w1.em, w1.dj, fun j hj => ?_⟩, fun a q => ?_⟩
  · have hj : i ≠ j := fun z => by
      subst z
      by_cases hl : i < en.length
      · rw [List.getElem?_set_self hl] at h; cases h
      · rw [List.getElem?_eq_none (by rw [List.length_set]; omega)] at h; cases h
    rw [List.getElem?_set_ne hj]
    exact w1.at_ j m h
  · rw [List.getElem?_set_ne fun z => hb (by rw [z]; exact hj)]
    exact w1.bs j hj
  · rcases q.cut with q | ⟨_, j, _, q⟩
    · cases q
    · exact ⟨j, q⟩
theorem Wf.wipe : ∀ {ws : List Nat}, (∀ i ∈ ws, i ∉ bs) → Wf K bs vs G H σ en F → ∃ F', Wf K bs vs G H (L2.wipe σ ws) (wipeE en ws) F' ∧ ∀ a, Ow F' a → Ow F a
  | [], _, w => ⟨F, w, fun _ h => h⟩
  | i :: ws, hb, w => by
    obtain ⟨F1, w1, o1⟩ := Wf.wipe (ws := ws) (fun j hj => hb j (by simp [hj])) w
    obtain ⟨F2, w2, o2⟩ := w1.drop' (hb i (by simp))
    exact ⟨F2, w2, fun a q => o1 a (o2 a q)⟩
theorem wipe_same {σ τ : L2.St} {ws : List Nat} (hl : τ.length = σ.length) (h : ∀ j, j ∉ ws → τ[j]? = (L2.wipe σ ws)[j]?) : L2.wipe τ ws = L2.wipe σ ws := by
  apply List.ext_getElem?
  intro j
  by_cases hj : j ∈ ws
  · have n1 := fun v => wipe_at (σ := τ) hj v
    have n2 := fun v => wipe_at (σ := σ) hj v
    have l1 : (L2.wipe τ ws).length = (L2.wipe σ ws).length := by rw [wipe_length, wipe_length, hl]
    by_cases hlt : j < (L2.wipe σ ws).length
    · have e1 : (L2.wipe τ ws)[j]? = some none := by
        rw [List.getElem?_eq_getElem (by omega)]
        cases q : (L2.wipe τ ws)[j]'(by omega) with
        | none => rfl
        | some v => exact absurd (by rw [List.getElem?_eq_getElem (by omega), q]) (n1 v)
      have e2 : (L2.wipe σ ws)[j]? = some none := by
        rw [List.getElem?_eq_getElem hlt]
        cases q : (L2.wipe σ ws)[j] with
        | none => rfl
        | some v => exact absurd (by rw [List.getElem?_eq_getElem hlt, q]) (n2 v)
      rw [e1, e2]
    · rw [List.getElem?_eq_none (by omega), List.getElem?_eq_none (by omega)]
  · rw [wipe_out' hj, h j hj]
/-- behind a comprehension its own names' slots hold what they held, if it never changes -/
def restE (en0 : En) : List Nat → En → En
  | [], en => en
  | i :: r, en => (restE en0 r en).set i (match slotM en0 i with
    | some (.p d) => some (.p d)
    | _ => none)
def lcL (ws : List Nat) (fg : FG) (ft : FT) (fv : FV) : List D → En → List D → Option (List D × En)
  | [], en, acc => some (acc, en)
  | d :: r, en, acc => (fg d en).bind fun e1 => (ft e1).bind fun p => if p.1 then (fv p.2).bind fun q => if acc.length < lim then lcL ws fg ft fv r (wipeE q.2 ws) (acc ++ [q.1]) else none
    else lcL ws fg ft fv r (wipeE p.2 ws) acc
def fLc (ws : List Nat) (fi : FI) (fg : FG) (ft : FT) (fv : FV) : FE := fun en => (fi en).bind fun q => (lcL ws fg ft fv q.1 (wipeE q.2 ws) []).map fun r => (.val (.ml r.1), restE q.2 ws r.2)
theorem Wf.restore {G0 H0 : Hp} {en0 : En} {F0 : Nat → List Addr} (w0 : Wf K bs vs G0 H0 σ en0 F0) (s0 : Same G0 G) : ∀ {ws : List Nat}, (∀ i ∈ ws, i ∉ bs) → Wf K bs vs G H (L2.wipe σ ws) en F → (∀ i ∈ ws, ∀ m, en[i]? ≠ some (some m)) →
    ∃ F', Wf K bs vs G H σ (restE en0 ws en) F' ∧ ∀ a, Ow F' a → Ow F a := fun {ws} hb w hn => by
  -- first σ itself with the slots forgotten
  have w1 : Wf K bs vs G H σ en F := by
    refine ⟨w.sub, by rw [← w.ln, wipe_length], fun i m h => ?_, w.em, w.dj, fun i hi => ?_⟩
    · have hi : i ∉ ws := fun z => hn i z m h
      obtain ⟨v, hv, r⟩ := w.at_ i m h
      rw [wipe_out' hi] at hv
      exact ⟨v, hv, r⟩
    · rw [← w.bs i hi, wipe_out' fun z => hb i z hi]
  clear w
  have main : ∀ {ws : List Nat}, (∀ i ∈ ws, F i = []) → ∃ F', Wf K bs vs G H σ (restE en0 ws en) F' ∧ (∀ a, Ow F' a → Ow F a) ∧ ∀ i, F i = [] → F' i = [] := fun {ws} => by
    induction ws with
    | nil => exact fun _ => ⟨F, w1, fun _ h => h, fun _ h => h⟩
    | cons i r ih =>
      intro hF
      obtain ⟨F1, w2, o2, n2⟩ := ih fun j hj => hF j (by simp [hj])
      have hi := n2 i (hF i (by simp))
      unfold restE
      split
      · next d hs =>
        obtain ⟨v, hv, r0⟩ := w0.at_ i _ (slotM_some hs)
        have fr : Fr G H (fun a => a ∈ F1 i) G H (fun a => a ∈ ([] : List Addr)) := ⟨fun _ _ h _ => h, fun _ _ h => h, fun _ h _ _ => h, fun _ h => nomatch h⟩
        refine ⟨cut F1 i [], w2.upd_ fr w2.sub hv (.p (r0.d.mono s0)), fun a q => ?_, fun j hj => ?_⟩
        · rcases q.cut with q | ⟨_, j, _, q⟩
          · cases q
          · exact o2 a ⟨j, q⟩
        · by_cases e : j = i
          · rw [e, cut_at]
          · rw [cut_ne e]; exact n2 j hj
      · refine ⟨cut F1 i [], w2.drop, fun a q => ?_, fun j hj => ?_⟩
        · rcases q.cut with q | ⟨_, j, _, q⟩
          · cases q
          · exact o2 a ⟨j, q⟩
        · by_cases e : j = i
          · rw [e, cut_at]
          · rw [cut_ne e]; exact n2 j hj
  obtain ⟨F', h1, h2, _⟩ := main (ws := ws) fun i hi => w1.em i (hn i hi)
  exact ⟨F', h1, h2⟩
theorem wipeE_none {en : En} : ∀ {ws : List Nat}, ∀ i ∈ ws, ∀ m, (wipeE en ws)[i]? ≠ some (some m)
  | [], _, h, _, _ => nomatch h
  | w :: ws, i, h, m, e => by
    unfold wipeE at e
    by_cases q : w = i
    · subst q
      by_cases hl : w < (wipeE en ws).length
      · rw [List.getElem?_set_self hl] at e; cases e
      · rw [List.getElem?_eq_none (by rw [List.length_set]; omega)] at e; cases e
    · rw [List.getElem?_set_ne q] at e
      rcases List.mem_cons.mp h with z | z
      · exact q z.symm
      · exact wipeE_none i z m e
theorem lcL_none {ws : List Nat} {fg : FG} {ft : FT} {fv : FV} : ∀ {ds : List D} {en : En} {acc : List D} {r : List D × En}, lcL ws fg ft fv ds en acc = some r → (∀ i ∈ ws, ∀ m, en[i]? ≠ some (some m)) → ∀ i ∈ ws, ∀ m, r.2[i]? ≠ some (some m)
  | [], en, acc, r, h, hn => by cases h; exact hn
  | d :: ds, en, acc, r, h, hn => by
    obtain ⟨e1, h1, z1⟩ := Option.bind_eq_some_iff.mp (show (fg d en).bind _ = some r from h)
    obtain ⟨⟨b, e2⟩, h2, z2⟩ := Option.bind_eq_some_iff.mp z1
    cases b with
    | true =>
      rw [if_pos rfl] at z2
      obtain ⟨⟨x, e3⟩, h3, z3⟩ := Option.bind_eq_some_iff.mp z2
      split at z3
      · exact lcL_none z3 wipeE_none
      · cases z3
    | false =>
      rw [if_neg Bool.false_ne_true] at z2
      exact lcL_none z2 wipeE_none
theorem rd_lc {ws ts : List Nat} {fi : FI} {fg : FG} {ft : FT} {fv : FV} (hb : ∀ i ∈ ws, i ∉ bs) (hts : ∀ i ∈ ts, i ∈ ws) (σ : L2.St) (H : Hp) (Q : VK) (q : rd K bs (fLc ws fi fg ft fv) σ H Q) :
    tLc (rdi K bs fi) (rdg2 K bs ts fg) (rdt K bs ft) (rdv K bs fv) ws σ H Q := by
  obtain ⟨vs, G, en, F, o, en', w, hf, k⟩ := q
  obtain ⟨⟨ds, e1⟩, h1, z1⟩ := Option.bind_eq_some_iff.mp hf
  obtain ⟨⟨out, eo⟩, h2, z2⟩ := Option.map_eq_some_iff.mp z1
  cases z2
  refine ⟨vs, G, en, F, ds, e1, w, h1, fun G1 H1 F1 J w1 f1 ok => fun Da nD => ?_⟩
  have gD : G1 Da = none := w1.sub.free nD
  have exD := Ext.newL (o := .lst []) w1.sub nD
  obtain ⟨F1w, w1w, o1w⟩ := Wf.wipe hb (exD.wf w1)
  -- the state between two turns
  let Inv1 : Nat → Hp → Prop := fun i H2 => ∃ G2 e2 F2 us acc, Wf K bs vs G2 H2 (L2.wipe σ ws) e2 F2 ∧ Fr G1 H1 (Ow F1) G2 H2 (Ow F2) ∧ H2 Da = some (.lst us) ∧ G2 Da = none ∧ ¬ Ow F2 Da ∧ RepDs K G2 us acc ∧ lcL ws fg ft fv (ds.drop i) e2 acc = some (out, eo)
  have nOw1 : ¬ Ow F1 Da := fun z => by
    obtain ⟨_, o, h⟩ := w1.owned z
    rw [nD] at h; cases h
  refine ⟨fun i m H2 => i + m = ds.length ∧ Inv1 i H2, ⟨ds.length, by omega, G1, _, F1w, [], [], w1w, ⟨fun a o h _ => exD.hk a o h, fun _ _ h => h, fun _ h _ _ => h, fun a q => .inl (o1w a q)⟩, upd_same, gD, fun z => nOw1 (o1w _ z), .nil, by rw [List.drop_zero]; exact h2⟩, ?_⟩
  rintro i m H2 ⟨him, G2, e2, F2, us, acc, w2, f2, hD, gD2, nO, ra, z2⟩
  obtain ⟨o1, o2, o3⟩ := ok G2 H2 f2.gk w2.sub
  by_cases hi : i < ds.length
  · refine .inr ⟨o1 i hi, fun H3 => Inv1 (i + 1) H3, fun H3 h3 => ⟨m - 1, by omega, by omega, h3⟩, fun x H3 y => ?_⟩
    obtain ⟨G3, d, ex, hd, rdx⟩ := o3 i x H3 hi y
    rw [List.drop_eq_getElem_cons hi] at z2
    have ed : ds[i] = d := by
      rw [List.getElem?_eq_getElem hi] at hd
      exact Option.some.inj hd
    rw [ed] at z2
    obtain ⟨e4, h4, z3⟩ := Option.bind_eq_some_iff.mp (show (fg d e2).bind _ = some (out, eo) from z2)
    have w3 := ex.wf w2
    have hD3 : H3 Da = some (.lst us) := ex.hk _ _ hD
    have gD3 : G3 Da = none := ex.gn _ gD2 ⟨_, hD⟩
    refine ⟨vs, G3, e2, F2, d, e4, w3, rdx, h4, fun G4 H4 σ4 F4 w4 f4 k4 => ⟨wipe_same (k4.1.trans (wipe_length _ _)) fun j hj => k4.2 j fun z => hj (hts j z), ?_⟩⟩
    have es : L2.wipe σ4 ws = L2.wipe σ ws := wipe_same (k4.1.trans (wipe_length _ _)) fun j hj => k4.2 j fun z => hj (hts j z)
    obtain ⟨⟨b, e5⟩, h5, z4⟩ := Option.bind_eq_some_iff.mp z3
    refine ⟨vs, G4, e4, F4, b, e5, w4, h5, fun G5 H5 F5 w5 f5 => ?_⟩
    have f35 := f4.trans f5
    have hD5 := f35.hk _ _ hD3 nO
    have gD5 := f35.gn _ gD3 ⟨_, hD3⟩ nO
    have nO5 := f35.notOw nO ⟨_, hD3⟩
    have f25 := (f2.trans ex.fr).trans f35
    have ra5 := ra.mono ((ex.gk).trans f35.gk)
    cases b with
    | false =>
      rw [if_neg Bool.false_ne_true] at z4
      refine iteF ?_
      obtain ⟨F6, w6, o6⟩ := Wf.wipe hb w5
      rw [es] at w6
      exact ⟨G5, _, F6, us, acc, w6, ⟨f25.hk, f25.gk, f25.gn, fun a q => f25.on a (o6 a q)⟩, hD5, gD5, fun z => nO5 (o6 _ z), ra5, z4⟩
    | true =>
      rw [if_pos rfl] at z4
      refine iteT ?_
      obtain ⟨⟨x', e6⟩, h6, z5⟩ := Option.bind_eq_some_iff.mp z4
      refine ⟨vs, G5, e5, F5, x', e6, w5, h6, fun G6 H6 F6 v w6 f6 r6 => ?_⟩
      have hD6 := f6.hk _ _ hD5 nO5
      have gD6 := f6.gn _ gD5 ⟨_, hD5⟩ nO5
      have nO6 := f6.notOw nO5 ⟨_, hD5⟩
      by_cases ol : acc.length < lim
      · rw [if_pos ol] at z5
        refine ⟨us, hD6, by rw [ra5.length]; exact Nat.lt_of_lt_of_le ol lim_line, ?_⟩
        obtain ⟨F7, w7, o7⟩ := Wf.wipe hb w6
        rw [es] at w7
        have nO7 : ¬ Ow F7 Da := fun z => nO6 (o7 _ z)
        have f27 := f25.trans f6
        have sub7 : Same G6 (upd H6 Da (.lst (us ++ [v]))) := fun a o q => by
          rw [upd_ne (ne_of_none q gD6)]
          exact w7.sub a o q
        refine ⟨G6, _, F7, us ++ [v], acc ++ [x'], ⟨sub7, w7.ln, fun i m h => ?_, w7.em, w7.dj, w7.bs⟩, ⟨fun a o q n => ?_, f27.gk, f27.gn, fun a q => f27.on a (o7 a q)⟩, upd_same, gD6, nO7, (ra5.mono f6.gk).append (.cons r6 .nil), z5⟩
        · obtain ⟨u, hu, r⟩ := w7.at_ i m h
          exact ⟨u, hu, r.move (fun _ _ z => z) (fun a ha o q => by
            rw [upd_ne fun z => nO7 (by rw [← z]; exact ⟨i, ha⟩)]; exact q) fun a ha => (r.at_ a ha).1⟩
        · rw [upd_ne (ne_of_none q nD)]
          exact f27.hk a o q n
      · rw [if_neg ol] at z5; cases z5
  · have hz : i = ds.length := by omega
    subst hz
    rw [List.drop_length] at z2
    cases z2
    have f2' : Fr G H (Ow F) G2 H2 (Ow F2) := f1.trans f2
    obtain ⟨F5, w5, o5⟩ := Wf.restore w1 f2.gk hb w2 (lcL_none h2 wipeE_none)
    refine .inl ⟨o2, k G2 H2 F5 _ [Da] w5 ⟨f2'.hk, f2'.gk, f2'.gn, fun a q => f2'.on a (o5 a q)⟩ (.val (.ml hD gD2 ra)) fun a ha => ?_⟩
    rw [List.mem_singleton.mp ha]
    exact ⟨fun z => nO (o5 _ z), by
      by_cases q : Ow F Da
      · exact .inl q
      · right
        cases h : H Da with
        | none => rfl
        | some o => rw [f1.hk _ _ h q] at nD; cases nD⟩
end
end Dn

namespace Dn
open PySem PySem.Spec PyProof.Rows L2

section
variable {K : PySem.W.Frag} {bs : List Nat} {vs : List V} {G H G' H' : Hp} {σ : L2.St} {en en' : En} {F F' : Nat → List Addr} {X : Cx}
variable {a b e elt tg it : Expr} {es ifs : List Expr} {fa fb fc : FE} {pos : Pos} {st : Stmt} {rest : List Stmt} {f g : FS}

/-! ### comprehensions, as an expression, as a statement -/
theorem de_lc {scope : Scope} {own : List (Str × Nat)} {fi : FI} {fg : FG} {ft : FT} {fe : FE} {ts : List Nat} (hc : X.calm = true) (hN : X.N.Nodup) (hi : PI X tg it (rdi X.K bs fi)) (ok : BlkOk X.N X.env.scope scope own)
    (hg : ∀ (s : Shared) (H : Hp) (C : Addr) (cl : List (Str × Addr)) (fp : List Addr), PG (X.blk s H scope (compEnvC scope cl C X.env) fp) tg (rdg2 X.K bs ts fg)) (ht : ∀ (s : Shared) (H : Hp) (C : Addr) (cl : List (Str × Addr)) (fp : List Addr), PTs (X.blk s H scope (compEnvC scope cl C X.env) fp) ifs (rdt X.K bs ft))
    (he : ∀ (s : Shared) (H : Hp) (C : Addr) (cl : List (Str × Addr)) (fp : List Addr), PE (X.blk s H scope (compEnvC scope cl C X.env) fp) elt (rd X.K bs fe)) (hb : ∀ i ∈ own.map (·.2), i ∉ bs) (hts : ∀ i ∈ ts, i ∈ own.map (·.2)) (hs : ∀ x, foldedSetIterable it X.env x = pure x := by intro _; rfl) :
    PE X (.ListComp elt [⟨tg, it, ifs, 0⟩] scope pos) (rd X.K bs (fLc (own.map (·.2)) fi fg ft (fV fe))) :=
  (pe_lc hc hN hi ok hg ht (fun s H C cl fp => dv (he s H C cl fp)) hs).imp fun σ H Q q => rd_lc hb hts σ H Q q
def fYes : FT := fun en => some (true, en)
theorem dts_nil : PTs X [] (rdt X.K bs fYes) := ⟨fun pins s σ H Q I h => pts_nil.run pins s σ H Q I (by
  obtain ⟨vs, G, en, F, o, en', w, hf, k⟩ := h
  cases hf
  exact k G H F w Fr.refl)⟩
theorem dts_one {c : Expr} {ft : FT} (h : PT X c (rdt X.K bs ft)) : PTs X [c] (rdt X.K bs ft) := pts_one h
theorem ds_setLc (i : Nat) {y : Str} {py spos : Pos} {scope : Scope} {own : List (Str × Nat)} {fi : FI} {fg : FG} {ft : FT} {fe : FE} {ts : List Nat} (hc : X.calm = true) (hN : X.N.Nodup) (hi : PI X tg it (rdi X.K bs fi)) (ok : BlkOk X.N X.env.scope scope own)
    (hg : ∀ (s : Shared) (H : Hp) (C : Addr) (cl : List (Str × Addr)) (fp : List Addr), PG (X.blk s H scope (compEnvC scope cl C X.env) fp) tg (rdg2 X.K bs ts fg)) (ht : ∀ (s : Shared) (H : Hp) (C : Addr) (cl : List (Str × Addr)) (fp : List Addr), PTs (X.blk s H scope (compEnvC scope cl C X.env) fp) ifs (rdt X.K bs ft))
    (he : ∀ (s : Shared) (H : Hp) (C : Addr) (cl : List (Str × Addr)) (fp : List Addr), PE (X.blk s H scope (compEnvC scope cl C X.env) fp) elt (rd X.K bs fe)) (hb : ∀ i ∈ own.map (·.2), i ∉ bs) (hts : ∀ i ∈ ts, i ∈ own.map (·.2)) (hib : i ∉ bs)
    (hsw : swapsWith (.ListComp elt [⟨tg, it, ifs, 0⟩] scope pos) (some (.Name y py)) spos.line X.env = pure true) (hy : X.N[i]? = some y := by rfl) (hyl : X.env.scope.names.lookup y = some .local := by rfl) (hs : ∀ x, foldedSetIterable it X.env x = pure x := by intro _; rfl) :
    PS X (.Assign [.Name y py] (.ListComp elt [⟨tg, it, ifs, 0⟩] scope pos) spos) (rds X.K bs (fSet i (fLc (own.map (·.2)) fi fg ft (fV fe)))) :=
  (ps_setLc hc hN hy hyl hsw hi ok hg ht (fun s H C cl fp => dv (he s H C cl fp)) hs).imp fun E σ H q => by
    obtain ⟨vs, G, en, F, fl, en', w, hf, k⟩ := q
    obtain ⟨⟨o, e1⟩, h1, z1⟩ := Option.bind_eq_some_iff.mp hf
    obtain ⟨e2, h2, z2⟩ := Option.map_eq_some_iff.mp z1
    cases z2
    refine rd_lc hb hts σ H _ ⟨vs, G, en, F, o, e1, w, h1, fun G1 H1 F1 v fp w1 f1 r1 t1 => ?_⟩
    obtain ⟨G2, F2, w2, f2⟩ := setO_ok hib w1 f1 r1 t1 h2
    exact k G2 H1 _ F2 w2 f2

/-! ### arguments -/
inductive RepOs (K : PySem.W.Frag) (G H : Hp) (σ : L2.St) : List V → List Opd → List Addr → Prop
  | nil : RepOs K G H σ [] [] []
  | cons {v : V} {vs : List V} {o : Opd} {os : List Opd} {fp fq : List Addr} : RepO K G H σ v o fp → RepOs K G H σ vs os fq → (∀ x ∈ fp, x ∉ fq) → RepOs K G H σ (v :: vs) (o :: os) (fp ++ fq)
def rdo (K : PySem.W.Frag) (bs : List Nat) (f : FO) : TA := fun σ H Q => ∃ vs G en F os en', Wf K bs vs G H σ en F ∧ f en = some (os, en') ∧
  ∀ G' H' F' us fp, Wf K bs vs G' H' σ en' F' → Fr G H (Ow F) G' H' (Ow F') → RepOs K G' H' σ us os fp → Tmp H F F' fp → Q us H'
def fNilO : FO := fun en => some ([], en)
def fConsO (f : FE) (g : FO) : FO := fun en => (f en).bind fun p => (g p.2).map fun q => (p.1 :: q.1, q.2)
theorem do_nil : PA X [] (rdo X.K bs fNilO) := pa_nil.imp fun σ H Q q => by
  obtain ⟨vs, G, en, F, os, en', w, hf, k⟩ := q
  cases hf
  exact k G H F [] [] w Fr.refl .nil Tmp.nil
theorem RepO.at_ {v : V} {o : Opd} {fp : List Addr} (r : RepO K G H σ v o fp) : ∀ a ∈ fp, ∃ u, H a = some u := fun a ha => by
  cases r with
  | val r => exact (r.at_ a ha).2
  | pl _ => cases ha
theorem RepO.frame {v : V} {o : Opd} {fp : List Addr} {O O' : Addr → Prop} (r : RepO K G H σ v o fp) (f : Fr G H O G' H' O') (n : ∀ a ∈ fp, ¬ O a) : RepO K G' H' σ v o fp := by
  cases r with
  | val r => exact .val (r.frame f n)
  | pl h => exact .pl h
theorem do_cons {fo : FO} (ha : PE X e (rd X.K bs fa)) (hr : PA X es (rdo X.K bs fo)) (hs : starEach (e :: es) X.env = (false, eval e X.env) :: starEach es X.env := by rfl) : PA X (e :: es) (rdo X.K bs (fConsO fa fo)) := (pa_cons ha hr hs).imp fun σ H Q q => by
  obtain ⟨vs, G, en, F, ds, en', w, hf, k⟩ := q
  obtain ⟨⟨d, e1⟩, h1, z1⟩ := Option.bind_eq_some_iff.mp hf
  obtain ⟨⟨dr, e2⟩, h2, z2⟩ := Option.map_eq_some_iff.mp z1
  cases z2
  refine ⟨vs, G, en, F, d, e1, w, h1, fun G1 H1 F1 x fp w1 f1 r1 t1 => ⟨vs, G1, e1, F1, dr, e2, w1, h2, fun G2 H2 F2 us fq w2 f2 r2 t2 => ?_⟩⟩
  refine k G2 H2 F2 _ _ w2 (f1.trans f2) (.cons (r1.frame f2 fun a ha => (t1 a ha).1) r2 fun a ha hq => ?_) fun a ha => ?_
  · rcases (t2 a hq).2 with z | z
    · exact (t1 a ha).1 z
    · obtain ⟨u, h⟩ := r1.at_ a ha
      rw [z] at h; cases h
  · rcases List.mem_append.mp ha with q | q
    · exact Tmp.step t1 r1.at_ f2 a q
    · exact Tmp.back f1 t2 a q
def conts (en : En) : List Opd → Option (List M)
  | [] => some []
  | o :: r => (cont en o).bind fun m => (conts en r).map (m :: ·)
def isP : Option M → Bool
  | some (.p _) => true
  | _ => false
def okOs (en : En) : List Opd → Bool
  | [] => true
  | .val _ :: r => okOs en r
  | .pl i :: r => (isP (slotM en i) || !(r.any fun o => match o with | .pl j => j == i | .val _ => false)) && okOs en r
/-- what is lent is given away -/
def lend : List Opd → En → En
  | [], en => en
  | .val _ :: r, en => lend r en
  | .pl i :: r, en => lend r (if isP (slotM en i) then en else en.set i none)
/-- and comes back -/
def give : List Opd → En → En → En
  | .pl i :: r, m :: ms, en => give r ms (match slotM en i with
    | none => en.set i m
    | some _ => en)
  | .val _ :: r, _ :: ms, en => give r ms en
  | _, _, en => en
/-- the arguments as slots of their own -/
structure Args (K : PySem.W.Frag) (G H : Hp) (σ : L2.St) (en : En) (F : Nat → List Addr) (us : List V) (os : List Opd) (ds : List M) (fp : List Addr) (fs : List (List Addr)) : Prop where
  l1 : us.length = os.length
  l2 : ds.length = os.length
  l3 : fs.length = os.length
  rep : ∀ (k : Nat) m, ds[k]? = some m → ∃ v fa, us[k]? = some v ∧ fs[k]? = some fa ∧ RepM K G H v m fa
  dj : ∀ (j k : Nat) fj fk a, fs[j]? = some fj → fs[k]? = some fk → a ∈ fj → a ∈ fk → j = k
  own : ∀ (k : Nat) fk a, fs[k]? = some fk → a ∈ fk → (∃ i, os[k]? = some (.pl i) ∧ a ∈ F i) ∨ ((∃ m, os[k]? = some (.val m)) ∧ a ∈ fp)
theorem RepM.pure {v : V} {d : D} {fp : List Addr} (r : RepM K G H v (.p d) fp) : fp = [] := by cases r; rfl
theorem args_ok (w : Wf K bs vs G H σ en F) : ∀ {us : List V} {os : List Opd} {ds : List M} {fp : List Addr}, RepOs K G H σ us os fp → conts en os = some ds → okOs en os = true → (∀ a ∈ fp, ¬ Ow F a) → ∃ fs, Args K G H σ en F us os ds fp fs
  | _, _, _, _, .nil, h, _, _ => by
    cases h
    exact ⟨[], rfl, rfl, rfl, fun k m h => by simp at h, fun j k fj fk a h => by simp at h, fun k fk a h => by simp at h⟩
  | _, _, ds, _, @RepOs.cons _ _ _ _ v us o os fp fq r rr d, h, ok, n => by
    obtain ⟨m, h1, h2⟩ := Option.bind_eq_some_iff.mp (show (cont en o).bind (fun m => (conts en os).map (m :: ·)) = some ds from h)
    obtain ⟨dr, h3, h4⟩ := Option.map_eq_some_iff.mp h2
    subst h4
    have ok' : okOs en os = true := by
      cases o with
      | val _ => exact ok
      | pl i => exact (Bool.and_eq_true_iff.mp ok).2
    obtain ⟨fs, A⟩ := args_ok w rr h3 ok' fun a ha => n a (List.mem_append_right _ ha)
    -- the first one's own places
    have first : ∃ fa, RepM K G H v m fa ∧ (∀ a ∈ fa, (∃ i, o = .pl i ∧ a ∈ F i) ∨ ((∃ m, o = .val m) ∧ a ∈ fp)) := by
      cases r with
      | val r => cases h1; exact ⟨fp, r, fun a ha => .inr ⟨⟨_, rfl⟩, ha⟩⟩
      | @pl i _ hv =>
        obtain ⟨u, hu, r⟩ := w.at_ i m (slotM_some h1)
        rw [hv] at hu
        cases hu
        exact ⟨F i, r, fun a ha => .inl ⟨i, rfl, ha⟩⟩
    obtain ⟨fa, ra, oa⟩ := first
    have apart : ∀ (k : Nat) fk a, fs[k]? = some fk → a ∈ fk → a ∉ fa := fun k fk a hk ha hf => by
      rcases A.own k fk a hk ha with ⟨i, hi, hai⟩ | ⟨⟨m', hm⟩, hap⟩
      · rcases oa a hf with ⟨j, hj, haj⟩ | ⟨_, hap⟩
        · have e := w.dj i j a hai haj
          subst e hj
          have q := (Bool.and_eq_true_iff.mp ok).1
          have hp : isP (slotM en i) = false := by
            cases z : isP (slotM en i) with
            | false => rfl
            | true =>
              have em : slotM en i = some m := h1
              rw [em] at z
              cases m with
              | p d => rw [ra.pure] at hf; cases hf
              | ml _ => cases z
              | mi _ _ => cases z
          rw [hp, Bool.false_or] at q
          have q2 : (os.any fun o => match o with | .pl j => j == i | .val _ => false) = false := by simpa using q
          rw [List.any_eq_false] at q2
          exact q2 _ (List.mem_of_getElem? hi) (by simp)
        · exact n a (List.mem_append_left _ hap) ⟨i, hai⟩
      · rcases oa a hf with ⟨j, hj, haj⟩ | ⟨_, hap'⟩
        · exact n a (List.mem_append_right _ hap) ⟨j, haj⟩
        · exact d a hap' hap
    refine ⟨fa :: fs, by simp [A.l1], by simp [A.l2], by simp [A.l3], fun k m' hk => ?_, fun j k fj fk a hj hk ha ha' => ?_, fun k fk a hk ha => ?_⟩
    · cases k with
      | zero =>
        simp only [List.getElem?_cons_zero, Option.some.injEq] at hk
        subst hk
        exact ⟨v, fa, rfl, rfl, ra⟩
      | succ k =>
        obtain ⟨v', f', q1, q2, q3⟩ := A.rep k m' (by simpa using hk)
        exact ⟨v', f', by simpa using q1, by simpa using q2, q3⟩
    · cases j with
      | zero =>
        simp only [List.getElem?_cons_zero, Option.some.injEq] at hj
        subst hj
        cases k with
        | zero => rfl
        | succ k => exact absurd ha (apart k fk a (by simpa using hk) ha')
      | succ j =>
        cases k with
        | zero =>
          simp only [List.getElem?_cons_zero, Option.some.injEq] at hk
          subst hk
          exact absurd ha' (apart j fj a (by simpa using hj) ha)
        | succ k => rw [A.dj j k fj fk a (by simpa using hj) (by simpa using hk) ha ha']
    · cases k with
      | zero =>
        simp only [List.getElem?_cons_zero, Option.some.injEq] at hk
        subst hk
        rcases oa a ha with ⟨i, hi, hai⟩ | ⟨⟨m', hm⟩, hap⟩
        · exact .inl ⟨i, by rw [hi]; rfl, hai⟩
        · exact .inr ⟨⟨m', by rw [hm]; rfl⟩, List.mem_append_left _ hap⟩
      | succ k =>
        rcases A.own k fk a (by simpa using hk) ha with ⟨i, hi, hai⟩ | ⟨⟨m', hm⟩, hap⟩
        · exact .inl ⟨i, by simpa using hi, hai⟩
        · exact .inr ⟨⟨m', by simpa using hm⟩, List.mem_append_right _ hap⟩
def argF (fs : List (List Addr)) (k : Nat) : List Addr := (fs[k]?).getD []
theorem argF_mem {fs : List (List Addr)} {k : Nat} {a : Addr} (h : a ∈ argF fs k) : ∃ fk, fs[k]? = some fk ∧ a ∈ fk := by
  unfold argF at h
  cases q : fs[k]? with
  | none => rw [q] at h; cases h
  | some fk => rw [q] at h; exact ⟨fk, rfl, h⟩
theorem Args.wf {us : List V} {os : List Opd} {ds : List M} {fp : List Addr} {fs : List (List Addr)} (A : Args K G H σ en F us os ds fp fs) (s : Same G H) : Wf K [] us G H (us.map some) (ds.map some) (argF fs) := by
  refine ⟨s, by rw [List.length_map, List.length_map, A.l1, A.l2], fun i m h => ?_, fun i h => ?_, fun j k a hj hk => ?_, fun i hi => nomatch hi⟩
  · rw [List.getElem?_map] at h
    obtain ⟨m', h1, h2⟩ := Option.map_eq_some_iff.mp h
    cases h2
    obtain ⟨v, fa, q1, q2, q3⟩ := A.rep i m h1
    refine ⟨v, by rw [List.getElem?_map, q1]; rfl, ?_⟩
    unfold argF
    rw [q2]; exact q3
  · unfold argF
    cases q : fs[i]? with
    | none => rfl
    | some fk =>
      have hi : i < ds.length := by
        rw [A.l2, ← A.l3]
        exact (List.getElem?_eq_some_iff.mp q).1
      exact absurd (by rw [List.getElem?_map, List.getElem?_eq_getElem hi]; rfl) (h ds[i])
  · obtain ⟨fj, q1, q2⟩ := argF_mem hj
    obtain ⟨fk, q3, q4⟩ := argF_mem hk
    exact A.dj j k fj fk a q1 q3 q2 q4
/-- what stays with the caller -/
theorem lend_ok (w : Wf K bs vs G H σ en F) : ∀ (os : List Opd), ∃ F1, Wf K bs vs G H σ (lend os en) F1 ∧ (∀ a, Ow F1 a → Ow F a) ∧ (∀ i, F1 i = F i ∨ F1 i = []) ∧ ∀ i, Opd.pl i ∈ os → F1 i = [] := fun os => by
  induction os generalizing en F with
  | nil => exact ⟨F, w, fun _ h => h, fun _ => .inl rfl, fun i h => nomatch h⟩
  | cons o r ih =>
    cases o with
    | val m =>
      obtain ⟨F1, w1, o1, k1, n1⟩ := ih w
      exact ⟨F1, w1, o1, k1, fun i h => n1 i (by simpa using h)⟩
    | pl i =>
      show ∃ F1, Wf K bs vs G H σ (lend r (if isP (slotM en i) then en else en.set i none)) F1 ∧ _
      by_cases q : isP (slotM en i) = true
      · rw [if_pos q]
        obtain ⟨F1, w1, o1, k1, n1⟩ := ih w
        refine ⟨F1, w1, o1, k1, fun j h => ?_⟩
        rcases List.mem_cons.mp h with e | e
        · cases e
          have hF : F i = [] := by
            cases z : slotM en i with
            | none => rw [z] at q; cases q
            | some m =>
              rw [z] at q
              cases m with
              | p d =>
                obtain ⟨v, _, r⟩ := w.at_ i _ (slotM_some z)
                exact r.pure
              | ml _ => cases q
              | mi _ _ => cases q
          rcases k1 i with z | z
          · rw [z, hF]
          · exact z
        · exact n1 j e
      · rw [if_neg q]
        obtain ⟨F1, w1, o1, k1, n1⟩ := ih (w.drop (i := i))
        have back : ∀ a, Ow (cut F i []) a → Ow F a := fun a z => by
          rcases z.cut with z | ⟨_, j, _, z⟩
          · cases z
          · exact ⟨j, z⟩
        refine ⟨F1, w1, fun a z => back a (o1 a z), fun j => ?_, fun j h => ?_⟩
        · rcases k1 j with z | z
          · by_cases e : j = i
            · right; rw [z, e, cut_at]
            · left; rw [z, cut_ne e]
          · exact .inr z
        · rcases List.mem_cons.mp h with e | e
          · cases e
            rcases k1 i with z | z
            · rw [z, cut_at]
            · exact z
          · exact n1 j e
/-- an empty slot gets back what it lent -/
theorem Wf.refill {i : Nat} {v : V} {m : M} {fp : List Addr} (w : Wf K bs vs G H σ en F) (hv : σ[i]? = some (some v)) (r : RepM K G H v m fp) (n : ∀ a ∈ fp, ¬ Ow F a) (he : F i = []) : Wf K bs vs G H σ (en.set i (some m)) (cut F i fp) := by
  have hl : i < en.length := by rw [← w.ln]; exact (List.getElem?_eq_some_iff.mp hv).1
  refine ⟨w.sub, by rw [List.length_set]; exact w.ln, fun j m' h => ?_, fun j h => ?_, fun j k a h1 h2 => ?_, w.bs⟩
  · by_cases e : i = j
    · subst e
      rw [List.getElem?_set_self hl] at h
      cases h
      exact ⟨v, hv, by rw [cut_at]; exact r⟩
    · rw [List.getElem?_set_ne e] at h
      rw [cut_ne (Ne.symm e)]
      exact w.at_ j m' h
  · by_cases e : j = i
    · subst e
      exact absurd (List.getElem?_set_self hl) (h m)
    · rw [cut_ne e]
      exact w.em j fun m' q => h m' (by rw [List.getElem?_set_ne (Ne.symm e)]; exact q)
  · by_cases e1 : j = i <;> by_cases e2 : k = i
    · rw [e1, e2]
    · rw [e1, cut_at] at h1
      rw [cut_ne e2] at h2
      exact absurd ⟨k, h2⟩ (n a h1)
    · rw [e2, cut_at] at h2
      rw [cut_ne e1] at h1
      exact absurd ⟨j, h1⟩ (n a h2)
    · rw [cut_ne e1] at h1
      rw [cut_ne e2] at h2
      exact w.dj j k a h1 h2
theorem give_ok {us : List V} {ds' : En} {Fa : Nat → List Addr} (hW : Wf K [] us G H (us.map some) ds' Fa) : ∀ (os : List Opd) (k0 : Nat) (en : En) (F : Nat → List Addr), Wf K bs vs G H σ en F → (∀ a, Ow F a → ∀ k, k0 ≤ k → a ∉ Fa k) →
    (∀ (k : Nat) i, os[k]? = some (.pl i) → ∃ v, us[k0 + k]? = some v ∧ σ[i]? = some (some v)) →
    ∃ F1, Wf K bs vs G H σ (give os (ds'.drop k0) en) F1 ∧ ∀ a, Ow F1 a → Ow F a ∨ ∃ k i, os[k]? = some (.pl i) ∧ a ∈ Fa (k0 + k)
  | [], k0, en, F, w, n, hv => ⟨F, by unfold give; exact w, fun a z => .inl z⟩
  | .val m :: r, k0, en, F, w, n, hv => by
    by_cases hk : k0 < ds'.length
    · rw [List.drop_eq_getElem_cons hk]
      obtain ⟨F1, w1, o1⟩ := give_ok hW r (k0 + 1) en F w (fun a z k hk' => n a z k (by omega)) fun k i h => by
        obtain ⟨v, h1, h2⟩ := hv (k + 1) i (by simpa using h)
        exact ⟨v, by rw [show k0 + 1 + k = k0 + (k + 1) by omega]; exact h1, h2⟩
      refine ⟨F1, w1, fun a z => ?_⟩
      rcases o1 a z with q | ⟨k, i, h1, h2⟩
      · exact .inl q
      · exact .inr ⟨k + 1, i, by simpa using h1, by rw [show k0 + (k + 1) = k0 + 1 + k by omega]; exact h2⟩
    · rw [List.drop_eq_nil_of_le (by omega)]
      exact ⟨F, w, fun a z => .inl z⟩
  | .pl i :: r, k0, en, F, w, n, hv => by
    by_cases hk : k0 < ds'.length
    · rw [List.drop_eq_getElem_cons hk]
      have goOn : ∀ (en2 : En) (F2 : Nat → List Addr), Wf K bs vs G H σ en2 F2 → (∀ a, Ow F2 a → Ow F a ∨ a ∈ Fa k0) → ∃ F1, Wf K bs vs G H σ (give r (ds'.drop (k0 + 1)) en2) F1 ∧ ∀ a, Ow F1 a → Ow F a ∨ ∃ k i', (Opd.pl i :: r)[k]? = some (.pl i') ∧ a ∈ Fa (k0 + k) := fun en2 F2 w2 o2 => by
        obtain ⟨F1, w1, o1⟩ := give_ok hW r (k0 + 1) en2 F2 w2 (fun a z k hk' => by
          rcases o2 a z with q | q
          · exact n a q k (by omega)
          · exact fun z' => absurd (hW.dj k0 k a q z') (by omega)) fun k i h => by
          obtain ⟨v, h1, h2⟩ := hv (k + 1) i (by simpa using h)
          exact ⟨v, by rw [show k0 + 1 + k = k0 + (k + 1) by omega]; exact h1, h2⟩
        refine ⟨F1, w1, fun a z => ?_⟩
        rcases o1 a z with q | ⟨k, i', h1, h2⟩
        · rcases o2 a q with q | q
          · exact .inl q
          · exact .inr ⟨0, i, rfl, q⟩
        · exact .inr ⟨k + 1, i', by simpa using h1, by rw [show k0 + (k + 1) = k0 + 1 + k by omega]; exact h2⟩
      show ∃ F1, Wf K bs vs G H σ (give r (ds'.drop (k0 + 1)) (match slotM en i with | none => en.set i ds'[k0] | some _ => en)) F1 ∧ _
      cases hs : slotM en i with
      | some m => exact goOn en F w fun a z => .inl z
      | none =>
        have hF : F i = [] := w.em i fun m q => by
          have : slotM en i = some m := by unfold slotM; rw [q]; rfl
          rw [hs] at this; cases this
        cases hd : ds'[k0] with
        | none =>
          refine goOn _ _ (w.drop (i := i)) fun a z => ?_
          rcases z.cut with z | ⟨_, j, _, z⟩
          · cases z
          · exact .inl ⟨j, z⟩
        | some m =>
          obtain ⟨v, h1, h2⟩ := hv 0 i rfl
          obtain ⟨u, hu, rm⟩ := hW.at_ k0 m (by rw [List.getElem?_eq_getElem hk, hd])
          have eu : u = v := by
            rw [List.getElem?_map, show us[k0]? = some v from h1] at hu
            cases hu; rfl
          subst eu
          refine goOn _ _ (w.refill h2 rm (fun a ha z => n a z k0 (Nat.le_refl _) ha) hF) fun a z => ?_
          rcases z.cut with z | ⟨_, j, _, z⟩
          · exact .inr z
          · exact .inl ⟨j, z⟩
    · rw [List.drop_eq_nil_of_le (by omega)]
      exact ⟨F, w, fun a z => .inl z⟩
end
end Dn

namespace Dn
open PySem PySem.Spec PyProof.Rows L2

/-! ### defs -/
abbrev FD := List M → Option (M × En)
def spD (K : PySem.W.Frag) (n : Nat) (g : FD) : Sp := fun us H Q _ => us.length = n ∧ ∃ G ds F r ds', Wf K [] us G H (us.map some) (ds.map some) F ∧ g ds = some (r, ds') ∧
  ∀ G' H' F' v fp, Wf K [] us G' H' (us.map some) ds' F' → Fr G H (Ow F) G' H' (Ow F') → RepM K G' H' v r fp → Tmp H F F' fp → Q v H'
def back (bs : List Nat) (en : En) : Nat → List M → En
  | _, [] => []
  | i, .p d :: r => some (.p d) :: back bs en (i + 1) r
  | i, _ :: r => (if i ∈ bs then slotM en i else none) :: back bs en (i + 1) r
def runF (fb : FS) (nn : Nat) (bs : List Nat) : FD := fun ds => (fb (ds.map some ++ List.replicate (nn - ds.length) none)).bind fun q => match q.1 with
  | .rt m => some (m, back bs q.2 0 ds)
  | .nx => some (.p .non, back bs q.2 0 ds)
  | _ => none
theorem back_len (bs : List Nat) (en : En) : ∀ (i : Nat) (ds : List M), (back bs en i ds).length = ds.length
  | _, [] => rfl
  | i, .p d :: r => congrArg (· + 1) (back_len bs en (i + 1) r)
  | i, .ml d :: r => congrArg (· + 1) (back_len bs en (i + 1) r)
  | i, .mi d e :: r => congrArg (· + 1) (back_len bs en (i + 1) r)
theorem back_get (bs : List Nat) (en : En) : ∀ (i : Nat) (ds : List M) (k : Nat) (m : M), (back bs en i ds)[k]? = some (some m) → (∃ d, ds[k]? = some (.p d) ∧ m = .p d) ∨ (i + k ∈ bs ∧ slotM en (i + k) = some m ∧ ∀ d, ds[k]? ≠ some (.p d))
  | _, [], k, m, h => by simp [back] at h
  | i, .p d :: r, 0, m, h => by
    simp only [back, List.getElem?_cons_zero, Option.some.injEq] at h
    exact .inl ⟨d, rfl, h.symm⟩
  | i, .p d :: r, k + 1, m, h => by
    have q := back_get bs en (i + 1) r k m (by simpa [back] using h)
    rw [show i + (k + 1) = i + 1 + k by omega]
    simpa using q
  | i, .ml d :: r, 0, m, h => by
    simp only [back, List.getElem?_cons_zero, Option.some.injEq] at h
    by_cases o : i ∈ bs
    · rw [if_pos o] at h
      exact .inr ⟨o, h, fun d z => by simp at z⟩
    · rw [if_neg o] at h; cases h
  | i, .ml d :: r, k + 1, m, h => by
    have q := back_get bs en (i + 1) r k m (by simpa [back] using h)
    rw [show i + (k + 1) = i + 1 + k by omega]
    simpa using q
  | i, .mi d e :: r, 0, m, h => by
    simp only [back, List.getElem?_cons_zero, Option.some.injEq] at h
    by_cases o : i ∈ bs
    · rw [if_pos o] at h
      exact .inr ⟨o, h, fun d z => by simp at z⟩
    · rw [if_neg o] at h; cases h
  | i, .mi d e :: r, k + 1, m, h => by
    have q := back_get bs en (i + 1) r k m (by simpa [back] using h)
    rw [show i + (k + 1) = i + 1 + k by omega]
    simpa using q
section
variable {K : PySem.W.Frag} {bs : List Nat} {vs : List V} {G H G' H' : Hp} {σ : L2.St} {en en' : En} {F F' : Nat → List Addr} {X : Cx}
theorem start_wf {N : List Str} {us : List V} {ds : List M} (hb : ∀ i ∈ bs, i < us.length) (hl : us.length ≤ N.length) (w : Wf K [] us G H (us.map some) (ds.map some) F) : Wf K bs us G H (L2.start N us) (ds.map some ++ List.replicate (N.length - ds.length) none) F := by
  have hd : us.length = ds.length := by
    have := w.ln
    simpa using this
  refine ⟨w.sub, ?_, fun i m h => ?_, fun i h => ?_, w.dj, fun i hi => ?_⟩
  · unfold L2.start
    simp only [List.length_append, List.length_map, List.length_replicate]
    omega
  · by_cases hi : i < ds.length
    · rw [List.getElem?_append_left (by simpa using hi)] at h
      obtain ⟨v, hv, r⟩ := w.at_ i m h
      refine ⟨v, ?_, r⟩
      unfold L2.start
      rw [List.getElem?_append_left (by simp; omega)]
      exact hv
    · rw [List.getElem?_append_right (by simp; omega), List.getElem?_replicate] at h
      split at h <;> cases h
  · by_cases hi : i < ds.length
    · exact absurd (by rw [List.getElem?_append_left (by simpa using hi), List.getElem?_map, List.getElem?_eq_getElem hi]; rfl) (h ds[i])
    · exact w.em i fun m z => by
        rw [List.getElem?_eq_none (by simp; omega)] at z; cases z
  · unfold L2.start
    rw [List.getElem?_append_left (by have := hb i hi; simpa using this), List.getElem?_map]
theorem end_wf {us : List V} {ds : List M} {F0 : Nat → List Addr} {G0 H0 : Hp} (w0 : Wf K [] us G0 H0 (us.map some) (ds.map some) F0) (s0 : Same G0 G) (w : Wf K bs us G H σ en F) :
    ∃ F', Wf K [] us G H (us.map some) (back bs en 0 ds) F' ∧ ∀ a, Ow F' a → Ow F a := by
  let F1 : Nat → List Addr := fun i => match (back bs en 0 ds)[i]? with
    | some (some (.p _)) => []
    | some (some _) => F i
    | _ => []
  have hF : ∀ i a, a ∈ F1 i → a ∈ F i := fun i a h => by
    have h' : a ∈ (match (back bs en 0 ds)[i]? with
      | some (some (.p _)) => []
      | some (some _) => F i
      | _ => []) := h
    split at h'
    · cases h'
    · exact h'
    · cases h'
  refine ⟨F1, ⟨w.sub, ?_, fun i m h => ?_, fun i h => ?_, fun j k a h1 h2 => w.dj j k a (hF j a h1) (hF k a h2), fun i hi => nomatch hi⟩, fun a ⟨i, h⟩ => ⟨i, hF i a h⟩⟩
  · have := w0.ln
    rw [back_len]
    simpa using this
  · rcases back_get bs en 0 ds i m h with ⟨d, h1, h2⟩ | ⟨h1, h2, h3⟩
    · subst h2
      obtain ⟨v, hv, r⟩ := w0.at_ i (.p d) (by rw [List.getElem?_map, h1]; rfl)
      refine ⟨v, hv, ?_⟩
      have e : F1 i = [] := by
        show (match (back bs en 0 ds)[i]? with
          | some (some (.p _)) => []
          | some (some _) => F i
          | _ => []) = []
        rw [h]
      rw [e]
      exact .p (r.d.mono s0)
    · rw [Nat.zero_add] at h1 h2
      obtain ⟨v, hv, r⟩ := w.at_ i m (slotM_some h2)
      have hb := w.bs i h1
      rw [hv] at hb
      refine ⟨v, by rw [List.getElem?_map]; exact hb.symm, ?_⟩
      have e : F1 i = F i := by
        show (match (back bs en 0 ds)[i]? with
          | some (some (.p _)) => []
          | some (some _) => F i
          | _ => []) = F i
        rw [h]
        cases m with
        | p d => exact r.pure.symm
        | ml _ => rfl
        | mi _ _ => rfl
      rw [e]
      exact r
  · show (match (back bs en 0 ds)[i]? with
      | some (some (.p _)) => []
      | some (some _) => F i
      | _ => []) = []
    cases q : (back bs en 0 ds)[i]? with
    | none => rfl
    | some o =>
      cases o with
      | none => rfl
      | some m => exact absurd q (h m)
/-- THE RULE of a def: what its body denotes -/
theorem fn_den {P : Program} {w : World} {K : PySem.W.Frag} {mg : Str → Option Value} {base : Heap} {x qual : Str} {st : Stmt} {f : Addr} {fd : FuncData} {N ps : List Str} {k : Nat} {fb : FS} (bs : List Nat) (Fn : Fun K x qual st f fd) (S : FnScope N ps (defScope st)) (hb : ∀ i ∈ bs, i < ps.length)
    (body : ∀ (cdv : Value) (A : Around) (outer : List Env) (s : Shared) (H : Hp) (E : XK), Room k (A.deeper (envOfC qual (defScope st) s.heap.objs.size f cdv)) → A.guards = some [] →
      PSs (cxOf CX0 P w K mg base N qual (defScope st) f cdv A outer s H E).nox (defBody st) (rds K bs fb)) : FnG P w K mg base (k + 1) f fd ps (spD K ps.length (runF fb N.length bs)) := by
  have hpl : ps.length ≤ N.length := by
    have := congrArg List.length S.pre
    rw [List.length_take] at this
    omega
  refine fn_body Fn S (fun us H Q E h => h.1) fun cdv A outer s H us Q E hr hgd hsp => ⟨_, body cdv A outer s H E hr hgd, ?_⟩
  obtain ⟨hl, G, ds, F, r, ds', w0, hg, k⟩ := hsp
  obtain ⟨⟨fl, en'⟩, h1, h2⟩ := Option.bind_eq_some_iff.mp (show (fb (ds.map some ++ List.replicate (N.length - ds.length) none)).bind _ = some (r, ds') from hg)
  refine ⟨us, G, _, F, fl, en', start_wf (fun i hi => by rw [hl]; exact hb i hi) (by omega) w0, h1, ?_⟩
  cases fl with
  | nx =>
    cases h2
    intro G1 H1 σ1 F1 w1 f1
    obtain ⟨F2, w2, o2⟩ := end_wf w0 f1.gk w1
    exact k G1 H1 F2 .non [] w2 ⟨f1.hk, f1.gk, f1.gn, fun a q => f1.on a (o2 a q)⟩ (.p .non) Tmp.nil
  | rt m =>
    cases h2
    intro G1 H1 σ1 F1 v fp w1 f1 r1 t1
    obtain ⟨F2, w2, o2⟩ := end_wf w0 f1.gk w1
    exact k G1 H1 F2 v fp w2 ⟨f1.hk, f1.gk, f1.gn, fun a q => f1.on a (o2 a q)⟩ r1 fun a ha => ⟨fun z => (t1 a ha).1 (o2 a z), (t1 a ha).2⟩
  | bk => cases h2
  | ct => cases h2
/-- another word for what a def does -/
theorem FnG.eqv {P : Program} {w : World} {K : PySem.W.Frag} {mg : Str → Option Value} {base : Heap} {k n : Nat} {f : Addr} {fd : FuncData} {ps : List Str} {g g' : FD} (Fn : FnG P w K mg base k f fd ps (spD K n g)) (h : ∀ ds r, g' ds = some r → g ds = some r) : FnG P w K mg base k f fd ps (spD K n g') :=
  ⟨fun us H Q E q => Fn.ln us H Q E ⟨q.1, by obtain ⟨_, G, ds, F, r, ds', w0, hg, kk⟩ := q; exact ⟨G, ds, F, r, ds', w0, h _ _ hg, kk⟩⟩, fun A o s H a us ws Q E hr hgd e0 hb r q => Fn.go A o s H a us ws Q E hr hgd e0 hb r
    ⟨q.1, by obtain ⟨_, G, ds, F, r, ds', w0, hg, kk⟩ := q; exact ⟨G, ds, F, r, ds', w0, h _ _ hg, kk⟩⟩⟩
/-- a def by its name, at a level -/
structure Def (P : Program) (w : World) (K : PySem.W.Frag) (mg : Str → Option Value) (base : Heap) (k n : Nat) (x : Str) (g : FD) : Prop where
  ex : ∃ (f : Addr) (fd : FuncData) (ps : List Str), FnG P w K mg base k f fd ps (spD K n g) ∧ Binds K fd ps [] ∧ mg x = some (.ref f) ∧ PySem.W.keepIn K (.ref f) = true
theorem Def.up {P : Program} {w : World} {K : PySem.W.Frag} {mg : Str → Option Value} {base : Heap} {j k n : Nat} {x : Str} {g : FD} (d : Def P w K mg base j n x g) (h : j ≤ k) : Def P w K mg base k n x g := by
  obtain ⟨f, fd, ps, q, r⟩ := d.ex
  exact ⟨f, fd, ps, q.up h, r⟩
/-! ### calls -/
def callX (g : FD) (os : List Opd) (en : En) : Option (M × En × En) := (conts en os).bind fun ds => if okOs en os then (g ds).map fun r => (r.1, r.2, give os r.2 (lend os en)) else none
theorem RepOs.len {us : List V} {os : List Opd} {fp : List Addr} (r : RepOs K G H σ us os fp) : us.length = os.length := by
  induction r with
  | nil => rfl
  | cons _ _ _ ih => exact congrArg (· + 1) ih
theorem RepOs.place {us : List V} {os : List Opd} {fp : List Addr} (r : RepOs K G H σ us os fp) : ∀ (k : Nat) i, os[k]? = some (.pl i) → ∃ v, us[k]? = some v ∧ σ[i]? = some (some v) := by
  induction r with
  | nil => intro k i h; simp at h
  | @cons v us o os fp fq r rr d ih =>
    intro k i h
    cases k with
    | zero =>
      simp only [List.getElem?_cons_zero, Option.some.injEq] at h
      subst h
      cases r with
      | pl hv => exact ⟨v, rfl, hv⟩
    | succ k =>
      obtain ⟨v', h1, h2⟩ := ih k i (by simpa using h)
      exact ⟨v', by simpa using h1, h2⟩
theorem call_ok {g : FD} {os : List Opd} {us : List V} {fp : List Addr} {m : M} {ms : En} {G0 H0 : Hp} {F0 : Nat → List Addr} {Q : VK} (w : Wf K bs vs G H σ en F) (f0 : Fr G0 H0 (Ow F0) G H (Ow F)) (r : RepOs K G H σ us os fp) (t : Tmp H0 F0 F fp) (hc : callX g os en = some (m, ms, en'))
    (q : ∀ G' H' F' v fq, Wf K bs vs G' H' σ en' F' → Fr G0 H0 (Ow F0) G' H' (Ow F') → RepM K G' H' v m fq → Tmp H0 F0 F' fq →
      (∀ (k : Nat) m0 m', os[k]? = some (.val m0) → ms[k]? = some (some m') → ∃ u fz, us[k]? = some u ∧ RepM K G' H' u m' fz ∧ Tmp H0 F0 F' fz) → Q v H') : spD K os.length g us H Q E0 := by
  obtain ⟨ds, h1, h2⟩ := Option.bind_eq_some_iff.mp hc
  by_cases ok : okOs en os = true
  · rw [if_pos ok] at h2
    obtain ⟨⟨rm, ds'⟩, h3, h4⟩ := Option.map_eq_some_iff.mp h2
    cases h4
    obtain ⟨fs, A⟩ := args_ok w r h1 ok fun a ha => (t a ha).1
    have wa := A.wf w.sub
    refine ⟨r.len, G, ds, argF fs, rm, ds', wa, h3, fun G1 H1 F1 v fq w1 f1 r1 t1 => ?_⟩
    obtain ⟨Fl, wl, ol, kl, nl⟩ := lend_ok w os
    -- what the caller keeps is apart from what it lends
    have apart : ∀ a, Ow Fl a → ¬ Ow (argF fs) a := fun a ⟨i, hi⟩ ⟨k, hk⟩ => by
      obtain ⟨fk, q1, q2⟩ := argF_mem hk
      rcases A.own k fk a q1 q2 with ⟨j, hj, haj⟩ | ⟨_, hap⟩
      · have haF : a ∈ F i := by
          rcases kl i with z | z
          · rw [z] at hi; exact hi
          · rw [z] at hi; cases hi
        have e := w.dj i j a haF haj
        subst e
        rw [nl i (List.mem_of_getElem? hj)] at hi
        cases hi
      · exact (t a hap).1 (ol a ⟨i, hi⟩)
    have wl1 : Wf K bs vs G1 H1 σ (lend os en) Fl := ⟨w1.sub, wl.ln, fun i m' h => by
      obtain ⟨u, hu, rr⟩ := wl.at_ i m' h
      exact ⟨u, hu, rr.frame f1 fun a ha => apart a ⟨i, ha⟩⟩, wl.em, wl.dj, wl.bs⟩
    have sep : ∀ a, Ow Fl a → ¬ Ow F1 a := fun a z => f1.notOw (apart a z) (wl.owned z).2
    obtain ⟨F2, w2, o2⟩ := give_ok w1 os 0 (lend os en) Fl wl1 (fun a z k _ hk => sep a z ⟨k, hk⟩) fun k i h => by
      obtain ⟨u, q1, q2⟩ := r.place k i h
      exact ⟨u, by rw [Nat.zero_add]; exact q1, q2⟩
    rw [List.drop_zero] at w2
    have o2' : ∀ a, Ow F2 a → Ow Fl a ∨ Ow F1 a := fun a z => by
      rcases o2 a z with q | ⟨k, i, _, q⟩
      · exact .inl q
      · exact .inr ⟨_, q⟩
    -- what was lent or made for the call
    have lent : ∀ a, Ow (argF fs) a → Ow F0 a ∨ H0 a = none := fun a ⟨k, hk⟩ => by
      obtain ⟨fk, q1, q2⟩ := argF_mem hk
      rcases A.own k fk a q1 q2 with ⟨j, hj, haj⟩ | ⟨_, hap⟩
      · exact f0.on a ⟨j, haj⟩
      · exact (t a hap).2
    have new0 : ∀ a, H a = none → Ow F0 a ∨ H0 a = none := fun a h => by
      by_cases z : Ow F0 a
      · exact .inl z
      · right
        cases h' : H0 a with
        | none => rfl
        | some o => rw [f0.hk a o h' z] at h; cases h
    have no : ∀ a o, H0 a = some o → ¬ Ow F0 a → ¬ Ow (argF fs) a := fun a o h n z => by
      rcases lent a z with z | z
      · exact n z
      · rw [h] at z; cases z
    have fr : Fr G0 H0 (Ow F0) G1 H1 (Ow F2) := by
      refine ⟨fun a o h n => f1.hk a o (f0.hk a o h n) (no a o h n), f0.gk.trans f1.gk, fun a g h n => ?_, fun a z => ?_⟩
      · obtain ⟨o, h⟩ := h
        exact f1.gn a (f0.gn a g ⟨o, h⟩ n) ⟨o, f0.hk a o h n⟩ (no a o h n)
      · rcases o2' a z with z | z
        · exact f0.on a (ol a z)
        · rcases f1.on a z with z | z
          · exact lent a z
          · exact new0 a z
    have old1 : ∀ a, Ow F1 a → Ow F0 a ∨ H0 a = none := fun a z => by
      rcases f1.on a z with z | z
      · exact lent a z
      · exact new0 a z
    refine q G1 H1 F2 v fq w2 fr r1 (fun a ha => ⟨fun z => ?_, ?_⟩) fun k m0 m' hk hm => ?_
    · rcases o2' a z with z | z
      · rcases (t1 a ha).2 with y | y
        · exact apart a z y
        · obtain ⟨_, o, h⟩ := wl.owned z
          rw [y] at h; cases h
      · exact (t1 a ha).1 z
    · rcases (t1 a ha).2 with y | y
      · exact lent a y
      · exact new0 a y
    · obtain ⟨u, hu, rm'⟩ := w1.at_ k m' hm
      rw [List.getElem?_map] at hu
      obtain ⟨u', hu', e⟩ := Option.map_eq_some_iff.mp hu
      cases e
      refine ⟨_, F1 k, hu', rm', fun a ha => ⟨fun z => ?_, old1 a ⟨k, ha⟩⟩⟩
      rcases o2 a z with z | ⟨k', i, hk', hi⟩
      · exact sep a z ⟨k, ha⟩
      · rw [Nat.zero_add] at hi
        have e := w1.dj k k' a ha hi
        subst e
        rw [hk] at hk'; cases hk'
  · rw [if_neg ok] at h2; cases h2
def fCall (g : FD) (fo : FO) : FE := fun en => (fo en).bind fun q => (callX g q.1 q.2).map fun r => (.val r.1, r.2.2)
theorem rd_call {g : FD} {fo : FO} {n : Nat} (hn : ∀ en os en', fo en = some (os, en') → os.length = n) (σ : L2.St) (H : Hp) (Q : VK) (q : rd K bs (fCall g fo) σ H Q) : tCallG (spD K n g) (rdo K bs fo) σ H Q := by
  obtain ⟨vs, G, en, F, o, en', w, hf, k⟩ := q
  obtain ⟨⟨os, e1⟩, h1, z1⟩ := Option.bind_eq_some_iff.mp hf
  obtain ⟨⟨m, ms, e2⟩, h2, z2⟩ := Option.map_eq_some_iff.mp z1
  cases z2
  refine ⟨vs, G, en, F, os, e1, w, h1, fun G1 H1 F1 us fp w1 f1 r1 t1 => ?_⟩
  have e := hn _ _ _ h1
  subst e
  exact call_ok w1 f1 r1 t1 h2 fun G2 H2 F2 v fq w2 f2 r2 t2 _ => k G2 H2 F2 v fq w2 f2 (.val r2) t2
/-- how many operands -/
structure Ops (fo : FO) (n : Nat) : Prop where
  h : ∀ en os en', fo en = some (os, en') → os.length = n
theorem ops_nil : Ops fNilO 0 := ⟨fun en os en' h => by cases h; rfl⟩
theorem ops_cons {f : FE} {fo : FO} {n : Nat} (o : Ops fo n) : Ops (fConsO f fo) (n + 1) := ⟨fun en os en' h => by
  obtain ⟨⟨o1, e1⟩, h1, z1⟩ := Option.bind_eq_some_iff.mp h
  obtain ⟨⟨o2, e2⟩, h2, z2⟩ := Option.map_eq_some_iff.mp z1
  cases z2
  exact congrArg (· + 1) (o.h _ _ _ h2)⟩
variable {x : Str} {p pos : Pos} {e : Expr} {es : List Expr} {fo : FO} {n k : Nat} {g : FD}
theorem de_call (D : Def X.prog X.w X.K X.mg X.base k n x g) (hr : Room k X.A) (hgd : X.A.guards = some []) (ha : PA X (e :: es) (rdo X.K bs fo)) (hn : Ops fo n) (hg : Gl X x := by rfl) (hdb : (x == ("__debug__" : Str)) = false := by decide)
    (he : starEach (e :: es) X.env = (false, eval e X.env) :: starEach es X.env := by rfl) (hpl : (backTo pos (starEach es X.env)).any (·.1) = false := by rfl) : PE X (.Call (.Name x p) (e :: es) [] pos) (rd X.K bs (fCall g fo)) := by
  obtain ⟨f, fd, ps, F, b, m, kp⟩ := D.ex
  exact (pe_callG F hr hgd hg m kp b ha hdb he hpl).imp fun σ H Q q => rd_call hn.h σ H Q q
theorem de_call0 (D : Def X.prog X.w X.K X.mg X.base k 0 x g) (hr : Room k X.A) (hgd : X.A.guards = some []) (hg : Gl X x := by rfl) (hdb : (x == ("__debug__" : Str)) = false := by decide) : PE X (.Call (.Name x p) [] [] pos) (rd X.K bs (fCall g fNilO)) := by
  obtain ⟨f, fd, ps, F, b, m, kp⟩ := D.ex
  refine (pe_callG0 F hr hgd hg m kp b hdb).imp fun σ H Q q => ?_
  have h := rd_call ops_nil.h σ H Q q
  obtain ⟨vs, G, en, F, os, en', w, hf, k⟩ := h
  cases hf
  exact k G H F [] [] w Fr.refl .nil Tmp.nil
/-! ### C(..): what never changes from then on -/
theorem RepOs.at_ {us : List V} {os : List Opd} {fp : List Addr} (r : RepOs K G H σ us os fp) : ∀ a ∈ fp, ∃ u, H a = some u := by
  induction r with
  | nil => exact fun a ha => nomatch ha
  | cons r rr _ ih =>
    intro a ha
    rcases List.mem_append.mp ha with z | z
    · exact r.at_ a z
    · exact ih a z
theorem RepOs.kept {us : List V} {os : List Opd} {fp : List Addr} (r : RepOs K G H σ us os fp) (h : Same H H') : RepOs K G H' σ us os fp := by
  induction r with
  | nil => exact .nil
  | cons r rr d ih =>
    refine .cons ?_ ih d
    cases r with
    | val r => exact .val (r.move (fun _ _ z => z) (fun a _ o q => h a o q) fun a ha => (r.at_ a ha).1)
    | pl q => exact .pl q
def noneM : M → Bool
  | .p .non => true
  | _ => false
/-- a new object that stays owned -/
def fMake (C : Addr) (g : FD) (fo : FO) : FE := fun en => (fo en).bind fun q => (callX g (.val (.mi C []) :: q.1) q.2).bind fun r => if noneM r.1 then (r.2.1.head?).join.map fun m => (.val m, r.2.2) else none
theorem rd_make {C : Addr} (σ : L2.St) (H : Hp) (Q : VK) (hn : Ops fo n) (q : rd K bs (fMake C g fo) σ H Q) : tMakeG C (spD K (n + 1) g) (rdo K bs fo) σ H Q := by
  obtain ⟨vs, G, en, F, o, en', w, hf, k⟩ := q
  obtain ⟨⟨os, e1⟩, h1, z1⟩ := Option.bind_eq_some_iff.mp hf
  obtain ⟨⟨m, ms, e2⟩, h2, z2⟩ := Option.bind_eq_some_iff.mp z1
  by_cases hm : noneM m = true
  · rw [if_pos hm] at z2
    obtain ⟨m0, h3, z3⟩ := Option.map_eq_some_iff.mp z2
    cases z3
    refine ⟨vs, G, en, F, os, e1, w, h1, fun G1 H1 F1 us fp w1 f1 r1 t1 => fun x dx nx ndx ne => ?_⟩
    have e := hn.h _ _ _ h1
    subst e
    have k1 : Same H1 (upd (upd H1 dx (.own x)) x (.ins C dx [])) := fun b u h => by
      rw [upd_ne (ne_of_none h nx), upd_ne (ne_of_none h ndx)]
      exact h
    have ex : Ext G1 H1 G1 (upd (upd H1 dx (.own x)) x (.ins C dx [])) [x] := ⟨w1.sub.trans k1, k1, fun _ _ h => h, fun _ h _ => h, fun b hb => by rw [List.mem_singleton.mp hb]; exact nx⟩
    have rx : RepM K G1 (upd (upd H1 dx (.own x)) x (.ins C dx [])) (.ref x) (.mi C []) [x] := .mi upd_same (w1.sub.free nx) .nil (fun h => nomatch h)
    have fresh := r1.at_
    have r1' := r1.kept k1
    have rs := RepOs.cons (.val rx) r1' fun a ha hp => by
      rw [List.mem_singleton.mp ha] at hp
      obtain ⟨u, h⟩ := fresh x hp
      rw [nx] at h; cases h
    have f1' := f1.trans (Ext.fr (O := Ow F1) ex)
    have ts : Tmp H F F1 ([x] ++ fp) := fun a ha => by
      rcases List.mem_append.mp ha with z | z
      · exact Tmp.back f1 (Tmp.ext w1 ex) a z
      · exact t1 a z
    refine call_ok (os := .val (.mi C []) :: os) (ex.wf w1) f1' rs ts h2 fun G2 H2 F2 v fq w2 f2 r2 t2 last => ?_
    cases m with
    | p d =>
      cases d with
      | non =>
        cases r2 with
        | p r2 =>
          cases r2
          refine ⟨rfl, ?_⟩
          obtain ⟨u, fz, hu, rz, tz⟩ := last 0 _ m0 rfl (by
            cases ms with
            | nil => cases h3
            | cons a ms =>
              have h3' : a = some m0 := h3
              rw [h3']; rfl)
          cases hu
          exact k G2 H2 F2 _ fz w2 f2 (.val rz) tz
      | _ => cases hm
    | ml _ => cases hm
    | mi _ _ => cases hm
  · rw [if_neg hm] at z2; cases z2
/-- an operand made to stay for ever at once -/
def fFrz (f : FE) : FE := fun en => (fV f en).map fun q => (.val (.p q.1), q.2)
theorem de_frz {fa : FE} (h : PE X e (rd X.K bs fa)) : PE X e (rd X.K bs (fFrz fa)) := (dv h).imp fun σ H Q q => by
  obtain ⟨vs, G, en, F, o, en', w, hf, k⟩ := q
  obtain ⟨⟨d, e1⟩, h1, z1⟩ := Option.map_eq_some_iff.mp hf
  cases z1
  exact ⟨vs, G, en, F, d, e1, w, h1, fun G1 H1 F1 v w1 f1 r1 => k G1 H1 F1 v [] w1 f1 (.val (.p r1)) Tmp.nil⟩
/-- a class of one's own that is made by a def __init__ -/
structure Cla (P : Program) (w : World) (K : PySem.W.Frag) (mg : Str → Option Value) (base : Heap) (k n : Nat) (x : Str) (C : Addr) (g : FD) : Prop where
  ex : ∃ (f : Addr) (fd : FuncData) (ps : List Str), FnG P w K mg base k f fd ps (spD K (n + 1) g) ∧ Binds K fd ps [] ∧ Mk K C f ∧ mg x = some (.ref C)
theorem de_make {C : Addr} (D : Cla X.prog X.w X.K X.mg X.base k n x C g) (hr : Room (k + 1) X.A) (hgd : X.A.guards = some []) (ha : PA X (e :: es) (rdo X.K bs fo)) (hn : Ops fo n) (hg : Gl X x := by rfl) (hdb : (x == ("__debug__" : Str)) = false := by decide)
    (he : starEach (e :: es) X.env = (false, eval e X.env) :: starEach es X.env := by rfl) (hpl : (backTo pos (starEach es X.env)).any (·.1) = false := by rfl) : PE X (.Call (.Name x p) (e :: es) [] pos) (rd X.K bs (fMake C g fo)) := by
  obtain ⟨f, fd, ps, F, b, mk, m⟩ := D.ex
  exact (pe_makeG mk F hr hgd hg m b ha hdb he hpl).imp fun σ H Q q => rd_make σ H Q hn q
/-! ### self.f = e -/
def putM (f : Str) (m : M) : List (Str × M) → List (Str × M)
  | [] => [(f, m)]
  | (k, x) :: r => if k = f then (k, m) :: r else (k, x) :: putM f m r
theorem putM_len (f : Str) (m : M) : ∀ fs, (putM f m fs).length ≤ fs.length + 1
  | [] => Nat.le_refl _
  | (k, x) :: r => by
    unfold putM
    split
    · simp
    · have := putM_len f m r
      simp; omega
theorem RepMs.len : ∀ {us : List (Str × V)} {fs : List (Str × M)} {fp : List Addr}, RepMs K G H us fs fp → us.length = fs.length
  | _, _, _, .nil => rfl
  | _, _, _, .cons _ t _ => congrArg (· + 1) (RepMs.len t)
theorem RepMs.put {f : Str} {v : V} {m : M} {fq : List Addr} (r : RepM K G H v m fq) : ∀ {us : List (Str × V)} {fs : List (Str × M)} {fp : List Addr}, RepMs K G H us fs fp → (∀ a ∈ fq, a ∉ fp) → ∃ fp', RepMs K G H (putF f v us) (putM f m fs) fp' ∧ ∀ a ∈ fp', a ∈ fp ∨ a ∈ fq
  | _, _, _, .nil, n => ⟨fq ++ [], .cons r .nil (fun _ _ h => nomatch h), fun a ha => .inr (by simpa using ha)⟩
  | _, _, _, .cons (k := k) (f1 := f1) (f2 := f2) h t d, n => by
    unfold putF putM
    by_cases e : k = f
    · rw [if_pos e, if_pos e]
      refine ⟨fq ++ f2, .cons r t fun a ha hb => n a ha (List.mem_append_right _ hb), fun a ha => ?_⟩
      rcases List.mem_append.mp ha with z | z
      · exact .inr z
      · exact .inl (List.mem_append_right _ z)
    · rw [if_neg e, if_neg e]
      obtain ⟨fp', h1, h2⟩ := RepMs.put (f := f) r t fun a ha hb => n a ha (List.mem_append_right _ hb)
      refine ⟨f1 ++ fp', .cons h h1 fun a ha hb => ?_, fun a ha => ?_⟩
      · rcases h2 a hb with z | z
        · exact d a ha z
        · exact n a z (List.mem_append_left _ ha)
      · rcases List.mem_append.mp ha with z | z
        · exact .inl (List.mem_append_left _ z)
        · rcases h2 a z with z | z
          · exact .inl (List.mem_append_right _ z)
          · exact .inr z
def putS (i : Nat) (C : Addr) (f : Str) (m : M) (en : En) : Option En := match slotM en i with
  | some (.mi C' fs) => if C' = C ∧ fs.length < 900 then some (en.set i (some (.mi C (putM f m fs)))) else none
  | _ => none
def fSetF (i : Nat) (C : Addr) (f : Str) (fv : FE) : FS := fun en => (fv en).bind fun q => (resO q.1 q.2).bind fun r => (putS i C f r.1 r.2).map fun e => (.nx, e)
theorem Ow.of {i : Nat} {a : Addr} (h : a ∈ F i) : Ow F a := ⟨i, h⟩
theorem putS_ok {i : Nat} {C : Addr} {f : Str} {m : M} {v x : V} {fq : List Addr} (w : Wf K bs vs G H σ en F) (hx : σ[i]? = some (some x)) (r : RepM K G H v m fq) (n : ∀ a ∈ fq, ¬ Ow F a) (e : putS i C f m en = some en') :
    ∃ p dx us, x = .ref p ∧ H p = some (.ins C dx us) ∧ us.length < 1000 ∧ ∃ F', Wf K bs vs G (upd H p (.ins C dx (putF f v us))) σ en' F' ∧ (∀ a o, H a = some o → ¬ Ow F a → upd H p (.ins C dx (putF f v us)) a = some o) ∧ ∀ a, Ow F' a → Ow F a ∨ a ∈ fq := by
  unfold putS at e
  split at e
  · next C' fs hs =>
    by_cases o : C' = C ∧ fs.length < 900
    · rw [if_pos o] at e
      cases e
      obtain ⟨oC, ol⟩ := o
      subst oC
      obtain ⟨u, hu, rm⟩ := w.at_ i _ (slotM_some hs)
      rw [hx] at hu
      cases hu
      generalize hF : F i = fi at rm
      cases rm with
      | @mi p _ dx us _ fp h1 h2 h3 h4 =>
        have pO : Ow F p := ⟨i, by rw [hF]; exact List.mem_cons_self ..⟩
        have fpO : ∀ a ∈ fp, Ow F a := fun a ha => ⟨i, by rw [hF]; exact List.mem_cons_of_mem _ ha⟩
        obtain ⟨fp', g1, g2⟩ := h3.put (f := f) r fun a ha hb => n a ha (fpO a hb)
        have pn : p ∉ fp' := fun z => by
          rcases g2 p z with z | z
          · exact h4 z
          · exact n p z pO
        have keep : ∀ a ∈ fp', ∀ o, H a = some o → upd H p (.ins C' dx (putF f v us)) a = some o := fun a ha o q => by
          rw [upd_ne fun z => pn (by rw [← z]; exact ha)]
          exact q
        have rn : RepM K G (upd H p (.ins C' dx (putF f v us))) (.ref p) (.mi C' (putM f m fs)) (p :: fp') := .mi upd_same h2 (g1.move (fun _ _ z => z) keep fun a ha => (g1.at_ a ha).1) pn
        have sub : Same G (upd H p (.ins C' dx (putF f v us))) := fun a o q => by
          rw [upd_ne (ne_of_none q h2)]
          exact w.sub a o q
        have hl : i < en.length := by rw [← w.ln]; exact (List.getElem?_eq_some_iff.mp hx).1
        have out : ∀ k a, k ≠ i → a ∈ F k → a ∉ p :: fp' := fun k a e h q => by
          have q' : a ∈ F i ∨ a ∈ fq := by
            rcases List.mem_cons.mp q with z | z
            · left; rw [hF, z]; exact List.mem_cons_self ..
            · rcases g2 a z with z | z
              · left; rw [hF]; exact List.mem_cons_of_mem _ z
              · exact .inr z
          rcases q' with z | z
          · exact e (w.dj k i a h z)
          · exact n a z ⟨k, h⟩
        refine ⟨p, dx, us, rfl, h1, by rw [h3.len]; omega, cut F i (p :: fp'), ⟨sub, by rw [List.length_set]; exact w.ln, fun j m' h => ?_, fun j h => ?_, fun j k a q1 q2 => ?_, w.bs⟩, fun a o q nO => ?_, fun a q => ?_⟩
        · by_cases e : i = j
          · subst e
            rw [List.getElem?_set_self hl] at h
            cases h
            exact ⟨_, hx, by rw [cut_at]; exact rn⟩
          · rw [List.getElem?_set_ne e] at h
            rw [cut_ne (Ne.symm e)]
            obtain ⟨u, hu, q⟩ := w.at_ j m' h
            refine ⟨u, hu, q.move (fun _ _ z => z) (fun a ha o z => ?_) fun a ha => (q.at_ a ha).1⟩
            rw [upd_ne fun z' => out j a (Ne.symm e) ha (by rw [z']; exact List.mem_cons_self ..)]
            exact z
        · by_cases e : j = i
          · subst e
            exact absurd (List.getElem?_set_self hl) (h _)
          · rw [cut_ne e]
            exact w.em j fun m' q => h m' (by rw [List.getElem?_set_ne (Ne.symm e)]; exact q)
        · by_cases e1 : j = i <;> by_cases e2 : k = i
          · rw [e1, e2]
          · rw [e1, cut_at] at q1
            rw [cut_ne e2] at q2
            exact absurd q1 (out k a e2 q2)
          · rw [e2, cut_at] at q2
            rw [cut_ne e1] at q1
            exact absurd q2 (out j a e1 q1)
          · rw [cut_ne e1] at q1
            rw [cut_ne e2] at q2
            exact w.dj j k a q1 q2
        · rw [upd_ne fun z => nO (by rw [z]; exact pO)]
          exact q
        · rcases q.cut with q | ⟨_, j, _, q⟩
          · rcases List.mem_cons.mp q with z | z
            · left; rw [z]; exact pO
            · rcases g2 a z with z | z
              · exact .inl (fpO a z)
              · exact .inr z
          · exact .inl ⟨j, q⟩
    · rw [if_neg o] at e; cases e
  · cases e
theorem ds_setF {fa : FE} {i : Nat} {C : Addr} {f : Str} {y : Str} {p1 p2 : Pos} (cl : Cls X.K C) (na : NoAttr X.K C f) (he : PE X e (rd X.K bs fa)) (hv : PE X (.Name y p1) (tVar i)) (hs : swapsWith e (some (.Attribute (.Name y p1) f p2)) pos.line X.env = pure false := by rfl) :
    PS X (.Assign [.Attribute (.Name y p1) f p2] e pos) (rds X.K bs (fSetF i C f fa)) := (ps_fld hv he hs).imp fun E σ H q => by
  obtain ⟨vs, G, en, F, fl, en', w, hf, k⟩ := q
  obtain ⟨⟨o, e1⟩, h1, z1⟩ := Option.bind_eq_some_iff.mp hf
  obtain ⟨⟨m, e2⟩, h2, z2⟩ := Option.bind_eq_some_iff.mp z1
  obtain ⟨e3, h3, z3⟩ := Option.map_eq_some_iff.mp z2
  cases z3
  refine ⟨vs, G, en, F, o, e1, w, h1, fun G1 H1 F1 v fp w1 f1 r1 t1 => ?_⟩
  obtain ⟨G2, F2, fq, w2, f2, f12, r2, t2, _⟩ := resO_ok w1 f1 r1 t1 h2
  have hx : ∃ x, σ[i]? = some (some x) := by
    unfold putS at h3
    split at h3
    · next C' fs hs =>
      obtain ⟨u, hu, _⟩ := w2.at_ i _ (slotM_some hs)
      exact ⟨u, hu⟩
    · cases h3
  obtain ⟨x, hx⟩ := hx
  obtain ⟨p, dx, us, rfl, hp, hl, F3, w3, k3, o3⟩ := putS_ok w2 hx r2 (fun a ha => (t2 a ha).1) h3
  refine ⟨_, hx, p, C, dx, us, rfl, hp, cl, na, hl, k G2 _ σ F3 w3 ⟨fun a o h n => ?_, f2.gk, f2.gn, fun a q => ?_⟩⟩
  · refine k3 a o (f2.hk a o h n) fun z => ?_
    rcases f2.on a z with z | z
    · exact n z
    · rw [h] at z; cases z
  · rcases o3 a q with z | z
    · exact f2.on a z
    · exact (t2 a z).2
end
end Dn

namespace Dn
open PySem PySem.Spec PyProof.Rows L2

theorem hu64 {k : Nat} {A : Around} (r : Room k A) : A.units + 64 < cLine := by
  have := r.un
  omega
/-! ### how many targets -/
structure Gs (gs : FGs) (n : Nat) : Prop where
  h : ∀ ds en en', gs ds en = some en' → ds.length = n
theorem gs_nil : Gs gEnd 0 := ⟨fun ds en en' h => by
  cases ds with
  | nil => rfl
  | cons _ _ => cases h⟩
theorem gs_cons {g : FG} {gs : FGs} {n : Nat} (o : Gs gs n) : Gs (gCons1 g gs) (n + 1) := ⟨fun ds en en' h => by
  cases ds with
  | nil => cases h
  | cons d r =>
    obtain ⟨e1, h1, z1⟩ := Option.bind_eq_some_iff.mp (show (g d en).bind (gs r) = some en' from h)
    exact congrArg (· + 1) (o.h _ _ _ z1)⟩
section
variable {K : PySem.W.Frag} {bs : List Nat} {X : Cx} {a b e : Expr} {fa fb : FE} {pos : Pos}
theorem dg_pair {tgs : List Expr} {kk : Nat} {ts : List Nat} {gs : FGs} {n : Nat} (hc : X.calm = true) (hs : PGs X tgs (rdgs X.K bs ts gs)) (o : Gs gs n) (hn : (assignEach tgs X.env).length = n := by rfl) (hst : (assignEach tgs X.env).findIdx? (·.1) = none := by rfl) :
    PG X (.Tuple tgs kk pos) (rdg2 X.K bs ts (gTupl gs)) := dg_tup' hc hs hn o.h hst
/-! ### repr -/
def seqD : D → Bool
  | .lst _ => true
  | .tup _ => true
  | _ => false
def okRep (d : D) : Bool := seqD d && ((pyD d).showable && (!(pyD d).hasDict && (decide ((pyD d).depth ≤ 60) && decide ((pyD d).shown.length ≤ sizeLine))))
def gRepr (m : M) : Option M := (dataM m).bind fun d => if okRep d then some (.p (.str (pyD d).shown)) else none
theorem dp_ref {G : Hp} {v : V} {d : D} (h : Dp K G v (pyD d)) (s : seqD d = true) : ∃ a, v = .ref a := by
  cases d with
  | lst xs =>
    generalize hp : pyD (.lst xs) = p at h
    cases h with
    | lst _ _ => exact ⟨_, rfl⟩
    | tup _ _ => exact ⟨_, rfl⟩
    | _ => cases hp
  | tup xs =>
    generalize hp : pyD (.tup xs) = p at h
    cases h with
    | lst _ _ => exact ⟨_, rfl⟩
    | tup _ _ => exact ⟨_, rfl⟩
    | _ => cases hp
  | _ => cases s
theorem un_repr : Un1 K (fun x H Q => rRepr K [x] H Q) gRepr := fun G H x mx fx m Q e rx hg q => by
  obtain ⟨d, h1, z1⟩ := Option.bind_eq_some_iff.mp hg
  by_cases o : okRep d = true
  · rw [if_pos o] at z1
    cases z1
    have o1 := Bool.and_eq_true_iff.mp o
    have o2 := Bool.and_eq_true_iff.mp o1.2
    have o3 := Bool.and_eq_true_iff.mp o2.2
    have o4 := Bool.and_eq_true_iff.mp o3.2
    have dp := rx.dp e h1
    obtain ⟨a, rfl⟩ := dp_ref dp o1.1
    exact ⟨a, pyD d, rfl, dp, o2.1, by simpa using o3.1, of_decide_eq_true o4.1, of_decide_eq_true o4.2, q.d e (.str _)⟩
  · rw [if_neg o] at z1; cases z1
/-! ### short words for the generator -/
variable {x : Str} {p p1 apos : Pos}
theorem dx_app (k : Nat) (ha : PE X a (rd X.K bs fa)) (hN : X.N[k]? = some x := by rfl) (hv : Vis X.env.scope x := by first | exact Or.inl rfl | exact Or.inr (Or.inl rfl) | exact Or.inr (Or.inr rfl)) (hd : (x == ("__debug__" : Str)) = false := by decide) (hcd : (x == ("__classdict__" : Str)) = false := by decide)
    (h : ∀ {to : TE} {t : TA}, PE X (.Name x p1) to → PA X [a] t → PE X (.Call (.Attribute (.Name x p1) "append" apos) [a] [] pos) (tBM X.K "list" rAppend to t) := by exact fun ho ha => pe_bm PySem.F.plainAttrs_list PySem.F.slot_list_append PySem.F.type_list_append mt_append ho ha)
    (hs : starEach [a] X.env = (false, eval a X.env) :: starEach [] X.env := by rfl) : PE X (.Call (.Attribute (.Name x p1) "append" apos) [a] [] pos) (rd X.K bs (fApp k (fV fa))) := de_app k (pe_var hN hv hd hcd) ha h hs
theorem dx_setIx (k : Nat) (hi : PE X b (rd X.K bs fb)) (he : PE X e (rd X.K bs fa)) {p2 : Pos} (hN : X.N[k]? = some x := by rfl) (hv : Vis X.env.scope x := by first | exact Or.inl rfl | exact Or.inr (Or.inl rfl) | exact Or.inr (Or.inr rfl)) (hd : (x == ("__debug__" : Str)) = false := by decide) (hcd : (x == ("__classdict__" : Str)) = false := by decide)
    (h : ∀ {to ti te : TE}, PE X (.Name x p1) to → PE X b ti → PE X e te → PS X (.Assign [.Subscript (.Name x p1) b p2] e pos) (tAsg te (L2.gSub to ti rSetL)) := by exact fun ho hi he => ps_asg he (pg_sub ho hi set_list)) :
    PS X (.Assign [.Subscript (.Name x p1) b p2] e pos) (rds X.K bs (fSetIx k (fV fa) fb)) := ds_setIx k (pe_var hN hv hd hcd) hi he h
theorem dx_setF (i : Nat) {C : Addr} {f y : Str} {p2 : Pos} (cl : Cls X.K C) (na : NoAttr X.K C f) (he : PE X e (rd X.K bs fa)) (hN : X.N[i]? = some y := by rfl) (hv : Vis X.env.scope y := by first | exact Or.inl rfl | exact Or.inr (Or.inl rfl) | exact Or.inr (Or.inr rfl)) (hd : (y == ("__debug__" : Str)) = false := by decide) (hcd : (y == ("__classdict__" : Str)) = false := by decide)
    (hs : swapsWith e (some (.Attribute (.Name y p1) f p2)) pos.line X.env = pure false := by rfl) : PS X (.Assign [.Attribute (.Name y p1) f p2] e pos) (rds X.K bs (fSetF i C f fa)) := ds_setF cl na he (pe_var hN hv hd hcd) hs
theorem dx_par (i j : Nat) {y : Str} {px py pt : Pos} {kt k2 pt2} (hc : X.calm = true) (hN : X.N.Nodup) (ha : PE X a (rd X.K bs fa)) (hb : PE X b (rd X.K bs fb)) (hbi : i ∉ bs := by decide) (hbj : j ∉ bs := by decide)
    (h : ∀ {ta : TA}, PA X [a, b] ta → PS X (.Assign [.Tuple [.Name x px, .Name y py] kt pt] (.Tuple [a, b] k2 pt2) pos) (tPar i j ta)) (hs : starEach [a, b] X.env = (false, eval a X.env) :: starEach [b] X.env := by rfl) (hs2 : starEach [b] X.env = (false, eval b X.env) :: starEach [] X.env := by rfl) :
    PS X (.Assign [.Tuple [.Name x px, .Name y py] kt pt] (.Tuple [a, b] k2 pt2) pos) (rds X.K bs (fPar i j fa fb)) := ds_par i j hc hN ha hb hbi hbj h hs hs2
theorem dx_is {T : String} {f : String → Bool} {p2 : Pos} {y : Str} (hk : ∀ t ∈ ["NoneType", "bool", "int", "str", "list", "tuple"], kitB t T = some (f t)) (hm : X.mg "isinstance" = none) (hmT : X.mg y = none) (ha : PE X a (rd X.K bs fa)) (hb : PE X (.Name y p2) (tC (.ty T)))
    (hg : Gl X "isinstance" := by rfl) (hs : starEach [a, .Name y p2] X.env = (false, eval a X.env) :: starEach [.Name y p2] X.env := by rfl) (hs2 : starEach [.Name y p2] X.env = (false, eval (.Name y p2) X.env) :: starEach [] X.env := by rfl) (hpl : (backTo pos (starEach [.Name y p2] X.env)).any (·.1) = false := by rfl) :
    PE X (.Call (.Name "isinstance" p) [a, .Name y p2] [] pos) (rd X.K bs (fUn (gIs f) fa)) := de_callC call_isi (un_is hk) hm ha hb hg (by decide +kernel) (by decide) (by decide) hs hs2 hpl
end
end Dn

namespace Dn
open PySem PySem.Spec PyProof.Rows L2

/-! ### what follows a denotation: head first (the rest stands where simp does not look) -/
class Kt (α : Type) where
  q : α → Prop
def OB {α : Type} [k : Kt α] (o : Option α) : Prop := ∃ a, o = some a ∧ k.q a
section
variable {α β : Type} {Q : α → Prop} {R : β → Prop}
@[simp ↓] theorem OB.some_ {a : α} : @OB α ⟨Q⟩ (some a) = Q a := propext ⟨fun ⟨b, e, h⟩ => (Option.some.inj e) ▸ h, fun h => ⟨a, rfl, h⟩⟩
@[simp ↓] theorem OB.none_ : @OB α ⟨Q⟩ none = False := propext ⟨fun ⟨_, e, _⟩ => (nomatch e), False.elim⟩
@[simp ↓] theorem OB.bind_ {o : Option β} {f : β → Option α} : @OB α ⟨Q⟩ (o.bind f) = @OB β ⟨fun b => @OB α ⟨Q⟩ (f b)⟩ o := propext ⟨fun ⟨a, e, h⟩ => (by
  obtain ⟨b, h1, h2⟩ := Option.bind_eq_some_iff.mp e
  exact ⟨b, h1, a, h2, h⟩), fun ⟨b, h1, a, h2, h⟩ => ⟨a, by rw [h1]; exact h2, h⟩⟩
@[simp ↓] theorem OB.map_ {o : Option β} {f : β → α} : @OB α ⟨Q⟩ (o.map f) = @OB β ⟨fun b => Q (f b)⟩ o := propext ⟨fun ⟨a, e, h⟩ => (by
  obtain ⟨b, h1, h2⟩ := Option.map_eq_some_iff.mp e
  exact ⟨b, h1, by show Q (f b); rw [h2]; exact h⟩), fun ⟨b, h1, h⟩ => ⟨f b, by rw [h1]; rfl, h⟩⟩
@[simp ↓] theorem OB.ite_ {c : Prop} [Decidable c] {a b : Option α} : @OB α ⟨Q⟩ (if c then a else b) = if c then @OB α ⟨Q⟩ a else @OB α ⟨Q⟩ b := by split <;> rfl
@[simp] theorem OB.someP {a : α} : @OB α ⟨Q⟩ (some a) = Q a := OB.some_
@[simp] theorem OB.noneP : @OB α ⟨Q⟩ none = False := OB.none_
@[simp] theorem OB.iteP {c : Prop} [Decidable c] {a b : Option α} : @OB α ⟨Q⟩ (if c then a else b) = if c then @OB α ⟨Q⟩ a else @OB α ⟨Q⟩ b := OB.ite_
theorem OB.mk {o : Option α} (h : ∃ a, o = some a ∧ Q a) : @OB α ⟨Q⟩ o := h
theorem OB.out {o : Option α} (h : @OB α ⟨Q⟩ o) : ∃ a, o = some a ∧ Q a := h
theorem OB.mono {o : Option α} {Q' : α → Prop} (h : @OB α ⟨Q⟩ o) (i : ∀ a, Q a → Q' a) : @OB α ⟨Q'⟩ o := let ⟨a, e, q⟩ := h; ⟨a, e, i a q⟩
theorem OB.c {o : Option α} {Q' : α → Prop} (h : ∀ a, Q a = Q' a) : @OB α ⟨Q⟩ o = @OB α ⟨Q'⟩ o := by rw [show Q = Q' from funext h]
theorem OB.ic {c : Prop} [Decidable c] {a b a' b' : Prop} (h : a = a') (k : b = b') : (if c then a else b) = if c then a' else b' := by rw [h, k]
theorem OB.to {o : Option α} {a : α} (e : o = some a) (h : Q a) : @OB α ⟨Q⟩ o := ⟨a, e, h⟩
end
abbrev QE := Opd × En → Prop
abbrev QS := Fl × En → Prop
section
variable {en : En} {Q : QE} {QV : D × En → Prop} {QT : Bool × En → Prop} {QL : List D × En → Prop} {QO : List Opd × En → Prop} {QS : QS} {QG : En → Prop} {QP : Option Int × En → Prop} {QM : M → Prop}
variable {f fa fb fc : FE} {ft fu : FT} {fv : FV} {fl : FL} {fo : FO} {s t : FS} {g g' : M → M → Option M} {u : M → Option M} {i j k : Nat}
@[simp] theorem c_val {m : M} : cont en (.val m) = some m := rfl
@[simp] theorem c_pl : cont en (.pl i) = slotM en i := rfl
@[simp] theorem sl_0 {x : Option M} {r : En} : slotM (x :: r) 0 = x := by
  unfold slotM
  cases x <;> rfl
@[simp] theorem sl_s {x : Option M} {r : En} : slotM (x :: r) (i + 1) = slotM r i := rfl
@[simp ↓] theorem k_name : @OB _ ⟨Q⟩ (fName i en) = @OB _ ⟨fun _ => Q (.pl i, en)⟩ (slotM en i) := OB.bind_.trans (OB.c fun _ => OB.some_)
@[simp ↓] theorem k_c {d : D} : @OB _ ⟨Q⟩ (fC d en) = Q (.val (.p d), en) := OB.some_
@[simp ↓] theorem k_bin : @OB _ ⟨Q⟩ (fBin g fa fb en) = @OB _ ⟨fun oa => @OB _ ⟨fun ob => @OB _ ⟨fun ma => @OB _ ⟨fun mb => @OB _ ⟨fun m => Q (.val m, ob.2)⟩ (g ma mb)⟩ (cont ob.2 ob.1)⟩ (cont ob.2 oa.1)⟩ (fb oa.2)⟩ (fa en) := by
  unfold fBin
  repeat' first | exact OB.map_ | exact OB.some_ | exact OB.none_ | exact rfl | refine OB.bind_.trans ?_ | refine OB.map_.trans ?_ | refine OB.c fun _ => ?_ | refine OB.ite_.trans (OB.ic ?_ ?_)
@[simp ↓] theorem k_un : @OB _ ⟨Q⟩ (fUn u fa en) = @OB _ ⟨fun oa => @OB _ ⟨fun ma => @OB _ ⟨fun m => Q (.val m, oa.2)⟩ (u ma)⟩ (cont oa.2 oa.1)⟩ (fa en) := by
  unfold fUn
  repeat' first | exact OB.map_ | exact OB.some_ | exact OB.none_ | exact rfl | refine OB.bind_.trans ?_ | refine OB.map_.trans ?_ | refine OB.c fun _ => ?_ | refine OB.ite_.trans (OB.ic ?_ ?_)
@[simp ↓] theorem k_B : @OB _ ⟨QT⟩ (fB f en) = @OB _ ⟨fun oa => @OB _ ⟨fun m => @OB _ ⟨fun b => QT (b, oa.2)⟩ (blM m)⟩ (cont oa.2 oa.1)⟩ (f en) := by
  unfold fB
  repeat' first | exact OB.map_ | exact OB.some_ | exact OB.none_ | exact rfl | refine OB.bind_.trans ?_ | refine OB.map_.trans ?_ | refine OB.c fun _ => ?_ | refine OB.ite_.trans (OB.ic ?_ ?_)
@[simp ↓] theorem k_chain : @OB _ ⟨Q⟩ (fChain g g' fa fb fc en) = @OB _ ⟨fun oa => @OB _ ⟨fun ob => @OB _ ⟨fun ma => @OB _ ⟨fun mb => @OB _ ⟨fun m => @OB _ ⟨fun b => if b = true then @OB _ ⟨fun oc => @OB _ ⟨fun mb' => @OB _ ⟨fun mc => @OB _ ⟨fun m => Q (.val m, oc.2)⟩ (g' mb' mc)⟩ (cont oc.2 oc.1)⟩ (cont oc.2 ob.1)⟩ (fc ob.2) else Q (.val (.p (.bl false)), ob.2)⟩ (blM m)⟩ (g ma mb)⟩ (cont ob.2 ob.1)⟩ (cont ob.2 oa.1)⟩ (fb oa.2)⟩ (fa en) := by
  unfold fChain
  repeat' first | exact OB.map_ | exact OB.some_ | exact OB.none_ | exact rfl | refine OB.bind_.trans ?_ | refine OB.map_.trans ?_ | refine OB.c fun _ => ?_ | refine OB.ite_.trans (OB.ic ?_ ?_)
@[simp ↓] theorem k_and : @OB _ ⟨QT⟩ (fAnd ft fu en) = @OB _ ⟨fun p => if p.1 = true then @OB _ ⟨QT⟩ (fu p.2) else QT (false, p.2)⟩ (ft en) := by
  unfold fAnd
  repeat' first | exact OB.map_ | exact OB.some_ | exact OB.none_ | exact rfl | refine OB.bind_.trans ?_ | refine OB.map_.trans ?_ | refine OB.c fun _ => ?_ | refine OB.ite_.trans (OB.ic ?_ ?_)
@[simp ↓] theorem k_or : @OB _ ⟨QT⟩ (fOr ft fu en) = @OB _ ⟨fun p => if p.1 = true then QT (true, p.2) else @OB _ ⟨QT⟩ (fu p.2)⟩ (ft en) := by
  unfold fOr
  repeat' first | exact OB.map_ | exact OB.some_ | exact OB.none_ | exact rfl | refine OB.bind_.trans ?_ | refine OB.map_.trans ?_ | refine OB.c fun _ => ?_ | refine OB.ite_.trans (OB.ic ?_ ?_)
@[simp ↓] theorem k_not : @OB _ ⟨QT⟩ (fNot ft en) = @OB _ ⟨fun p => QT (!p.1, p.2)⟩ (ft en) := by
  unfold fNot
  repeat' first | exact OB.map_ | exact OB.some_ | exact OB.none_ | exact rfl | refine OB.bind_.trans ?_ | refine OB.map_.trans ?_ | refine OB.c fun _ => ?_ | refine OB.ite_.trans (OB.ic ?_ ?_)
@[simp ↓] theorem k_andV : @OB _ ⟨Q⟩ (fAndV fa fb en) = @OB _ ⟨fun oa => @OB _ ⟨fun m => @OB _ ⟨fun b => if b = true then @OB _ ⟨Q⟩ (fb oa.2) else Q (.val (.p (.bl false)), oa.2)⟩ (blM m)⟩ (cont oa.2 oa.1)⟩ (fa en) := by
  unfold fAndV
  repeat' first | exact OB.map_ | exact OB.some_ | exact OB.none_ | exact rfl | refine OB.bind_.trans ?_ | refine OB.map_.trans ?_ | refine OB.c fun _ => ?_ | refine OB.ite_.trans (OB.ic ?_ ?_)
@[simp ↓] theorem k_orV : @OB _ ⟨Q⟩ (fOrV fa fb en) = @OB _ ⟨fun oa => @OB _ ⟨fun m => @OB _ ⟨fun b => if b = true then Q (.val (.p (.bl true)), oa.2) else @OB _ ⟨Q⟩ (fb oa.2)⟩ (blM m)⟩ (cont oa.2 oa.1)⟩ (fa en) := by
  unfold fOrV
  repeat' first | exact OB.map_ | exact OB.some_ | exact OB.none_ | exact rfl | refine OB.bind_.trans ?_ | refine OB.map_.trans ?_ | refine OB.c fun _ => ?_ | refine OB.ite_.trans (OB.ic ?_ ?_)
@[simp ↓] theorem k_notV : @OB _ ⟨Q⟩ (fNotV fa en) = @OB _ ⟨fun oa => @OB _ ⟨fun m => @OB _ ⟨fun b => Q (.val (.p (.bl (!b))), oa.2)⟩ (blM m)⟩ (cont oa.2 oa.1)⟩ (fa en) := by
  unfold fNotV
  repeat' first | exact OB.map_ | exact OB.some_ | exact OB.none_ | exact rfl | refine OB.bind_.trans ?_ | refine OB.map_.trans ?_ | refine OB.c fun _ => ?_ | refine OB.ite_.trans (OB.ic ?_ ?_)
@[simp ↓] theorem k_ifE : @OB _ ⟨Q⟩ (fIfE ft fa fb en) = @OB _ ⟨fun p => if p.1 = true then @OB _ ⟨Q⟩ (fa p.2) else @OB _ ⟨Q⟩ (fb p.2)⟩ (ft en) := by
  unfold fIfE
  repeat' first | exact OB.map_ | exact OB.some_ | exact OB.none_ | exact rfl | refine OB.bind_.trans ?_ | refine OB.map_.trans ?_ | refine OB.c fun _ => ?_ | refine OB.ite_.trans (OB.ic ?_ ?_)
@[simp ↓] theorem k_V : @OB _ ⟨QV⟩ (fV f en) = @OB _ ⟨fun oa => @OB _ ⟨QV⟩ (toV oa.1 oa.2)⟩ (f en) := OB.bind_
@[simp ↓] theorem k_toV {m : M} : @OB _ ⟨QV⟩ (toV (.val m) en) = QV (frz m, en) := OB.some_
@[simp ↓] theorem k_toVp : @OB _ ⟨QV⟩ (toV (.pl i) en) = @OB _ ⟨fun m => QV (frz m, en.set i (some (.p (frz m))))⟩ (slotM en i) := by
  show @OB _ ⟨QV⟩ (plV i en) = _
  unfold plV slotM
  cases h : en[i]? with
  | none => simp only [Option.join_none, OB.none_]
  | some x => cases x with
    | none => simp only [Option.join_some, OB.none_]
    | some m => simp only [Option.join_some, OB.some_]
@[simp ↓] theorem k_plV {QV : D × En → Prop} : @OB _ ⟨QV⟩ (plV i en) = @OB _ ⟨fun m => QV (frz m, en.set i (some (.p (frz m))))⟩ (slotM en i) := k_toVp
@[simp ↓] theorem k_nil : @OB _ ⟨QL⟩ (fNil en) = QL ([], en) := OB.some_
@[simp ↓] theorem k_cons : @OB _ ⟨QL⟩ (fCons fv fl en) = @OB _ ⟨fun p => @OB _ ⟨fun q => QL (p.1 :: q.1, q.2)⟩ (fl p.2)⟩ (fv en) := by
  unfold fCons
  repeat' first | exact OB.map_ | exact OB.some_ | exact OB.none_ | exact rfl | refine OB.bind_.trans ?_ | refine OB.map_.trans ?_ | refine OB.c fun _ => ?_ | refine OB.ite_.trans (OB.ic ?_ ?_)
@[simp ↓] theorem k_tup : @OB _ ⟨Q⟩ (fTup fl en) = @OB _ ⟨fun q => if q.1.length ≤ lim then Q (.val (.p (.tup q.1)), q.2) else False⟩ (fl en) := by
  unfold fTup
  repeat' first | exact OB.map_ | exact OB.some_ | exact OB.none_ | exact rfl | refine OB.bind_.trans ?_ | refine OB.map_.trans ?_ | refine OB.c fun _ => ?_ | refine OB.ite_.trans (OB.ic ?_ ?_)
@[simp ↓] theorem k_lst : @OB _ ⟨Q⟩ (fLst fl en) = @OB _ ⟨fun q => if q.1.length ≤ lim then Q (.val (.ml q.1), q.2) else False⟩ (fl en) := by
  unfold fLst
  repeat' first | exact OB.map_ | exact OB.some_ | exact OB.none_ | exact rfl | refine OB.bind_.trans ?_ | refine OB.map_.trans ?_ | refine OB.c fun _ => ?_ | refine OB.ite_.trans (OB.ic ?_ ?_)
@[simp ↓] theorem k_noP : @OB _ ⟨QP⟩ (fNoP en) = QP (none, en) := OB.some_
@[simp ↓] theorem k_part : @OB _ ⟨QP⟩ (fPart f en) = @OB _ ⟨fun oa => @OB _ ⟨fun m => @OB _ ⟨fun i => QP (some i, oa.2)⟩ (intM m)⟩ (cont oa.2 oa.1)⟩ (f en) := by
  unfold fPart
  repeat' first | exact OB.map_ | exact OB.some_ | exact OB.none_ | exact rfl | refine OB.bind_.trans ?_ | refine OB.map_.trans ?_ | refine OB.c fun _ => ?_ | refine OB.ite_.trans (OB.ic ?_ ?_)
@[simp ↓] theorem k_sl {pl ph : FP} : @OB _ ⟨Q⟩ (fSl fa pl ph en) = @OB _ ⟨fun oa => @OB _ ⟨fun l => @OB _ ⟨fun h => @OB _ ⟨fun m => @OB _ ⟨fun r => Q (.val r, h.2)⟩ (gSl l.1 h.1 m)⟩ (cont h.2 oa.1)⟩ (ph l.2)⟩ (pl oa.2)⟩ (fa en) := by
  unfold fSl
  repeat' first | exact OB.map_ | exact OB.some_ | exact OB.none_ | exact rfl | refine OB.bind_.trans ?_ | refine OB.map_.trans ?_ | refine OB.c fun _ => ?_ | refine OB.ite_.trans (OB.ic ?_ ?_)
/-! statements -/
def seqK (t : FS) (QS : Fl × En → Prop) (p : Fl × En) : Prop := match p.1 with
  | .nx => @OB _ ⟨QS⟩ (t p.2)
  | fl => QS (fl, p.2)
@[simp] theorem seqK_nx : seqK t QS (.nx, en) = @OB _ ⟨QS⟩ (t en) := rfl
@[simp] theorem seqK_rt {m : M} : seqK t QS (.rt m, en) = QS (.rt m, en) := rfl
@[simp] theorem seqK_bk : seqK t QS (.bk, en) = QS (.bk, en) := rfl
@[simp] theorem seqK_ct : seqK t QS (.ct, en) = QS (.ct, en) := rfl
@[simp ↓] theorem k_seq : @OB _ ⟨QS⟩ (fSeq s t en) = @OB _ ⟨seqK t QS⟩ (s en) := by
  unfold fSeq
  rw [OB.bind_]
  congr 2
  funext p
  obtain ⟨fl, e⟩ := p
  cases fl with
  | nx => rfl
  | rt m => exact OB.some_
  | bk => exact OB.some_
  | ct => exact OB.some_
@[simp ↓] theorem k_skip : @OB _ ⟨QS⟩ (fSkip en) = QS (.nx, en) := OB.some_
@[simp ↓] theorem k_brk : @OB _ ⟨QS⟩ (fBrk en) = QS (.bk, en) := OB.some_
@[simp ↓] theorem k_cnt : @OB _ ⟨QS⟩ (fCnt en) = QS (.ct, en) := OB.some_
@[simp ↓] theorem k_never : @OB _ ⟨QS⟩ (fNever en) = False := OB.none_
@[simp ↓] theorem k_drop : @OB _ ⟨QS⟩ (fDrop f en) = @OB _ ⟨fun q => QS (.nx, q.2)⟩ (f en) := OB.map_
def retK (QS : Fl × En → Prop) (q : Opd × En) : Prop := match q.1 with
  | .val m => QS (.rt m, q.2)
  | .pl i => @OB _ ⟨fun m => QS (.rt m, q.2.set i none)⟩ (slotM q.2 i)
@[simp] theorem retK_v {m : M} : retK QS (.val m, en) = QS (.rt m, en) := rfl
@[simp] theorem retK_p : retK QS (.pl i, en) = @OB _ ⟨fun m => QS (.rt m, en.set i none)⟩ (slotM en i) := rfl
@[simp ↓] theorem k_ret : @OB _ ⟨QS⟩ (fRet f en) = @OB _ ⟨retK QS⟩ (f en) := by
  unfold fRet
  rw [OB.bind_]
  congr 2
  funext q
  obtain ⟨o, e⟩ := q
  cases o with
  | val m => exact OB.some_
  | pl i => exact OB.map_
@[simp ↓] theorem k_retN : @OB _ ⟨QS⟩ (fRetN en) = QS (.rt (.p .non), en) := OB.some_
@[simp ↓] theorem k_if : @OB _ ⟨QS⟩ (fIf ft s t en) = @OB _ ⟨fun p => if p.1 = true then @OB _ ⟨QS⟩ (s p.2) else @OB _ ⟨QS⟩ (t p.2)⟩ (ft en) := by
  unfold fIf
  repeat' first | exact OB.map_ | exact OB.some_ | exact OB.none_ | exact rfl | refine OB.bind_.trans ?_ | refine OB.map_.trans ?_ | refine OB.c fun _ => ?_ | refine OB.ite_.trans (OB.ic ?_ ?_)
@[simp ↓] theorem k_setO {m : M} : @OB _ ⟨QG⟩ (setO i (.val m) en) = QG (en.set i (some m)) := OB.some_
@[simp ↓] theorem k_setOp : @OB _ ⟨QG⟩ (setO i (.pl j) en) = @OB _ ⟨fun m => QG ((en.set j (some (.p (frz m)))).set i (some (.p (frz m))))⟩ (slotM en j) := by
  show @OB _ ⟨QG⟩ ((plV j en).map fun q => q.2.set i (some (.p q.1))) = _
  rw [OB.map_, k_plV]
@[simp ↓] theorem k_set : @OB _ ⟨QS⟩ (fSet i f en) = @OB _ ⟨fun q => @OB _ ⟨fun e => QS (.nx, e)⟩ (setO i q.1 q.2)⟩ (f en) := by
  unfold fSet
  repeat' first | exact OB.map_ | exact OB.some_ | exact OB.none_ | exact rfl | refine OB.bind_.trans ?_ | refine OB.map_.trans ?_ | refine OB.c fun _ => ?_ | refine OB.ite_.trans (OB.ic ?_ ?_)
@[simp ↓] theorem k_res {QR : M × En → Prop} {m : M} : @OB _ ⟨QR⟩ (resO (.val m) en) = QR (m, en) := OB.some_
@[simp ↓] theorem k_resp {QR : M × En → Prop} : @OB _ ⟨QR⟩ (resO (.pl j) en) = @OB _ ⟨fun m => QR (.p (frz m), en.set j (some (.p (frz m))))⟩ (slotM en j) := by
  show @OB _ ⟨QR⟩ ((plV j en).map fun q => (.p q.1, q.2)) = _
  rw [OB.map_, k_plV]
@[simp ↓] theorem k_par : @OB _ ⟨QS⟩ (fPar i j fa fb en) = @OB _ ⟨fun p => @OB _ ⟨fun q => @OB _ ⟨fun r => @OB _ ⟨fun s => QS (.nx, (s.2.set i (some r.1)).set j (some s.1))⟩ (resO q.1 r.2)⟩ (resO p.1 q.2)⟩ (fb p.2)⟩ (fa en) := by
  unfold fPar
  repeat' first | exact OB.map_ | exact OB.some_ | exact OB.none_ | exact rfl | refine OB.bind_.trans ?_ | refine OB.map_.trans ?_ | refine OB.c fun _ => ?_ | refine OB.ite_.trans (OB.ic ?_ ?_)
@[simp ↓] theorem k_asg {gg : FG} : @OB _ ⟨QS⟩ (fAsg fv gg en) = @OB _ ⟨fun q => @OB _ ⟨fun e => QS (.nx, e)⟩ (gg q.1 q.2)⟩ (fv en) := by
  unfold fAsg
  repeat' first | exact OB.map_ | exact OB.some_ | exact OB.none_ | exact rfl | refine OB.bind_.trans ?_ | refine OB.map_.trans ?_ | refine OB.c fun _ => ?_ | refine OB.ite_.trans (OB.ic ?_ ?_)
@[simp ↓] theorem k_slot {d : D} : @OB _ ⟨QG⟩ (gSlot i d en) = QG (en.set i (some (.p d))) := OB.some_
@[simp ↓] theorem k_tupl {gs : FGs} {ds : List D} : @OB _ ⟨QG⟩ (gTupl gs (.tup ds) en) = @OB _ ⟨QG⟩ (gs ds en) := rfl
@[simp ↓] theorem k_cons1 {gg : FG} {gs : FGs} {d : D} {ds : List D} : @OB _ ⟨QG⟩ (gCons1 gg gs (d :: ds) en) = @OB _ ⟨fun e => @OB _ ⟨QG⟩ (gs ds e)⟩ (gg d en) := OB.bind_
@[simp ↓] theorem k_end : @OB _ ⟨QG⟩ (gEnd [] en) = QG en := OB.some_
@[simp ↓] theorem k_putL {h : List D → Option (List D)} : @OB _ ⟨QG⟩ (putL k h en) = @OB _ ⟨fun m => match m with | .ml xs => @OB _ ⟨fun ys => QG (en.set k (some (.ml ys)))⟩ (h xs) | _ => False⟩ (slotM en k) := by
  unfold putL
  cases hs : slotM en k with
  | none => simp only [OB.none_]
  | some m => cases m with
    | ml xs => simp only [OB.map_, OB.some_]
    | p _ => simp only [OB.none_, OB.some_]
    | mi _ _ => simp only [OB.none_, OB.some_]
@[simp ↓] theorem k_isMl {QU : Unit → Prop} : @OB _ ⟨QU⟩ (isMl en k) = @OB _ ⟨fun m => match m with | .ml _ => QU () | _ => False⟩ (slotM en k) := by
  unfold isMl
  cases hs : slotM en k with
  | none => simp only [OB.none_]
  | some m => cases m with
    | ml xs => simp only [OB.some_]
    | p _ => simp only [OB.none_, OB.some_]
    | mi _ _ => simp only [OB.none_, OB.some_]
@[simp ↓] theorem k_app : @OB _ ⟨Q⟩ (fApp k fv en) = @OB _ ⟨fun _ => @OB _ ⟨fun q => @OB _ ⟨fun e => Q (.val (.p .non), e)⟩ (putL k (fun xs => if xs.length < lim then some (xs ++ [q.1]) else none) q.2)⟩ (fv en)⟩ (isMl en k) := by
  unfold fApp
  repeat' first | exact OB.map_ | exact OB.some_ | exact OB.none_ | exact rfl | refine OB.bind_.trans ?_ | refine OB.map_.trans ?_ | refine OB.c fun _ => ?_ | refine OB.ite_.trans (OB.ic ?_ ?_)
@[simp ↓] theorem k_setIx : @OB _ ⟨QS⟩ (fSetIx k fv f en) = @OB _ ⟨fun q => @OB _ ⟨fun _ => @OB _ ⟨fun r => @OB _ ⟨fun m => @OB _ ⟨fun i => @OB _ ⟨fun e => QS (.nx, e)⟩ (putL k (fun xs => (ixN xs.length i).map fun j => xs.set j q.1) r.2)⟩ (intM m)⟩ (cont r.2 r.1)⟩ (f q.2)⟩ (isMl q.2 k)⟩ (fv en) := by
  unfold fSetIx
  repeat' first | exact OB.map_ | exact OB.some_ | exact OB.none_ | exact rfl | refine OB.bind_.trans ?_ | refine OB.map_.trans ?_ | refine OB.c fun _ => ?_ | refine OB.ite_.trans (OB.ic ?_ ?_)
@[simp ↓] theorem k_seqI : @OB _ ⟨QL⟩ (fSeqI fv en) = @OB _ ⟨fun q => match q.1 with | .lst xs => QL (xs, q.2) | .tup xs => QL (xs, q.2) | _ => False⟩ (fv en) := by
  unfold fSeqI
  rw [OB.bind_]
  congr 2
  funext q
  obtain ⟨d, e⟩ := q
  cases d <;> first | exact OB.some_ | exact OB.none_
def enumK (QL : List D × En → Prop) (q : List D × En) : Prop := match q.1 with
  | [.lst xs] => QL (enumD xs, q.2)
  | [.tup xs] => QL (enumD xs, q.2)
  | _ => False
@[simp] theorem enumK_l {xs : List D} : enumK QL ([.lst xs], en) = QL (enumD xs, en) := rfl
@[simp] theorem enumK_t {xs : List D} : enumK QL ([.tup xs], en) = QL (enumD xs, en) := rfl
@[simp ↓] theorem k_enum : @OB _ ⟨QL⟩ (fEnum fl en) = @OB _ ⟨enumK QL⟩ (fl en) := by
  unfold fEnum
  rw [OB.bind_]
  congr 2
  funext q
  obtain ⟨ds, e⟩ := q
  unfold enumK
  split <;> simp_all only [OB.some_, OB.none_]
def zipK (QL : List D × En → Prop) (q : List D × En) : Prop := match q.1 with
  | [.lst xs, .lst ys] => QL (zipD xs ys, q.2)
  | [.tup xs, .tup ys] => QL (zipD xs ys, q.2)
  | _ => False
@[simp] theorem zipK_l {xs ys : List D} : zipK QL ([.lst xs, .lst ys], en) = QL (zipD xs ys, en) := rfl
@[simp] theorem zipK_t {xs ys : List D} : zipK QL ([.tup xs, .tup ys], en) = QL (zipD xs ys, en) := rfl
@[simp ↓] theorem k_zip : @OB _ ⟨QL⟩ (fZip fl en) = @OB _ ⟨zipK QL⟩ (fl en) := by
  unfold fZip
  rw [OB.bind_]
  congr 2
  funext q
  obtain ⟨ds, e⟩ := q
  unfold zipK
  split <;> simp_all only [OB.some_, OB.none_]
def rngK1 (QL : List D × En → Prop) (q : List D × En) : Prop := match q.1 with
  | [.int j] => if okR j = true then QL (rangeD 0 j, q.2) else False
  | _ => False
def rngK2 (QL : List D × En → Prop) (q : List D × En) : Prop := match q.1 with
  | [.int i, .int j] => if (okR i && okR j) = true then QL (rangeD i j, q.2) else False
  | _ => False
@[simp] theorem rngK1_ {j : Int} : rngK1 QL ([.int j], en) = if okR j = true then QL (rangeD 0 j, en) else False := rfl
@[simp] theorem rngK2_ {i j : Int} : rngK2 QL ([.int i, .int j], en) = if (okR i && okR j) = true then QL (rangeD i j, en) else False := rfl
@[simp ↓] theorem k_rng1 : @OB _ ⟨QL⟩ (fRng1 fl en) = @OB _ ⟨rngK1 QL⟩ (fl en) := by
  unfold fRng1
  rw [OB.bind_]
  congr 2
  funext q
  obtain ⟨ds, e⟩ := q
  unfold rngK1
  split <;> simp_all only [OB.some_, OB.none_, OB.ite_]
@[simp ↓] theorem k_rng2 : @OB _ ⟨QL⟩ (fRng2 fl en) = @OB _ ⟨rngK2 QL⟩ (fl en) := by
  unfold fRng2
  rw [OB.bind_]
  congr 2
  funext q
  obtain ⟨ds, e⟩ := q
  unfold rngK2
  split <;> simp_all only [OB.some_, OB.none_, OB.ite_]
@[simp ↓] theorem k_for {fi : FI} {gg : FG} : @OB _ ⟨QS⟩ (fFor fi gg s en) = @OB _ ⟨fun q => @OB _ ⟨QS⟩ (forL gg s q.1 q.2)⟩ (fi en) := OB.bind_
@[simp ↓] theorem k_while {n : Nat} : @OB _ ⟨QS⟩ (fWhile n ft s en) = @OB _ ⟨QS⟩ (whL ft s n en) := rfl
@[simp ↓] theorem k_lc {ws : List Nat} {fi : FI} {gg : FG} : @OB _ ⟨Q⟩ (fLc ws fi gg ft fv en) = @OB _ ⟨fun q => @OB _ ⟨fun r => Q (.val (.ml r.1), restE q.2 ws r.2)⟩ (lcL ws gg ft fv q.1 (wipeE q.2 ws) [])⟩ (fi en) := by
  unfold fLc
  repeat' first | exact OB.map_ | exact OB.some_ | exact OB.none_ | exact rfl | refine OB.bind_.trans ?_ | refine OB.map_.trans ?_ | refine OB.c fun _ => ?_ | refine OB.ite_.trans (OB.ic ?_ ?_)
@[simp ↓] theorem k_yes : @OB _ ⟨QT⟩ (fYes en) = QT (true, en) := OB.some_
/-! calls -/
@[simp ↓] theorem k_nilO : @OB _ ⟨QO⟩ (fNilO en) = QO ([], en) := OB.some_
@[simp ↓] theorem k_consO : @OB _ ⟨QO⟩ (fConsO f fo en) = @OB _ ⟨fun p => @OB _ ⟨fun q => QO (p.1 :: q.1, q.2)⟩ (fo p.2)⟩ (f en) := by
  unfold fConsO
  repeat' first | exact OB.map_ | exact OB.some_ | exact OB.none_ | exact rfl | refine OB.bind_.trans ?_ | refine OB.map_.trans ?_ | refine OB.c fun _ => ?_ | refine OB.ite_.trans (OB.ic ?_ ?_)
@[simp] theorem ct_nil : conts en [] = some [] := rfl
@[simp ↓] theorem k_ctn {QC : List M → Prop} : @OB _ ⟨QC⟩ (conts en []) = QC [] := OB.some_
@[simp ↓] theorem k_ctc {QC : List M → Prop} {o : Opd} {os : List Opd} : @OB _ ⟨QC⟩ (conts en (o :: os)) = @OB _ ⟨fun m => @OB _ ⟨fun r => QC (m :: r)⟩ (conts en os)⟩ (cont en o) := by
  show @OB _ ⟨QC⟩ ((cont en o).bind fun m => (conts en os).map (m :: ·)) = _
  repeat' first | exact OB.map_ | exact OB.some_ | exact OB.none_ | exact rfl | refine OB.bind_.trans ?_ | refine OB.map_.trans ?_ | refine OB.c fun _ => ?_ | refine OB.ite_.trans (OB.ic ?_ ?_)
@[simp ↓] theorem k_callX {G : FD} {os : List Opd} {QX : M × En × En → Prop} : @OB _ ⟨QX⟩ (callX G os en) = @OB _ ⟨fun ds => if okOs en os = true then @OB _ ⟨fun r => QX (r.1, r.2, give os r.2 (lend os en))⟩ (G ds) else False⟩ (conts en os) := by
  unfold callX
  repeat' first | exact OB.map_ | exact OB.some_ | exact OB.none_ | exact rfl | refine OB.bind_.trans ?_ | refine OB.map_.trans ?_ | refine OB.c fun _ => ?_ | refine OB.ite_.trans (OB.ic ?_ ?_)
@[simp ↓] theorem k_call {G : FD} : @OB _ ⟨Q⟩ (fCall G fo en) = @OB _ ⟨fun q => @OB _ ⟨fun ds => if okOs q.2 q.1 = true then @OB _ ⟨fun r => Q (.val r.1, give q.1 r.2 (lend q.1 q.2))⟩ (G ds) else False⟩ (conts q.2 q.1)⟩ (fo en) := by
  unfold fCall
  repeat' first | exact OB.map_ | exact OB.some_ | exact OB.none_ | exact rfl | refine OB.bind_.trans ?_ | refine OB.map_.trans ?_ | refine OB.c fun _ => ?_ | refine OB.ite_.trans (OB.ic ?_ ?_)
@[simp ↓] theorem k_make {C : Addr} {G : FD} : @OB _ ⟨Q⟩ (fMake C G fo en) = @OB _ ⟨fun q => @OB _ ⟨fun r => if noneM r.1 = true then @OB _ ⟨fun m => Q (.val m, r.2.2)⟩ (r.2.1.head?).join else False⟩ (callX G (.val (.mi C []) :: q.1) q.2)⟩ (fo en) := by
  unfold fMake
  refine OB.bind_.trans (OB.c fun q => OB.bind_.trans (OB.c fun r => OB.ite_.trans (OB.ic OB.map_ OB.none_)))
@[simp ↓] theorem k_frz : @OB _ ⟨Q⟩ (fFrz f en) = @OB _ ⟨fun oa => @OB _ ⟨fun q => Q (.val (.p q.1), q.2)⟩ (toV oa.1 oa.2)⟩ (f en) := by
  unfold fFrz fV
  repeat' first | exact OB.map_ | exact OB.some_ | exact OB.none_ | exact rfl | refine OB.bind_.trans ?_ | refine OB.map_.trans ?_ | refine OB.c fun _ => ?_ | refine OB.ite_.trans (OB.ic ?_ ?_)
def runK (bs : List Nat) (ds : List M) (QR : M × En → Prop) (p : Fl × En) : Prop := match p.1 with
  | .rt m => QR (m, back bs p.2 0 ds)
  | .nx => QR (.p .non, back bs p.2 0 ds)
  | _ => False
@[simp] theorem runK_rt {bs : List Nat} {ds : List M} {QR : M × En → Prop} {m : M} : runK bs ds QR (.rt m, en) = QR (m, back bs en 0 ds) := rfl
@[simp] theorem runK_nx {bs : List Nat} {ds : List M} {QR : M × En → Prop} : runK bs ds QR (.nx, en) = QR (.p .non, back bs en 0 ds) := rfl
@[simp ↓] theorem k_run {n : Nat} {bs : List Nat} {ds : List M} {QR : M × En → Prop} : @OB _ ⟨QR⟩ (runF s n bs ds) = @OB _ ⟨runK bs ds QR⟩ (s (ds.map some ++ List.replicate (n - ds.length) none)) := by
  unfold runF
  rw [OB.bind_]
  congr 2
  funext p
  obtain ⟨fl, e⟩ := p
  cases fl with
  | nx => exact OB.some_
  | rt m => exact OB.some_
  | bk => exact OB.none_
  | ct => exact OB.none_
@[simp ↓] theorem k_putS {C : Addr} {F : Str} {m : M} : @OB _ ⟨QG⟩ (putS i C F m en) = @OB _ ⟨fun x => match x with | .mi C' fs => if C' = C ∧ fs.length < 900 then QG (en.set i (some (.mi C (putM F m fs)))) else False | _ => False⟩ (slotM en i) := by
  unfold putS
  cases hs : slotM en i with
  | none => simp only [OB.none_]
  | some m => cases m with
    | mi C' fs => simp only [OB.ite_, OB.some_, OB.none_]
    | p _ => simp only [OB.none_, OB.some_]
    | ml _ => simp only [OB.none_, OB.some_]
@[simp ↓] theorem k_setF {C : Addr} {F : Str} : @OB _ ⟨QS⟩ (fSetF i C F f en) = @OB _ ⟨fun q => @OB _ ⟨fun r => @OB _ ⟨fun e => QS (.nx, e)⟩ (putS i C F r.1 r.2)⟩ (resO q.1 q.2)⟩ (f en) := by
  unfold fSetF
  repeat' first | exact OB.map_ | exact OB.some_ | exact OB.none_ | exact rfl | refine OB.bind_.trans ?_ | refine OB.map_.trans ?_ | refine OB.c fun _ => ?_ | refine OB.ite_.trans (OB.ic ?_ ?_)
end
end Dn

namespace Dn
open PySem PySem.Spec PyProof.Rows L2

/-! ### what is small enough to be shown -/
mutual
def smD : Nat → D → Bool
  | _, .non => true
  | _, .bl _ => true
  | _, .int i => decide (i.natAbs.log2 < 1920)
  | 0, .lst _ => false
  | n + 1, .lst xs => smDs n xs
  | 0, .tup _ => false
  | n + 1, .tup xs => smDs n xs
  | _, _ => false
def smDs : Nat → List D → Bool
  | _, [] => true
  | n, x :: r => smD n x && smDs n r
end
mutual
def szD : D → Nat
  | .lst xs => szDs xs + 1
  | .tup xs => szDs xs + 1
  | _ => 1
def szDs : List D → Nat
  | [] => 0
  | x :: r => szD x + szDs r
end
theorem joinLen (ts : List Str) : (Str.join ", " ts).length ≤ piled ts := by
  cases ts with
  | nil => decide
  | cons a r => have := join_length_add (a :: r) (by simp); omega
theorem tupleLen (ts : List Str) : (tupleText ts).length ≤ piled ts + 3 := by
  unfold tupleText
  rw [strLen_append, strLen_append]
  have e1 : ((("(" : String) : Str)).length = 1 := rfl
  have e3 : (((if ts.length == 1 then ",)" else ")" : String) : Str)).length ≤ 2 := by split <;> decide
  have := joinLen ts
  omega
theorem textFromLe : ∀ (ts : List Str) (k : Nat) (acc : Str), (textFrom k acc ts).length ≤ acc.length + piled ts
  | [], k, acc => Nat.le_add_right _ _
  | t :: r, k, acc => by
    have h := textFromLe r (k + 1) (acc ++ (if k > 0 then ", " else "" : String) ++ t)
    have e : (acc ++ (if k > 0 then ", " else "" : String) ++ t).length = acc.length + (if k > 0 then 2 else 0) + t.length := by
      rw [strLen_append, strLen_append]
      split <;> rfl
    rw [e] at h
    show (textFrom (k + 1) _ r).length ≤ _
    rw [piled_cons]
    have : (if k > 0 then 2 else 0 : Nat) ≤ 2 := by split <;> omega
    omega
theorem listLen (ts : List Str) : (listText ts).length ≤ piled ts + 3 := by
  unfold listText
  rw [strLen_append]
  have h := textFromLe ts 0 ("[" : String)
  have e1 : ((("[" : String) : Str)).length = 1 := rfl
  have e2 : ((("]" : String) : Str)).length = 1 := rfl
  omega
mutual
theorem sm_ok : ∀ (n : Nat) (d : D), smD n d = true → okD d = true ∧ (pyD d).showable = true ∧ (pyD d).hasDict = false ∧ (pyD d).depth ≤ n ∧ (pyD d).shown.length + 2 ≤ 2000 * szD d
  | _, .non, _ => ⟨rfl, rfl, rfl, Nat.zero_le _, by decide⟩
  | _, .bl b, _ => ⟨rfl, rfl, rfl, Nat.zero_le _, by cases b <;> decide⟩
  | n, .int i, h => by
    have h' : i.natAbs.log2 < 1920 := by cases n <;> exact of_decide_eq_true h
    refine ⟨rfl, decide_eq_true h', rfl, Nat.zero_le _, ?_⟩
    have e := int_text_len_1921 h'
    show (Str.ofString (toString i)).length + 2 ≤ 2000 * 1
    omega
  | n + 1, .lst xs, h => by
    obtain ⟨h1, h2, h3, h4, h5⟩ := sms_ok n xs h
    refine ⟨h1, h2, h3, Nat.succ_le_succ h4, ?_⟩
    show (listText (PyData.shownAll (pyDs xs))).length + 2 ≤ 2000 * (szDs xs + 1)
    have := listLen (PyData.shownAll (pyDs xs))
    omega
  | n + 1, .tup xs, h => by
    obtain ⟨h1, h2, h3, h4, h5⟩ := sms_ok n xs h
    refine ⟨h1, h2, h3, Nat.succ_le_succ h4, ?_⟩
    show (tupleText (PyData.shownAll (pyDs xs))).length + 2 ≤ 2000 * (szDs xs + 1)
    have := tupleLen (PyData.shownAll (pyDs xs))
    omega
theorem sms_ok : ∀ (n : Nat) (ds : List D), smDs n ds = true → okDs ds = true ∧ PyData.showableAll (pyDs ds) = true ∧ PyData.hasDictAll (pyDs ds) = false ∧ PyData.depthAll (pyDs ds) ≤ n ∧ piled (PyData.shownAll (pyDs ds)) ≤ 2000 * szDs ds
  | n, [], _ => ⟨rfl, rfl, rfl, Nat.zero_le _, Nat.le_refl _⟩
  | n, d :: r, h => by
    have hh : (smD n d && smDs n r) = true := by cases n <;> exact h
    have h0 := Bool.and_eq_true_iff.mp hh
    obtain ⟨a1, a2, a3, a4, a5⟩ := sm_ok n d h0.1
    obtain ⟨b1, b2, b3, b4, b5⟩ := sms_ok n r h0.2
    refine ⟨Bool.and_eq_true_iff.mpr ⟨a1, b1⟩, Bool.and_eq_true_iff.mpr ⟨a2, b2⟩, Bool.or_eq_false_iff.mpr ⟨a3, b3⟩, Nat.max_le.mpr ⟨a4, b4⟩, ?_⟩
    show piled (PyData.shown (pyD d) :: PyData.shownAll (pyDs r)) ≤ 2000 * (szD d + szDs r)
    rw [piled_cons]
    omega
end
theorem repr_tup {xs : List D} (h : smDs 50 xs = true) (z : szDs xs ≤ 8000) : gRepr (.p (.tup xs)) = some (.p (.str (pyD (.tup xs)).shown)) := by
  obtain ⟨h1, h2, h3, h4, h5⟩ := sm_ok 51 (.tup xs) h
  have e : dataM (.p (.tup xs)) = some (.tup xs) := if_pos h1
  unfold gRepr
  rw [e]
  have hz : szD (.tup xs) = szDs xs + 1 := rfl
  have hl : sizeLine = 16777216 := by decide
  exact if_pos (by
    unfold okRep
    rw [h2, h3, decide_eq_true (by omega : (pyD (.tup xs)).depth ≤ 60), decide_eq_true (by omega : (pyD (.tup xs)).shown.length ≤ sizeLine)]
    rfl)
theorem repr_lst {xs : List D} (h : smDs 50 xs = true) (z : szDs xs ≤ 8000) : gRepr (.p (.lst xs)) = some (.p (.str (pyD (.lst xs)).shown)) := by
  obtain ⟨h1, h2, h3, h4, h5⟩ := sm_ok 51 (.lst xs) h
  have e : dataM (.p (.lst xs)) = some (.lst xs) := if_pos h1
  unfold gRepr
  rw [e]
  have hz : szD (.lst xs) = szDs xs + 1 := rfl
  have hl : sizeLine = 16777216 := by decide
  exact if_pos (by
    unfold okRep
    rw [h2, h3, decide_eq_true (by omega : (pyD (.lst xs)).depth ≤ 60), decide_eq_true (by omega : (pyD (.lst xs)).shown.length ≤ sizeLine)]
    rfl)
theorem repr_ml {xs : List D} (h : smDs 50 xs = true) (z : szDs xs ≤ 8000) : gRepr (.ml xs) = some (.p (.str (pyD (.lst xs)).shown)) := by
  obtain ⟨h1, h2, h3, h4, h5⟩ := sm_ok 51 (.lst xs) h
  have e : dataM (.ml xs) = some (.lst xs) := if_pos h1
  unfold gRepr
  rw [e]
  have hz : szD (.lst xs) = szDs xs + 1 := rfl
  have hl : sizeLine = 16777216 := by decide
  exact if_pos (by
    unfold okRep
    rw [h2, h3, decide_eq_true (by omega : (pyD (.lst xs)).depth ≤ 60), decide_eq_true (by omega : (pyD (.lst xs)).shown.length ≤ sizeLine)]
    rfl)
theorem smDs_iff {n : Nat} : ∀ {xs : List D}, (∀ d ∈ xs, smD n d = true) → smDs n xs = true
  | [], _ => by cases n <;> rfl
  | d :: r, h => by
    have e : smDs n (d :: r) = (smD n d && smDs n r) := by cases n <;> rfl
    rw [e, h d (by simp), smDs_iff fun x hx => h x (by simp [hx])]; rfl
theorem szDs_le {c : Nat} : ∀ {xs : List D}, (∀ d ∈ xs, szD d ≤ c) → szDs xs ≤ c * xs.length
  | [], _ => Nat.le_refl _
  | d :: r, h => by
    have h1 := h d (by simp)
    have h2 := szDs_le (xs := r) fun x hx => h x (by simp [hx])
    show szD d + szDs r ≤ c * (r.length + 1)
    rw [Nat.mul_add]; omega
theorem sm_int {n : Nat} {i : Int} (h : i.natAbs < 2 ^ 1900) : smD n (.int i) = true := by
  have h' : i.natAbs.log2 < 1920 := by
    by_cases z : i.natAbs = 0
    · rw [z]; decide
    · exact (Nat.log2_lt z).mpr (Nat.lt_of_lt_of_le h (Nat.pow_le_pow_right (by decide) (by decide)))
  cases n <;> exact decide_eq_true h'

/-! ### words -/
@[simp] theorem limE : lim = 1000000 := rfl
section
variable {i j : Int} {b b' : Bool} {x y : Str} {xs ys : List D} {C : Addr} {fs : List (Str × D)} {gs : List (Str × M)} {neg : Bool} {d : D}
@[simp] theorem g_pI : pI i = .p (.int i) := rfl
@[simp] theorem g_pB : pB b = .p (.bl b) := rfl
@[simp] theorem g_add : gAdd (.p (.int i)) (.p (.int j)) = some (.p (.int (i + j))) := rfl
@[simp] theorem g_minus : gMinus (.p (.int i)) (.p (.int j)) = some (.p (.int (i - j))) := rfl
@[simp] theorem g_neg : gNeg (.p (.int i)) = some (.p (.int (-i))) := rfl
@[simp] theorem g_abs : gAbs (.p (.int i)) = some (.p (.int (if i < 0 then -i else i))) := rfl
@[simp] theorem g_int : gInt (.p (.int i)) = some (.p (.int i)) := rfl
@[simp] theorem g_intb : gInt (.p (.bl b)) = some (.p (.int (if b then 1 else 0))) := rfl
@[simp] theorem g_lt : gLt (.p (.int i)) (.p (.int j)) = some (.p (.bl (decide (i < j)))) := rfl
@[simp] theorem g_gt : gGt (.p (.int i)) (.p (.int j)) = some (.p (.bl (decide (j < i)))) := rfl
@[simp] theorem g_le : gLe (.p (.int i)) (.p (.int j)) = some (.p (.bl (decide (i ≤ j)))) := rfl
@[simp] theorem g_ge : gGe (.p (.int i)) (.p (.int j)) = some (.p (.bl (decide (j ≤ i)))) := rfl
@[simp] theorem g_eqI : gEq (.p (.int i)) (.p (.int j)) = some (.p (.bl (decide (i = j)))) := rfl
@[simp] theorem g_eqS : gEq (.p (.str x)) (.p (.str y)) = some (.p (.bl (decide (x = y)))) := rfl
@[simp] theorem g_neI : gNe (.p (.int i)) (.p (.int j)) = some (.p (.bl (!decide (i = j)))) := rfl
@[simp] theorem g_neS : gNe (.p (.str x)) (.p (.str y)) = some (.p (.bl (!decide (x = y)))) := rfl
@[simp] theorem g_nonN : gNon2 neg (.p .non) (.p .non) = some (.p (.bl (!neg))) := rfl
@[simp] theorem g_nonI : gNon2 neg (.p (.int i)) (.p .non) = some (.p (.bl neg)) := rfl
@[simp] theorem g_nonB : gNon2 neg (.p (.bl b)) (.p .non) = some (.p (.bl neg)) := rfl
@[simp] theorem g_nonL : gNon2 neg (.p (.lst xs)) (.p .non) = some (.p (.bl neg)) := rfl
@[simp] theorem g_nonT : gNon2 neg (.p (.tup xs)) (.p .non) = some (.p (.bl neg)) := rfl
@[simp] theorem g_nonMl : gNon2 neg (.ml xs) (.p .non) = some (.p (.bl neg)) := rfl
@[simp] theorem g_nonS : gNon2 neg (.p (.str x)) (.p .non) = some (.p (.bl neg)) := rfl
@[simp] theorem g_nonO : gNon2 neg (.p (.ins C fs)) (.p .non) = some (.p (.bl neg)) := rfl
@[simp] theorem g_ixT : gIx (.p (.tup xs)) (.p (.int i)) = (atI xs i).map .p := rfl
@[simp] theorem g_ixL : gIx (.p (.lst xs)) (.p (.int i)) = (atI xs i).map .p := rfl
@[simp] theorem g_ixM : gIx (.ml xs) (.p (.int i)) = (atI xs i).map .p := rfl
@[simp] theorem g_lenT : gLen (.p (.tup xs)) = some (.p (.int xs.length)) := rfl
@[simp] theorem g_lenL : gLen (.p (.lst xs)) = some (.p (.int xs.length)) := rfl
@[simp] theorem g_lenM : gLen (.ml xs) = some (.p (.int xs.length)) := rfl
@[simp] theorem g_listT : gList (.p (.tup xs)) = some (.ml xs) := rfl
@[simp] theorem g_listL : gList (.p (.lst xs)) = some (.ml xs) := rfl
@[simp] theorem g_listM : gList (.ml xs) = some (.ml xs) := rfl
@[simp] theorem g_tupleT : gTuple (.p (.tup xs)) = some (.p (.tup xs)) := rfl
@[simp] theorem g_tupleL : gTuple (.p (.lst xs)) = some (.p (.tup xs)) := rfl
@[simp] theorem g_tupleM : gTuple (.ml xs) = some (.p (.tup xs)) := rfl
@[simp] theorem g_max2 : gMax2 (.p (.int i)) (.p (.int j)) = some (.p (.int (if j > i then j else i))) := rfl
@[simp] theorem g_min2 : gMin2 (.p (.int i)) (.p (.int j)) = some (.p (.int (if j < i then j else i))) := rfl
@[simp] theorem g_isInt {f : String → Bool} : gIs f (.p (.int i)) = some (.p (.bl (f "int"))) := rfl
@[simp] theorem g_isBl {f : String → Bool} : gIs f (.p (.bl b)) = some (.p (.bl (f "bool"))) := rfl
@[simp] theorem g_isT {f : String → Bool} : gIs f (.p (.tup xs)) = some (.p (.bl (f "tuple"))) := rfl
@[simp] theorem g_isL {f : String → Bool} : gIs f (.p (.lst xs)) = some (.p (.bl (f "list"))) := rfl
@[simp] theorem g_isM {f : String → Bool} : gIs f (.ml xs) = some (.p (.bl (f "list"))) := rfl
@[simp] theorem g_isN {f : String → Bool} : gIs f (.p .non) = some (.p (.bl (f "NoneType"))) := rfl
@[simp] theorem g_isS {f : String → Bool} : gIs f (.p (.str x)) = some (.p (.bl (f "str"))) := rfl
@[simp] theorem t_ii : isInt "int" = true := by decide
@[simp] theorem t_bi : isBool "int" = false := by decide
@[simp] theorem t_ti : isTuple "int" = false := by decide
@[simp] theorem t_tt : isTuple "tuple" = true := by decide
@[simp] theorem g_isC : gIsC C (.p (.ins C fs)) = some (.p (.bl true)) := if_pos rfl
@[simp] theorem g_isCm : gIsC C (.mi C gs) = some (.p (.bl true)) := if_pos rfl
@[simp] theorem g_attr {f : Str} : gAttr C f (.p (.ins C fs)) = (fs.lookup f).map .p := if_pos rfl
@[simp] theorem g_attrM {f : Str} : gAttr C f (.mi C gs) = (gs.lookup f).bind fun m => (pD m).map .p := if_pos rfl
@[simp] theorem g_slT {l h : Option Int} : gSl l h (.p (.tup xs)) = some (.p (.tup (cutA xs l h))) := rfl
@[simp] theorem g_slL {l h : Option Int} : gSl l h (.p (.lst xs)) = some (.ml (cutA xs l h)) := rfl
@[simp] theorem g_slM {l h : Option Int} : gSl l h (.ml xs) = some (.ml (cutA xs l h)) := rfl
theorem g_mul (h : sm i = true) (h' : sm j = true) : gMul (.p (.int i)) (.p (.int j)) = some (.p (.int (i * j))) := by
  show orG gMulI (orG gRepL gRepT) (.p (.int i)) (.p (.int j)) = _
  have e : gMulI (.p (.int i)) (.p (.int j)) = some (.p (.int (i * j))) := if_pos (by rw [h, h']; rfl)
  unfold orG
  rw [e]
theorem g_fdiv (h : 0 < j) (h' : sm j = true) : gFdiv (.p (.int i)) (.p (.int j)) = some (.p (.int (i / j))) := if_pos (by rw [decide_eq_true h, h']; rfl)
theorem g_mod (h : 0 < j) : gMod (.p (.int i)) (.p (.int j)) = some (.p (.int (i % j))) := if_pos (by rw [decide_eq_true h])
theorem g_catT (h : xs.length + ys.length ≤ lim) : gAdd (.p (.tup xs)) (.p (.tup ys)) = some (.p (.tup (xs ++ ys))) := by
  show orG gAddI (orG gCatT _) _ _ = _
  have e : gAddI (.p (.tup xs)) (.p (.tup ys)) = none := rfl
  have e' : gCatT (.p (.tup xs)) (.p (.tup ys)) = some (.p (.tup (xs ++ ys))) := if_pos h
  simp only [orG, e, e']
theorem g_catL {a b : M} (ha : lstM a = some xs) (hb : lstM b = some ys) (h : xs.length + ys.length ≤ lim) : gAdd a b = some (.ml (xs ++ ys)) := by
  have e : gCatL a b = some (.ml (xs ++ ys)) := by
    unfold gCatL
    rw [ha, hb]
    exact if_pos h
  have na : intM a = none ∧ tupM a = none := by
    cases a with
    | p d => cases d <;> first | exact ⟨rfl, rfl⟩ | cases ha
    | ml _ => exact ⟨rfl, rfl⟩
    | mi _ _ => cases ha
  have e1 : gAddI a b = none := by show (intM a).bind _ = none; rw [na.1]; rfl
  have e2 : gCatT a b = none := by show (tupM a).bind _ = none; rw [na.2]; rfl
  show orG gAddI (orG gCatT (orG gCatL gCatS)) a b = _
  simp only [orG, e1, e2, e]
@[simp] theorem bl_p : blM (.p (.bl b)) = some b := rfl
@[simp] theorem int_p : intM (.p (.int i)) = some i := rfl
@[simp] theorem frz_p : frz (.p d) = d := by rw [frz]
@[simp] theorem frz_ml : frz (.ml xs) = .lst xs := by rw [frz]
@[simp] theorem frz_mi : frz (.mi C gs) = .ins C (frzF gs) := by rw [frz]
@[simp] theorem frzF_nil : frzF [] = [] := by rw [frzF]
@[simp] theorem frzF_cons {k : Str} {m : M} : frzF ((k, m) :: gs) = (k, frz m) :: frzF gs := by rw [frzF]
@[simp] theorem isP_p : isP (some (.p d)) = true := rfl
@[simp] theorem isP_ml : isP (some (.ml xs)) = false := rfl
@[simp] theorem isP_mi : isP (some (.mi C gs)) = false := rfl
@[simp] theorem noneM_n : noneM (.p .non) = true := rfl
@[simp] theorem pD_p : pD (.p d) = some d := rfl
end
@[simp] theorem ok_nil {en : En} : okOs en [] = true := rfl
@[simp] theorem ok_val {en : En} {m : M} {r : List Opd} : okOs en (.val m :: r) = okOs en r := rfl
@[simp] theorem ok_pl {en : En} {i : Nat} {r : List Opd} : okOs en (.pl i :: r) = ((isP (slotM en i) || !(r.any fun o => match o with | .pl j => j == i | .val _ => false)) && okOs en r) := rfl
@[simp] theorem lend_nil {en : En} : lend [] en = en := rfl
@[simp] theorem lend_val {en : En} {m : M} {r : List Opd} : lend (.val m :: r) en = lend r en := rfl
@[simp] theorem lend_pl {en : En} {i : Nat} {r : List Opd} : lend (.pl i :: r) en = lend r (if isP (slotM en i) then en else en.set i none) := rfl
@[simp] theorem give_nil {en e2 : En} : give [] e2 en = en := by cases e2 <;> rfl
@[simp] theorem give_val {en e2 : En} {m : M} {o : Option M} {r : List Opd} : give (.val m :: r) (o :: e2) en = give r e2 en := rfl
@[simp] theorem give_pl {en e2 : En} {i : Nat} {o : Option M} {r : List Opd} : give (.pl i :: r) (o :: e2) en = give r e2 (match slotM en i with
    | none => en.set i o
    | some _ => en) := rfl
@[simp] theorem back_nil {bs : List Nat} {en : En} {i : Nat} : back bs en i [] = [] := rfl
@[simp] theorem back_p {bs : List Nat} {en : En} {i : Nat} {d : D} {r : List M} : back bs en i (.p d :: r) = some (.p d) :: back bs en (i + 1) r := rfl
@[simp] theorem back_ml {bs : List Nat} {en : En} {i : Nat} {d : List D} {r : List M} : back bs en i (.ml d :: r) = (if i ∈ bs then slotM en i else none) :: back bs en (i + 1) r := rfl
@[simp] theorem back_mi {bs : List Nat} {en : En} {i : Nat} {C : Addr} {fs : List (Str × M)} {r : List M} : back bs en i (.mi C fs :: r) = (if i ∈ bs then slotM en i else none) :: back bs en (i + 1) r := rfl
@[simp] theorem wipe_nil {en : En} : wipeE en [] = en := rfl
@[simp] theorem wipe_cons {en : En} {i : Nat} {r : List Nat} : wipeE en (i :: r) = (wipeE en r).set i none := rfl
@[simp] theorem rest_nil {e0 en : En} : restE e0 [] en = en := rfl
@[simp] theorem rest_cons {e0 en : En} {i : Nat} {r : List Nat} : restE e0 (i :: r) en = (restE e0 r en).set i (match slotM e0 i with
    | some (.p d) => some (.p d)
    | _ => none) := rfl
@[simp] theorem slotM_nil {i : Nat} : slotM [] i = none := rfl
/-! ### places -/
section
variable {α : Type} {x y z u w : α} {r xs : List α}
@[simp] theorem at0 : atI (x :: r) 0 = some x := atI_nat (j := 0) rfl
@[simp] theorem at1 : atI (x :: y :: r) 1 = some y := atI_nat (j := 1) rfl
@[simp] theorem at2 : atI (x :: y :: z :: r) 2 = some z := atI_nat (j := 2) rfl
@[simp] theorem at3 : atI (x :: y :: z :: u :: r) 3 = some u := atI_nat (j := 3) rfl
@[simp] theorem at4 : atI (x :: y :: z :: u :: w :: r) 4 = some w := atI_nat (j := 4) rfl
theorem at_i {i : Int} (h : 0 ≤ i) (h' : i < xs.length) : atI xs i = some (xs[i.toNat]'(by omega)) := by
  have := atI_nat (xs := xs) (j := i.toNat) (List.getElem?_eq_getElem (by omega))
  rwa [Int.toNat_of_nonneg h] at this
theorem ixN_i {n : Nat} {i : Int} (h : 0 ≤ i) (h' : i < n) : ixN n i = some i.toNat := by
  unfold ixN
  rw [if_pos h, if_pos h']
@[simp] theorem cut2 : cutA (x :: y :: r) none (some 2) = [x, y] := by
  unfold cutA
  rw [show HT.sIx (x :: y :: r).length (x :: y :: r).length (some 2) = 2 from by
    show HT.sIx _ _ (some ((2 : Nat) : Int)) = 2
    rw [HT.sIx_nat]; simp]
  rfl
theorem cutAll {n : Nat} (h : xs.length ≤ n) : cutA xs none (some (n : Int)) = xs := by
  unfold cutA
  rw [HT.sIx_nat, HT.sIx_none, Nat.min_eq_right h]
  simp
end
/-! ### loops -/
section
variable {QS : Fl × En → Prop} {en : En}
def stepK (I : En → Prop) (QS : Fl × En → Prop) (p : Fl × En) : Prop := match p.1 with
  | .nx => I p.2
  | .ct => I p.2
  | .bk => QS (.nx, p.2)
  | .rt m => QS (.rt m, p.2)
@[simp] theorem stepK_nx {I : En → Prop} : stepK I QS (.nx, en) = I en := rfl
@[simp] theorem stepK_ct {I : En → Prop} : stepK I QS (.ct, en) = I en := rfl
@[simp] theorem stepK_bk {I : En → Prop} : stepK I QS (.bk, en) = QS (.nx, en) := rfl
@[simp] theorem stepK_rt {I : En → Prop} {m : M} : stepK I QS (.rt m, en) = QS (.rt m, en) := rfl
theorem forI {α : Type} (inj : α → D) (Inv : List α → En → Prop) {fg : FG} {fb : FS} (as : List α) : ∀ {en : En}, Inv as en →
    (step : ∀ a r en, Inv (a :: r) en → @OB _ ⟨fun e1 => @OB _ ⟨stepK (Inv r) QS⟩ (fb e1)⟩ (fg (inj a) en)) → (fin : ∀ en, Inv [] en → QS (.nx, en)) → @OB _ ⟨QS⟩ (forL fg fb (as.map inj) en) := by
  induction as with
  | nil => exact fun h0 step fin => ⟨_, rfl, fin _ h0⟩
  | cons a r ih =>
    intro en h0 step fin
    show @OB _ ⟨QS⟩ ((fg (inj a) en).bind fun e1 => (fb e1).bind fun q => _)
    rw [OB.bind_]
    refine (step a r en h0).mono fun e1 h1 => ?_
    rw [OB.bind_]
    refine OB.mono h1 fun q h2 => ?_
    obtain ⟨fl, e2⟩ := q
    cases fl with
    | nx => exact ih h2 step fin
    | ct => exact ih h2 step fin
    | bk => exact ⟨_, rfl, h2⟩
    | rt m => exact ⟨_, rfl, h2⟩
theorem lcI {α : Type} (inj : α → D) (Inv : List α → En → List D → Prop) {ws : List Nat} {fg : FG} {ft : FT} {fv : FV} {QL : List D × En → Prop} (as : List α) : ∀ {en : En} {acc : List D}, Inv as en acc →
    (step : ∀ a r en acc, Inv (a :: r) en acc → @OB _ ⟨fun e1 => @OB _ ⟨fun p => if p.1 = true then @OB _ ⟨fun q => acc.length < lim ∧ Inv r (wipeE q.2 ws) (acc ++ [q.1])⟩ (fv p.2) else Inv r (wipeE p.2 ws) acc⟩ (ft e1)⟩ (fg (inj a) en)) →
    (fin : ∀ en acc, Inv [] en acc → QL (acc, en)) → @OB _ ⟨QL⟩ (lcL ws fg ft fv (as.map inj) en acc) := by
  induction as with
  | nil => exact fun h0 step fin => ⟨_, rfl, fin _ _ h0⟩
  | cons a r ih =>
    intro en acc h0 step fin
    show @OB _ ⟨QL⟩ ((fg (inj a) en).bind fun e1 => (ft e1).bind fun p => _)
    rw [OB.bind_]
    refine (step a r en acc h0).mono fun e1 h1 => ?_
    rw [OB.bind_]
    refine OB.mono h1 fun p h2 => ?_
    rw [OB.ite_]
    by_cases hp : p.1 = true
    · rw [if_pos hp] at h2 ⊢
      rw [OB.bind_]
      refine OB.mono h2 fun q h3 => ?_
      rw [if_pos h3.1]
      exact ih h3.2 step fin
    · rw [if_neg hp] at h2 ⊢
      exact ih h2 step fin
/-- a comprehension without a test, in an environment that stays -/
theorem lcMap {α : Type} (inj : α → D) (f : α → D) {ws : List Nat} {fg : FG} {fv : FV} {QL : List D × En → Prop} {as : List α} (hl : as.length < lim) (k : QL (as.map f, en))
    (step : ∀ a ∈ as, @OB _ ⟨fun e1 => @OB _ ⟨fun q => wipeE q.2 ws = en ∧ q.1 = f a⟩ (fv e1)⟩ (fg (inj a) en)) : @OB _ ⟨QL⟩ (lcL ws fg fYes fv (as.map inj) en []) := by
  refine lcI inj (fun r e acc => e = en ∧ ∃ l, as = l ++ r ∧ acc = l.map f) as ⟨rfl, [], rfl, rfl⟩ ?_ ?_
  · rintro a r e acc ⟨rfl, l, h1, h2⟩
    refine (step a (by rw [h1]; simp)).mono fun e1 h => ?_
    show @OB _ ⟨_⟩ (some (true, e1))
    rw [OB.some_, if_pos rfl]
    refine OB.mono h fun q h => ⟨?_, h.1, l ++ [a], ?_, ?_⟩
    · rw [h2, List.length_map]
      have : as.length = l.length + (r.length + 1) := by rw [h1]; simp
      omega
    · rw [h1]; simp
    · rw [h2, h.2]; simp
  · rintro e acc ⟨rfl, l, h1, h2⟩
    have h1 : as = l := by rw [h1]; simp
    rw [h2, ← h1]; exact k
end
section
variable {QS : Fl × En → Prop} {en : En}
/-- a for, counted -/
theorem forN (Inv : Nat → En → Prop) {fg : FG} {fb : FS} {xs : List D} (h0 : Inv 0 en)
    (step : ∀ k (hk : k < xs.length) en, Inv k en → @OB _ ⟨fun e1 => @OB _ ⟨stepK (Inv (k + 1)) QS⟩ (fb e1)⟩ (fg xs[k] en)) (fin : ∀ en, Inv xs.length en → QS (.nx, en)) : @OB _ ⟨QS⟩ (forL fg fb xs en) := by
  have e : xs = xs.map id := by simp
  rw [e]
  refine forI id (fun r e => ∃ k, r = xs.drop k ∧ k ≤ xs.length ∧ Inv k e) xs ⟨0, rfl, Nat.zero_le _, h0⟩ ?_ ?_
  · rintro a r e1 ⟨k, h1, h2, h3⟩
    have hk : k < xs.length := by
      rcases Nat.lt_or_ge k xs.length with h | h
      · exact h
      · rw [List.drop_eq_nil_of_le h] at h1; cases h1
    rw [List.drop_eq_getElem_cons hk] at h1
    injection h1 with h1 h4
    subst h1
    refine (step k hk e1 h3).mono fun e2 h => OB.mono h fun p h => ?_
    obtain ⟨fl, e3⟩ := p
    cases fl with
    | nx => exact ⟨k + 1, h4, hk, h⟩
    | ct => exact ⟨k + 1, h4, hk, h⟩
    | bk => exact h
    | rt m => exact h
  · rintro e1 ⟨k, h1, h2, h3⟩
    have hk : k = xs.length := by
      rcases Nat.lt_or_ge k xs.length with h | h
      · rw [List.drop_eq_getElem_cons h] at h1; cases h1
      · omega
    subst hk
    exact fin _ h3
theorem lcN (Inv : Nat → En → List D → Prop) {ws : List Nat} {fg : FG} {ft : FT} {fv : FV} {QL : List D × En → Prop} {xs : List D} (h0 : Inv 0 en [])
    (step : ∀ k (hk : k < xs.length) en acc, Inv k en acc → @OB _ ⟨fun e1 => @OB _ ⟨fun p => if p.1 = true then @OB _ ⟨fun q => acc.length < lim ∧ Inv (k + 1) (wipeE q.2 ws) (acc ++ [q.1])⟩ (fv p.2) else Inv (k + 1) (wipeE p.2 ws) acc⟩ (ft e1)⟩ (fg xs[k] en))
    (fin : ∀ en acc, Inv xs.length en acc → QL (acc, en)) : @OB _ ⟨QL⟩ (lcL ws fg ft fv xs en []) := by
  have e : xs = xs.map id := by simp
  rw [e]
  refine lcI id (fun r e acc => ∃ k, r = xs.drop k ∧ k ≤ xs.length ∧ Inv k e acc) xs ⟨0, rfl, Nat.zero_le _, h0⟩ ?_ ?_
  · rintro a r e1 acc ⟨k, h1, h2, h3⟩
    have hk : k < xs.length := by
      rcases Nat.lt_or_ge k xs.length with h | h
      · exact h
      · rw [List.drop_eq_nil_of_le h] at h1; cases h1
    rw [List.drop_eq_getElem_cons hk] at h1
    injection h1 with h1 h4
    subst h1
    refine (step k hk e1 acc h3).mono fun e2 h => OB.mono h fun p h => ?_
    by_cases hp : p.1 = true
    · rw [if_pos hp] at h ⊢
      exact OB.mono h fun q h => ⟨h.1, k + 1, h4, hk, h.2⟩
    · rw [if_neg hp] at h ⊢
      exact ⟨k + 1, h4, hk, h⟩
  · rintro e1 acc ⟨k, h1, h2, h3⟩
    have hk : k = xs.length := by
      rcases Nat.lt_or_ge k xs.length with h | h
      · rw [List.drop_eq_getElem_cons h] at h1; cases h1
      · omega
    subst hk
    exact fin _ _ h3
@[simp] theorem enum_len {xs : List D} : (enumD xs).length = xs.length := by unfold enumD; simp
@[simp] theorem enum_get {xs : List D} {k : Nat} (h : k < (enumD xs).length) : (enumD xs)[k] = .tup [.int (k : Nat), xs[k]'(by simpa using h)] := by simp only [enumD, List.getElem_zipWith, List.getElem_range]
@[simp] theorem range_len {a b : Int} : (rangeD a b).length = (b - a).toNat := by unfold rangeD; simp
@[simp] theorem range_get {a b : Int} {k : Nat} (h : k < (rangeD a b).length) : (rangeD a b)[k] = .int (a + (k : Nat)) := by simp only [rangeD, List.getElem_map, List.getElem_range]
end
/-! ### pairs of numbers in order -/
section
variable {a b c d : Int}
theorem ordII {f : PyData → PyData → Bool} : gOrdD f (.p (.tup [.int a, .int b])) (.p (.tup [.int c, .int d])) = some (.p (.bl (f (.tuple [.int a, .int b]) (.tuple [.int c, .int d])))) := rfl
@[simp] theorem g_geII : gGe (.p (.tup [.int a, .int b])) (.p (.tup [.int c, .int d])) = some (.p (.bl (!decide (a < c ∨ (a = c ∧ b < d))))) := by
  rw [← PySem.W.dataLt_ii]; rfl
@[simp] theorem g_ltII : gLt (.p (.tup [.int a, .int b])) (.p (.tup [.int c, .int d])) = some (.p (.bl (decide (a < c ∨ (a = c ∧ b < d))))) := by
  rw [← PySem.W.dataLt_ii]; rfl
end
/-! ### small numbers -/
theorem sm_of {i : Int} (h : -(10 ^ 100) < i) (h' : i < 10 ^ 100) : sm i = true := by
  unfold sm
  have e : (10 ^ 100 : Nat) < 2 ^ 4096 := Nat.lt_trans (by decide : 10 ^ 100 < 2 ^ 400) (Nat.pow_lt_pow_right (by decide) (by decide))
  exact decide_eq_true (Nat.lt_trans (by omega) e)
theorem okR_of {i : Int} (h : -(2 ^ 62) ≤ i) (h' : i < 2 ^ 62) : okR i = true := by
  unfold okR
  rw [decide_eq_true h, decide_eq_true h']; rfl
theorem powC {a b : Int} (h : (decide (0 ≤ b) && decide (b ≤ 1000) && decide (a.natAbs < 2 ^ 64)) = true) {c : Int} (e : a ^ b.toNat = c) : gPow (.p (.int a)) (.p (.int b)) = some (.p (.int c)) := by
  subst e
  exact if_pos h
@[simp] theorem pow18 : gPow (.p (.int 10)) (.p (.int 18)) = some (.p (.int 1000000000000000000)) := powC (by decide +kernel) (by decide +kernel)
@[simp] theorem pow40 : gPow (.p (.int 10)) (.p (.int 40)) = some (.p (.int 10000000000000000000000000000000000000000)) := powC (by decide +kernel) (by decide +kernel)
theorem g_rep {d : D} {k : Int} (h : -1000 ≤ k) (h' : k ≤ 1000000) : gMul (.ml [d]) (.p (.int k)) = some (.ml (List.replicate k.toNat d)) := by
  have e1 : gMulI (.ml [d]) (.p (.int k)) = none := rfl
  have e2 : gRepL (.ml [d]) (.p (.int k)) = some (.ml (List.replicate k.toNat [d]).flatten) := if_pos (by
    rw [decide_eq_true (by omega : -(2 ^ 63) ≤ k), decide_eq_true (by omega : k < 2 ^ 63), decide_eq_true (by rw [limE, List.length_singleton]; omega : [d].length * k.toNat ≤ lim)]
    rfl)
  have e3 : (List.replicate k.toNat [d]).flatten = List.replicate k.toNat d := by
    induction k.toNat with
    | zero => rfl
    | succ n ih => rw [List.replicate_succ, List.flatten_cons, ih]; rfl
  show orG gMulI (orG gRepL gRepT) _ _ = _
  simp only [orG, e1, e2, e3]
theorem g_repT {d : D} {k : Int} (h : 2 ≤ k) (h' : k ≤ 1000) : gMul (.p (.tup [d])) (.p (.int k)) = some (.p (.tup (List.replicate k.toNat d))) := by
  have e1 : gMulI (.p (.tup [d])) (.p (.int k)) = none := rfl
  have e0 : gRepL (.p (.tup [d])) (.p (.int k)) = none := rfl
  have e2 : gRepT (.p (.tup [d])) (.p (.int k)) = some (.p (.tup (List.replicate k.toNat [d]).flatten)) := if_pos (by
    rw [decide_eq_true h, decide_eq_true h']
    rfl)
  have e3 : (List.replicate k.toNat [d]).flatten = List.replicate k.toNat d := by
    induction k.toNat with
    | zero => rfl
    | succ n ih => rw [List.replicate_succ, List.flatten_cons, ih]; rfl
  show orG gMulI (orG gRepL gRepT) _ _ = _
  simp only [orG, e0, e1, e2, e3]
end Dn

namespace Dn
open PySem PySem.Spec PyProof.Rows L2

/-! ### the law's own call -/
def spLaw (K : PySem.W.Frag) : Sp := fun us H Q _ => ∃ (a : Addr) (ns : List Int), us = [.ref a] ∧ SqL K H a (ns.map V.int) ∧ ns.length ≤ 63 ∧ ∀ H', Q (.bl true) H'
theorem repInts {K : PySem.W.Frag} {G : Hp} : ∀ ns : List Int, RepDs K G (ns.map V.int) (ns.map D.int)
  | [] => .nil
  | n :: r => .cons (.int n) (repInts r)
theorem law_spD {K : PySem.W.Frag} {g : FD} (hg : ∀ ns : List Int, ns.length ≤ 63 → ∃ e, g [.p (.lst (ns.map .int))] = some (.p (.bl true), e)) {us : List V} {H : Hp} {Q : VK} {E : XK} (h : spLaw K us H Q E) : spD K 1 g us H Q E := by
  obtain ⟨a, ns, rfl, hs, hl, q⟩ := h
  obtain ⟨e, he⟩ := hg ns hl
  refine ⟨rfl, H, [.p (.lst (ns.map .int))], fun _ => [], .p (.bl true), e, ?_, he, fun G' H' F' v fp w f r t => ?_⟩
  · refine ⟨fun _ _ z => z, rfl, fun i m hm => ?_, fun i _ => rfl, fun i j a ha => (nomatch ha), fun i hi => (nomatch hi)⟩
    cases i with
    | zero =>
      cases hm
      exact ⟨.ref a, rfl, .p (.lst hs (repInts ns))⟩
    | succ i => exact nomatch hm
  · rw [r.bl]
    exact q H'
theorem fn_law {P : Program} {w : World} {K : PySem.W.Frag} {mg : Str → Option Value} {base : Heap} {k : Nat} {f : Addr} {fd : FuncData} {ps : List Str} {g : FD} (Fn : FnG P w K mg base k f fd ps (spD K 1 g)) (hg : ∀ ns : List Int, ns.length ≤ 63 → ∃ e, g [.p (.lst (ns.map .int))] = some (.p (.bl true), e)) : FnG P w K mg base k f fd ps (spLaw K) :=
  ⟨fun us H Q E q => Fn.ln us H Q E (law_spD hg q), fun A o s H a us ws Q E hr hgd e0 hb r q => Fn.go A o s H a us ws Q E hr hgd e0 hb r (law_spD hg q)⟩
theorem law_sp {K : PySem.W.Frag} {H : Hp} {a : Addr} {ns : List Int} (hl : ns.length ≤ 63) (hS : SqL K H a (ns.map V.int)) : spLaw K [.ref a] H (fun v _ => v = .bl true) E0 := ⟨a, ns, rfl, hS, hl, fun _ => rfl⟩
theorem all_fin {P : Program} {w : World} {K : PySem.W.Frag} {mg : Str → Option Value} {fa : Addr} {g : FD} {k : Nat} (hg : ∀ ns : List Int, ns.length ≤ 63 → ∃ e, g [.p (.lst (ns.map .int))] = some (.p (.bl true), e))
    (h : ∃ fd : FuncData, (∀ (s : Shared) (v : Value), BindsTo s fd ⟨[v], []⟩ [("script", v)]) ∧ ∀ base : Heap, K.In base → base.Ns mainGlobals mg → FnG P w K mg base k fa fd ["script"] (spD K 1 g)) :
    ∃ fd : FuncData, (∀ (s : Shared) (v : Value), BindsTo s fd ⟨[v], []⟩ [("script", v)]) ∧ ∀ base : Heap, K.In base → base.Ns mainGlobals mg → FnG P w K mg base k fa fd ["script"] (spLaw K) := by
  obtain ⟨fd, h1, h2⟩ := h
  exact ⟨fd, h1, fun base a b => fn_law (h2 base a b) hg⟩
theorem law_of {g : FD} (h : ∀ ns : List Int, ns.length ≤ 63 → @OB _ ⟨fun r => r.1 = .p (.bl true)⟩ (g [.p (.lst (ns.map .int))])) : ∀ ns : List Int, ns.length ≤ 63 → ∃ e, g [.p (.lst (ns.map .int))] = some (.p (.bl true), e) := fun ns hl => by
  obtain ⟨⟨m, e⟩, h1, h2⟩ := h ns hl
  have h2 : m = .p (.bl true) := h2
  exact ⟨e, by rw [h1, h2]⟩
end Dn

namespace Dn
open PySem PySem.Spec PyProof.Rows L2

/-! ### sorted(list of data) -/
section
variable {X : Cx} {K : PySem.W.Frag}
def encP (p : V × D) : PyData := pyD p.2
def leP (p q : V × D) : Bool := PySem.W.dataLe false encP p q
def rSortD (K : PySem.W.Frag) : List V → Hp → VK → Prop := fun vs H Q => ∃ (a : Addr) (ps : List (V × D)), vs = [.ref a] ∧ SqL K H a (ps.map (·.1)) ∧ (∀ p ∈ ps, Dp K H p.1 (pyD p.2)) ∧ PySem.W.AllAlike (ps.map encP) ∧ PySem.W.Sortable (ps.map encP) ∧ (∀ p ∈ ps, (pyD p.2).depth ≤ 60) ∧
  ∀ q, H q = none → Q (.ref q) (upd H q (.lst ((ps.mergeSort leP).map (·.1))))
theorem each_ps {H : Hp} {s : Shared} : ∀ {ps : List (V × D)} {us : List Value}, Vals (ps.map (·.1)) us → PySem.W.EachIs (fun u (p : V × D) => RelV p.1 u) us ps
  | [], _, .nil => .nil
  | _ :: _, _, .cons r t => .cons r (each_ps (H := H) (s := s) t)
theorem each_vals : ∀ {ps : List (V × D)} {us : List Value}, PySem.W.EachIs (fun u (p : V × D) => RelV p.1 u) us ps → Vals (ps.map (·.1)) us
  | _, _, .nil => .nil
  | _, _, .cons r t => .cons r (each_vals t)
theorem each_and {α β : Type} {R S : α → β → Prop} : ∀ {us : List α} {ps : List β}, PySem.W.EachIs R us ps → (∀ u p, p ∈ ps → R u p → S u p) → PySem.W.EachIs S us ps
  | _, _, .nil, _ => .nil
  | _, _, .cons r t, h => .cons (h _ _ (by simp) r) (each_and t fun u p hp => h u p (by simp [hp]))
theorem call_sortD' (hu : X.A.units + 64 < cLine) : CallR X (.builtin "sorted") (rSortD X.K) := by
  intro pins s σ H vs us Q I r h
  obtain ⟨a, ps, rfl, hs, hd, h1, h2, h3, q⟩ := h
  obtain ⟨its, rv, hl, hz⟩ := I.list hs
  rw [Vals.ref1 r]
  have e := each_ps (H := H) (s := s) rv
  have hz' : ps.length ≤ sizeLine := by rw [List.length_map] at hz; exact hz
  refine PySem.W.sorted_data (enc := encP) hl.isList e (each_and e fun u p hp ru => Dp.reads I _ _ _ (hd p hp) ru) h1 h2 hz' (fun p hp => by have := h3 p hp; show X.A.units + 2 + (pyD p.2).depth < cLine; omega) fun out ho eo => ?_
  obtain ⟨ep, he'⟩ := PyProof.Rows.sortedAll_at s.heap its out.toArray
  have hlen : ((ps.mergeSort leP).map (·.1)).length ≤ sizeLine := by
    rw [List.length_map, List.length_mergeSort]; exact hz'
  exact ⟨.ref _, upd H (s.heap.objs.size + 1) (.lst ((ps.mergeSort leP).map (·.1))), I.laid (t' := s.toks) (fun _ _ => PyProof.Rows.sortedAll_old) (Nat.le_succ _) ⟨hlen, out, ep, each_vals eo, he'⟩, rfl, q _ (I.hok.fresh (Nat.le_succ _))⟩
def leD (x y : D) : Bool := PySem.W.dataLe false pyD x y
def okSort (xs : List D) : Bool := okDs xs && (xs.all (fun x => xs.all fun y => PySem.W.alike (pyD x) (pyD y)) && ((xs.all (fun x => match pyD x with | .tuple (_ :: _) => true | _ => false) || xs.all fun x => match pyD x with | .none => false | .tuple _ => false | _ => true) && xs.all fun x => decide ((pyD x).depth ≤ 60)))
theorem okSort_ok {xs : List D} (h : okSort xs = true) : (∀ x ∈ xs, okD x = true) ∧ PySem.W.AllAlike (xs.map pyD) ∧ PySem.W.Sortable (xs.map pyD) ∧ ∀ x ∈ xs, (pyD x).depth ≤ 60 := by
  unfold okSort at h
  simp only [Bool.and_eq_true, Bool.or_eq_true, List.all_eq_true, decide_eq_true_eq, okDs_all] at h
  obtain ⟨h1, h2, h3, h4⟩ := h
  refine ⟨h1, ?_, ?_, h4⟩
  · intro d hd d' hd'
    obtain ⟨x, hx, rfl⟩ := List.mem_map.mp hd
    obtain ⟨y, hy, rfl⟩ := List.mem_map.mp hd'
    exact h2 x hx y hy
  · rcases h3 with h3 | h3
    · refine .inl fun d hd => ?_
      obtain ⟨x, hx, rfl⟩ := List.mem_map.mp hd
      have := h3 x hx
      split at this
      · next e => exact ⟨_, _, e⟩
      · cases this
    · refine .inr fun d hd => ?_
      obtain ⟨x, hx, rfl⟩ := List.mem_map.mp hd
      have := h3 x hx
      split at this
      · cases this
      · cases this
      · next h1 h2 => exact ⟨h1, h2⟩
def gSorted (m : M) : Option M := (lstM m).bind fun xs => if okSort xs then some (.ml (xs.mergeSort leD)) else none
theorem RepDs.zip {G : Hp} : ∀ {us : List V} {ds : List D}, RepDs K G us ds → ∃ ps : List (V × D), us = ps.map (·.1) ∧ ds = ps.map (·.2) ∧ ∀ p ∈ ps, RepD K G p.1 p.2
  | _, _, .nil => ⟨[], rfl, rfl, fun _ h => nomatch h⟩
  | _, _, .cons (v := v) (d := d) r t => by
    obtain ⟨ps, rfl, rfl, h⟩ := RepDs.zip t
    exact ⟨(v, d) :: ps, rfl, rfl, fun p hp => by
      rcases List.mem_cons.mp hp with e | hp
      · rw [e]; exact r
      · exact h p hp⟩
theorem repDs_of {G : Hp} : ∀ {ps : List (V × D)}, (∀ p ∈ ps, RepD K G p.1 p.2) → RepDs K G (ps.map (·.1)) (ps.map (·.2))
  | [], _ => .nil
  | p :: r, h => .cons (h p (by simp)) (repDs_of fun q hq => h q (by simp [hq]))
theorem un_sorted : Un1 K (fun x H Q => rSortD K [x] H Q) gSorted := fun G H x mx fx m Q e rx hg q => by
  obtain ⟨xs, h1, z⟩ := Option.bind_eq_some_iff.mp hg
  by_cases o : okSort xs = true
  · rw [if_pos o] at z
    cases z
    obtain ⟨o1, o2, o3, o4⟩ := okSort_ok o
    obtain ⟨a, us, rfl, h2, h3⟩ := rx.lst e h1
    obtain ⟨ps, rfl, rfl, hp⟩ := RepDs.zip h3
    have em : ps.map encP = (ps.map (·.2)).map pyD := by rw [List.map_map]; rfl
    refine ⟨a, ps, rfl, h2, fun p hp' => (hp p hp').dp e (o1 _ (List.mem_map.mpr ⟨p, hp', rfl⟩)), by rw [em]; exact o2, by rw [em]; exact o3, fun p hp' => o4 _ (List.mem_map.mpr ⟨p, hp', rfl⟩), fun l n => ?_⟩
    have es : (ps.map (·.2)).mergeSort leD = (ps.mergeSort leP).map (·.2) := (List.map_mergeSort (f := fun p : V × D => p.2) (r := leP) (s := leD) (fun _ _ _ _ => rfl)).symm
    exact q.list e (by
      rw [es]
      exact repDs_of fun p hp' => hp p ((List.mergeSort_perm ps leP).mem_iff.mp hp')) n
  · rw [if_neg o] at z; cases z
end
/-! ### x in xs -/
def flatD : D → Bool
  | .non => true
  | .bl _ => true
  | .int _ => true
  | .str _ => true
  | _ => false
def eqF : D → D → Bool
  | .non, .non => true
  | .bl a, .bl b => a == b
  | .bl a, .int b => (if a then 1 else 0) == b
  | .int a, .bl b => a == (if b then 1 else 0)
  | .int a, .int b => a == b
  | .str a, .str b => a == b
  | _, _ => false
section
variable {K : PySem.W.Frag} {X : Cx} {G H : Hp}
theorem RepD.flat {v : V} {d : D} (r : RepD K G v d) : L2.flatV v = flatD d := by cases r <;> rfl
theorem RepD.eqF {v w : V} {d e : D} (r : RepD K G v d) (r' : RepD K G w e) : L2.eqV v w = eqF d e := by cases r <;> cases r' <;> rfl
theorem RepDs.flats : ∀ {us : List V} {ds : List D}, RepDs K G us ds → us.all L2.flatV = ds.all flatD
  | _, _, .nil => rfl
  | _, _, .cons r t => by rw [List.all_cons, List.all_cons, r.flat, RepDs.flats t]
theorem RepDs.anyF {w : V} {e : D} (r' : RepD K G w e) : ∀ {us : List V} {ds : List D}, RepDs K G us ds → us.any (fun y => L2.eqV y w) = ds.any fun y => Dn.eqF y e
  | _, _, .nil => rfl
  | _, _, .cons r t => by rw [List.any_cons, List.any_cons, r.eqF r', RepDs.anyF r' t]
def ngB (neg b : Bool) : Bool := if neg then !b else b
def gInF (neg : Bool) (a b : M) : Option M := (pD a).bind fun x => (seqM b).bind fun ys => if flatD x && ys.all flatD then some (pB (ngB neg (ys.any fun y => Dn.eqF y x))) else none
theorem bi_inF {neg : Bool} : Bi K (rIn K neg) (gInF neg) := fun G H x y mx my fx fy m Q e rx ry hg q => by
  obtain ⟨d, h1, z1⟩ := Option.bind_eq_some_iff.mp hg
  obtain ⟨ys, h2, z2⟩ := Option.bind_eq_some_iff.mp z1
  have e1 := pD_some h1
  subst e1
  by_cases o : (flatD d && ys.all flatD) = true
  · rw [if_pos o] at z2
    cases z2
    obtain ⟨o1, o2⟩ := Bool.and_eq_true_iff.mp o
    obtain ⟨a, us, rfl, h3, h4⟩ := ry.seq e h2
    refine ⟨a, us, rfl, h3, by rw [rx.d.flat]; exact o1, by rw [h4.flats]; exact o2, ?_⟩
    unfold inV
    rw [h4.anyF rx.d]
    exact q.d e (.bl _)
  · rw [if_neg o] at z2; cases z2
def dnB (neg : Bool) (K : PySem.W.Frag) : R2 := if neg then rNotInD K else rInD K
def gInL (neg : Bool) (a b : M) : Option M := (dataM a).bind fun x => (dataM b).bind fun y => match y with
  | .lst ys => if shp x && shp (.lst ys) then some (pB (ngB neg (ys.any fun z => PyData.eqv (pyD z) (pyD x)))) else none
  | _ => none
theorem any_py {f : PyData → Bool} : ∀ ys : List D, (pyDs ys).any f = ys.any fun z => f (pyD z)
  | [] => rfl
  | y :: r => by rw [pyDs, List.any_cons, List.any_cons, any_py r]
theorem bi_inL : Bi K (rInD K) (gInL false) := fun G H x y mx my fx fy m Q e rx ry hg q => by
  obtain ⟨d1, h1, z1⟩ := Option.bind_eq_some_iff.mp hg
  obtain ⟨d2, h2, z2⟩ := Option.bind_eq_some_iff.mp z1
  split at z2
  · next ys =>
    split at z2
    · next o =>
      cases z2
      refine ⟨_, pyDs ys, rx.dp e h1, ry.dp e h2, shp_ok (Bool.and_eq_true_iff.mp o).1, shp_ok (Bool.and_eq_true_iff.mp o).2, ?_⟩
      rw [any_py]
      exact q.d e (.bl _)
    · cases z2
  · cases z2
theorem bi_ninL : Bi K (rNotInD K) (gInL true) := fun G H x y mx my fx fy m Q e rx ry hg q => by
  obtain ⟨d1, h1, z1⟩ := Option.bind_eq_some_iff.mp hg
  obtain ⟨d2, h2, z2⟩ := Option.bind_eq_some_iff.mp z1
  split at z2
  · next ys =>
    split at z2
    · next o =>
      cases z2
      refine ⟨_, pyDs ys, rx.dp e h1, ry.dp e h2, shp_ok (Bool.and_eq_true_iff.mp o).1, shp_ok (Bool.and_eq_true_iff.mp o).2, ?_⟩
      rw [any_py]
      exact q.d e (.bl _)
    · cases z2
  · cases z2
def gIn (neg : Bool) : M → M → Option M := orG (gInF neg) (gInL neg)
abbrev rInA (K : PySem.W.Frag) : R2 := orR (rIn K false) (rInD K)
abbrev rNotInA (K : PySem.W.Frag) : R2 := orR (rIn K true) (rNotInD K)
theorem hu65 {k : Nat} {A : Around} (r : Room k A) : A.units + 65 < cLine := by
  have := r.un
  omega
theorem op_inA (hu : X.A.units + 65 < cLine) : OpR X (compareOp .In) (rInA X.K) := (op_in_seq (X := X)).or (op_inD hu)
theorem op_notInA (hu : X.A.units + 65 < cLine) : OpR X (compareOp .NotIn) (rNotInA X.K) := (op_notIn_seq (X := X)).or (op_notInD hu)
theorem bi_in : Bi K (rInA K) (gIn false) := bi_or bi_inF bi_inL
theorem bi_notIn : Bi K (rNotInA K) (gIn true) := bi_or bi_inF bi_ninL
end
/-! ### x.extend(e) -/
section
variable {K : PySem.W.Frag} {bs : List Nat} {X : Cx} {a b c e : Expr} {fa fb fc : FE} {pos : Pos}
def mlM : Option M → Option (List D)
  | some (.ml zs) => some zs
  | _ => none
theorem mlM_some {o : Option M} {zs : List D} (h : mlM o = some zs) : o = some (.ml zs) := by
  unfold mlM at h
  split at h
  · cases h; rfl
  · cases h
def fExt (k : Nat) (f : FE) : FE := fun en => (isMl en k).bind fun _ => (f en).bind fun q => (mlM (cont q.2 q.1)).bind fun zs => (putL k (fun xs => if xs.length + zs.length ≤ lim then some (xs ++ zs) else none) q.2).map fun e => (.val (.p .non), e)
theorem rd_ext {k : Nat} {to : TE} (hto : to = tVar k) (σ : L2.St) (H : Hp) (Q : VK) (q : rd K bs (fExt k fa) σ H Q) : tBM K "list" rExtend to (tCons (rd K bs fa) tNil) σ H Q := by
  subst hto
  obtain ⟨vs, G, en, F, o, en', w, hf, kk⟩ := q
  obtain ⟨_, h0, z0⟩ := Option.bind_eq_some_iff.mp hf
  obtain ⟨⟨oa, e1⟩, h1, z1⟩ := Option.bind_eq_some_iff.mp z0
  obtain ⟨zs, h2, z2⟩ := Option.bind_eq_some_iff.mp z1
  obtain ⟨e2, h3, z3⟩ := Option.map_eq_some_iff.mp z2
  cases z3
  obtain ⟨x, hx⟩ := isMl_slot w h0
  obtain ⟨p, us, rfl, hp⟩ := isMl_ok w h0 hx
  refine ⟨_, hx, .inl ⟨rfl, us, .inl (.inl hp)⟩, vs, G, en, F, oa, e1, w, h1, fun G1 H1 F1 v fp w1 f1 r1 t1 => ?_⟩
  obtain ⟨_, c1⟩ := cont_ok r1 t1 Fr.refl w1 (mlM_some h2)
  cases c1 with
  | @ml b us2 _ g1 g2 g3 =>
    obtain ⟨p', us', xs, ys, hp', h4, h5, h6, h7, h8⟩ := putL_ok w1 hx h3
    cases hp'
    by_cases o : xs.length + zs.length ≤ lim
    · rw [if_pos o] at h6
      cases h6
      refine ⟨p, b, us', us2, rfl, rfl, h4, g1, by rw [h5.length, g3.length]; exact Nat.le_trans o lim_line, ?_⟩
      obtain ⟨F2, w2, f2⟩ := h8 (us' ++ us2) (h5.append g3)
      exact kk G1 _ F2 _ [] w2 (f1.trans f2) (.val (.p .non)) Tmp.nil
    · rw [if_neg o] at h6; cases h6
variable {x : Str} {p p1 apos : Pos}
theorem dx_ext (k : Nat) (ha : PE X a (rd X.K bs fa)) (hN : X.N[k]? = some x := by rfl) (hv : Vis X.env.scope x := by first | exact Or.inl rfl | exact Or.inr (Or.inl rfl) | exact Or.inr (Or.inr rfl)) (hd : (x == ("__debug__" : Str)) = false := by decide) (hcd : (x == ("__classdict__" : Str)) = false := by decide)
    (h : ∀ {to : TE} {t : TA}, PE X (.Name x p1) to → PA X [a] t → PE X (.Call (.Attribute (.Name x p1) "extend" apos) [a] [] pos) (tBM X.K "list" rExtend to t) := by exact fun ho ha => pe_bm PySem.F.plainAttrs_list PySem.F.slot_list_extend PySem.F.type_list_extend mt_extend ho ha)
    (hs : starEach [a] X.env = (false, eval a X.env) :: starEach [] X.env := by rfl) : PE X (.Call (.Attribute (.Name x p1) "extend" apos) [a] [] pos) (rd X.K bs (fExt k fa)) := (h (pe_var hN hv hd hcd) (pa_cons ha pa_nil hs)).imp fun σ H Q q => rd_ext rfl σ H Q q
/-! ### x[i] as a target -/
def gSubK (k : Nat) (fi : FE) : FG := fun d en => (isMl en k).bind fun _ => (fi en).bind fun r => ((cont r.2 r.1).bind intM).bind fun i => putL k (fun xs => (ixN xs.length i).map fun j => xs.set j d) r.2
theorem dg_sub (k : Nat) {p2 : Pos} (hi : PE X b (rd X.K bs fb)) (hN : X.N[k]? = some x := by rfl) (hv : Vis X.env.scope x := by first | exact Or.inl rfl | exact Or.inr (Or.inl rfl) | exact Or.inr (Or.inr rfl)) (hd : (x == ("__debug__" : Str)) = false := by decide) (hcd : (x == ("__classdict__" : Str)) = false := by decide)
    (h : ∀ {to ti : TE}, PE X (.Name x p1) to → PE X b ti → PG X (.Subscript (.Name x p1) b p2) (L2.gSub to ti rSetL) := by exact fun ho hi => pg_sub ho hi set_list) : PG X (.Subscript (.Name x p1) b p2) (rdg2 X.K bs [] (gSubK k fb)) := (h (pe_var hN hv hd hcd) hi).imp fun v σ H Q q => by
  obtain ⟨vs, G, en, F, d, en', w, r, hf, kk⟩ := q
  obtain ⟨_, h2, z2⟩ := Option.bind_eq_some_iff.mp hf
  obtain ⟨⟨o, e2⟩, h3, z3⟩ := Option.bind_eq_some_iff.mp z2
  obtain ⟨i, h4, h5⟩ := Option.bind_eq_some_iff.mp z3
  obtain ⟨m, h6, h7⟩ := Option.bind_eq_some_iff.mp h4
  obtain ⟨x, hx⟩ := isMl_slot w h2
  refine ⟨x, hx, vs, G, en, F, o, e2, w, h3, fun G2 H2 F2 y fy w2 f2 r2 t2 => ?_⟩
  obtain ⟨_, c2⟩ := cont_ok r2 t2 Fr.refl w2 h6
  have em := intM_some h7
  subst em
  obtain ⟨p', us', xs, ys, hp', g3, g4, g5, g6, g7⟩ := putL_ok w2 hx h5
  obtain ⟨j, j1, j2⟩ := Option.map_eq_some_iff.mp g5
  subst j2 hp'
  refine ⟨p', us', i, j, rfl, c2.int, g3, by rw [g4.length]; exact j1, ?_⟩
  obtain ⟨F3, w3, f3⟩ := g7 (us'.set j v) (g4.set (r.mono f2.gk) j)
  exact kk G2 _ σ F3 w3 (f2.trans f3) ⟨rfl, fun _ _ => rfl⟩
end
end Dn

namespace Dn
open PySem PySem.Spec PyProof.Rows L2

section
variable {K : PySem.W.Frag} {bs : List Nat} {vs : List V} {G H G' H' : Hp} {σ : L2.St} {en en' : En} {F F' : Nat → List Addr} {X : Cx} {a b c e : Expr} {fa fb fc : FE} {pos : Pos}
/-! ### a, b, c = e1, e2, e3 (no tuple is made) -/
theorem RepO.move {v : V} {o : Opd} {fp : List Addr} {O O' : Addr → Prop} (r : RepO K G H σ v o fp) (f : Fr G H O G' H' O') (n : ∀ a ∈ fp, ¬ O a) : RepO K G' H' σ v o fp := by
  cases r with
  | val r => exact .val (r.frame f n)
  | pl h => exact .pl h
def fPar3 (i j l : Nat) (f g h : FE) : FS := fun en => (f en).bind fun p => (g p.2).bind fun q => (h q.2).bind fun t => (resO p.1 t.2).bind fun r => (resO q.1 r.2).bind fun s => (resO t.1 s.2).map fun u => (.nx, ((u.2.set i (some r.1)).set j (some s.1)).set l (some u.1))
theorem ds_par3 (i j l : Nat) {x y z : Str} {px py pz pt : Pos} {kt k2 pt2} (ha : PE X a (rd X.K bs fa)) (hb : PE X b (rd X.K bs fb)) (hc : PE X c (rd X.K bs fc)) (hbi : i ∉ bs := by decide) (hbj : j ∉ bs := by decide) (hbl : l ∉ bs := by decide)
    (h : ∀ {ta : TA}, PA X [a, b, c] ta → PS X (.Assign [.Tuple [.Name x px, .Name y py, .Name z pz] kt pt] (.Tuple [a, b, c] k2 pt2) pos) (tPar3 i j l ta)) (hs : starEach [a, b, c] X.env = (false, eval a X.env) :: starEach [b, c] X.env := by rfl) (hs1 : starEach [b, c] X.env = (false, eval b X.env) :: starEach [c] X.env := by rfl) (hs2 : starEach [c] X.env = (false, eval c X.env) :: starEach [] X.env := by rfl) :
    PS X (.Assign [.Tuple [.Name x px, .Name y py, .Name z pz] kt pt] (.Tuple [a, b, c] k2 pt2) pos) (rds X.K bs (fPar3 i j l fa fb fc)) := (h (pa_cons ha (pa_cons hb (pa_cons hc pa_nil hs2) hs1) hs)).imp fun E σ H q => by
  obtain ⟨vs, G, en, F, fl, en', w, hf, k⟩ := q
  obtain ⟨⟨o1, e1⟩, h1, z1⟩ := Option.bind_eq_some_iff.mp hf
  obtain ⟨⟨o2, e2⟩, h2, z2⟩ := Option.bind_eq_some_iff.mp z1
  obtain ⟨⟨o3, e3⟩, h3, z3⟩ := Option.bind_eq_some_iff.mp z2
  obtain ⟨⟨m1, e4⟩, h4, z4⟩ := Option.bind_eq_some_iff.mp z3
  obtain ⟨⟨m2, e5⟩, h5, z5⟩ := Option.bind_eq_some_iff.mp z4
  obtain ⟨⟨m3, e6⟩, h6, z6⟩ := Option.map_eq_some_iff.mp z5
  cases z6
  refine ⟨vs, G, en, F, o1, e1, w, h1, fun G1 H1 F1 v1 fp1 w1 f1 r1 t1 => ⟨vs, G1, e1, F1, o2, e2, w1, h2, fun G2 H2 F2 v2 fp2 w2 f2 r2 t2 => ⟨vs, G2, e2, F2, o3, e3, w2, h3, fun G3 H3 F3 v3 fp3 w3 f3 r3 t3 => ⟨v1, v2, v3, rfl, ?_⟩⟩⟩⟩
  have at1 := r1.at_
  have at2 := r2.at_
  have at3 := r3.at_
  have r1a := (r1.move f2 fun a ha => (t1 a ha).1).move f3 fun a ha => f2.notOw (t1 a ha).1 (at1 a ha)
  have r2a := r2.move f3 fun a ha => (t2 a ha).1
  have p12 : ∀ a ∈ fp2, a ∉ fp1 := fun a ha hp => by
    rcases (t2 a ha).2 with z | z
    · exact (t1 a hp).1 z
    · obtain ⟨o, h⟩ := at1 a hp
      rw [z] at h; cases h
  have p23 : ∀ a ∈ fp3, a ∉ fp2 := fun a ha hp => by
    rcases (t3 a ha).2 with z | z
    · exact (t2 a hp).1 z
    · obtain ⟨o, h⟩ := at2 a hp
      rw [z] at h; cases h
  have p13 : ∀ a ∈ fp3, a ∉ fp1 := fun a ha hp => by
    have n : ¬ Ow F2 a := f2.notOw (t1 a hp).1 (at1 a hp)
    rcases (t3 a ha).2 with z | z
    · exact n z
    · obtain ⟨o, h⟩ := at1 a hp
      have := f2.hk a o h (t1 a hp).1
      rw [z] at this; cases this
  have t1a : Tmp H F F3 fp1 := (t1.step at1 f2).step (fun a ha => by obtain ⟨o, h⟩ := at1 a ha; exact ⟨o, f2.hk a o h (t1 a ha).1⟩) f3
  have t2a : Tmp H F F3 fp2 := Tmp.step (Tmp.back f1 t2) at2 f3
  have t3a : Tmp H F F3 fp3 := Tmp.back (f1.trans f2) t3
  obtain ⟨G4, F4, fr1, w4, f4, f34, q1, u1, s1⟩ := resO_ok w3 ((f1.trans f2).trans f3) r1a t1a h4
  have r2b := r2a.move f34 fun a ha => (t2a a ha).1
  have r3b := r3.move f34 fun a ha => (t3a a ha).1
  have t2b : Tmp H F F4 fp2 := t2a.step (fun a ha => r2a.at_ a ha) f34
  have t3b : Tmp H F F4 fp3 := t3a.step at3 f34
  obtain ⟨G5, F5, fr2, w5, f5, f45, q2, u2, s2⟩ := resO_ok w4 f4 r2b t2b h5
  have r3c := r3b.move f45 fun a ha => (t3b a ha).1
  have t3c : Tmp H F F5 fp3 := t3b.step (fun a ha => r3b.at_ a ha) f45
  obtain ⟨G6, F6, fr3, w6, f6, f56, q3, u3, s3⟩ := resO_ok w5 f5 r3c t3c h6
  have q1b := (q1.frame f45 fun a ha => (u1 a ha).1)
  have n1b : ∀ a ∈ fr1, ¬ Ow F5 a := fun a ha => f45.notOw (u1 a ha).1 (q1.at_ a ha).2
  have q1c := q1b.frame f56 n1b
  have n1c : ∀ a ∈ fr1, ¬ Ow F6 a := fun a ha => f56.notOw (n1b a ha) (q1b.at_ a ha).2
  have q2c := q2.frame f56 fun a ha => (u2 a ha).1
  have n2c : ∀ a ∈ fr2, ¬ Ow F6 a := fun a ha => f56.notOw (u2 a ha).1 (q2.at_ a ha).2
  obtain ⟨F7, w7, on7⟩ := w6.put' q1c n1c hbi
  obtain ⟨F8, w8, on8⟩ := w7.put' q2c (fun a ha q => by
    rcases on7 a q with q | q
    · exact n2c a ha q
    · exact p12 a (s2 a ha) (s1 a q)) hbj
  obtain ⟨F9, w9, on9⟩ := w8.put' q3 (fun a ha q => by
    rcases on8 a q with q | q
    · rcases on7 a q with q | q
      · exact (u3 a ha).1 q
      · exact p13 a (s3 a ha) (s1 a q)
    · exact p23 a (s3 a ha) (s2 a q)) hbl
  refine k G6 H3 _ F9 w9 ⟨f6.hk, f6.gk, f6.gn, fun a q => ?_⟩
  rcases on9 a q with q | q
  · rcases on8 a q with q | q
    · rcases on7 a q with q | q
      · exact f6.on a q
      · exact (u1 a q).2
    · exact (u2 a q).2
  · exact (u3 a q).2
end
/-! ### head first -/
section
variable {en : En} {Q : QE} {QS : Fl × En → Prop} {QG : En → Prop} {f g h : FE} {i j k l : Nat} {d : D}
@[simp ↓] theorem k_par3 : @OB _ ⟨QS⟩ (fPar3 i j l f g h en) = @OB _ ⟨fun p => @OB _ ⟨fun q => @OB _ ⟨fun t => @OB _ ⟨fun r => @OB _ ⟨fun s => @OB _ ⟨fun u => QS (.nx, ((u.2.set i (some r.1)).set j (some s.1)).set l (some u.1))⟩ (resO t.1 s.2)⟩ (resO q.1 r.2)⟩ (resO p.1 t.2)⟩ (h q.2)⟩ (g p.2)⟩ (f en) := by
  unfold fPar3
  repeat' first | exact OB.map_ | exact OB.some_ | exact OB.none_ | exact rfl | refine OB.bind_.trans ?_ | refine OB.map_.trans ?_ | refine OB.c fun _ => ?_ | refine OB.ite_.trans (OB.ic ?_ ?_)
@[simp ↓] theorem k_ext : @OB _ ⟨Q⟩ (fExt k f en) = @OB _ ⟨fun _ => @OB _ ⟨fun q => @OB _ ⟨fun zs => @OB _ ⟨fun e => Q (.val (.p .non), e)⟩ (putL k (fun xs => if xs.length + zs.length ≤ lim then some (xs ++ zs) else none) q.2)⟩ (mlM (cont q.2 q.1))⟩ (f en)⟩ (isMl en k) := by
  unfold fExt
  repeat' first | exact OB.map_ | exact OB.some_ | exact OB.none_ | exact rfl | refine OB.bind_.trans ?_ | refine OB.map_.trans ?_ | refine OB.c fun _ => ?_ | refine OB.ite_.trans (OB.ic ?_ ?_)
@[simp] theorem mlM_ml {zs : List D} : mlM (some (.ml zs)) = some zs := rfl
@[simp ↓] theorem k_subk : @OB _ ⟨QG⟩ (gSubK k f d en) = @OB _ ⟨fun _ => @OB _ ⟨fun r => @OB _ ⟨fun m => @OB _ ⟨fun i => @OB _ ⟨QG⟩ (putL k (fun xs => (ixN xs.length i).map fun j => xs.set j d) r.2)⟩ (intM m)⟩ (cont r.2 r.1)⟩ (f en)⟩ (isMl en k) := by
  unfold gSubK
  repeat' first | exact OB.map_ | exact OB.some_ | exact OB.none_ | exact rfl | refine OB.bind_.trans ?_ | refine OB.map_.trans ?_ | refine OB.c fun _ => ?_ | refine OB.ite_.trans (OB.ic ?_ ?_)
end
@[simp] theorem ngB_f {b : Bool} : ngB false b = b := rfl
@[simp] theorem ngB_t {b : Bool} : ngB true b = !b := rfl
theorem any_int {i : Int} : ∀ ns : List Int, (ns.map D.int).any (fun y => eqF y (.int i)) = decide (i ∈ ns)
  | [] => by simp
  | n :: r => by
    rw [List.map_cons, List.any_cons, any_int r]
    show ((n == i) || decide (i ∈ r)) = decide (i ∈ n :: r)
    have e : (n == i) = decide (i = n) := by
      by_cases h : n = i
      · subst h; simp
      · have h' : ¬ i = n := fun z => h z.symm
        simp [h, h']
    rw [e]
    simp
theorem all_flat_int : ∀ ns : List Int, (ns.map D.int).all flatD = true
  | [] => rfl
  | n :: r => by rw [List.map_cons, List.all_cons, all_flat_int r]; rfl
theorem g_inI {neg : Bool} {i : Int} {m : M} {ns : List Int} (h : seqM m = some (ns.map D.int)) : gIn neg (.p (.int i)) m = some (.p (.bl (ngB neg (decide (i ∈ ns))))) := by
  have e : gInF neg (.p (.int i)) m = some (.p (.bl (ngB neg (decide (i ∈ ns))))) := by
    unfold gInF
    rw [h]
    show (if (flatD (.int i) && (ns.map D.int).all flatD) = true then _ else none) = _
    rw [if_pos (by rw [all_flat_int]; rfl), any_int]
    rfl
  show orG (gInF neg) (gInL neg) _ _ = _
  simp only [orG, e]
@[simp] theorem g_inIm {neg : Bool} {i : Int} {ns : List Int} : gIn neg (.p (.int i)) (.ml (ns.map D.int)) = some (.p (.bl (ngB neg (decide (i ∈ ns))))) := g_inI rfl
@[simp] theorem g_inIl {neg : Bool} {i : Int} {ns : List Int} : gIn neg (.p (.int i)) (.p (.lst (ns.map D.int))) = some (.p (.bl (ngB neg (decide (i ∈ ns))))) := g_inI rfl
@[simp] theorem g_inIt {neg : Bool} {i : Int} {ns : List Int} : gIn neg (.p (.int i)) (.p (.tup (ns.map D.int))) = some (.p (.bl (ngB neg (decide (i ∈ ns))))) := g_inI rfl
def sortI (ns : List Int) : List Int := ns.mergeSort fun a b => decide (a ≤ b)
theorem sortI_mem {ns : List Int} {i : Int} : i ∈ sortI ns ↔ i ∈ ns := (List.mergeSort_perm ns _).mem_iff
theorem okSort_int : ∀ ns : List Int, okSort (ns.map D.int) = true := fun ns => by
  unfold okSort
  simp only [Bool.and_eq_true, Bool.or_eq_true, List.all_eq_true, decide_eq_true_eq, okDs_all]
  refine ⟨fun x hx => ?_, fun x hx y hy => ?_, .inr fun x hx => ?_, fun x hx => ?_⟩
  · obtain ⟨i, _, rfl⟩ := List.mem_map.mp hx; rfl
  · obtain ⟨i, _, rfl⟩ := List.mem_map.mp hx
    obtain ⟨j, _, rfl⟩ := List.mem_map.mp hy
    rfl
  · obtain ⟨i, _, rfl⟩ := List.mem_map.mp hx; rfl
  · obtain ⟨i, _, rfl⟩ := List.mem_map.mp hx; exact Nat.zero_le _
theorem leD_int {a b : Int} : leD (.int a) (.int b) = decide (a ≤ b) := by
  show (!PySem.W.dataLt (.int b) (.int a)) = _
  rw [PySem.W.dataLt_int, PySem.W.not_lt_int]
@[simp] theorem g_sortI {ns : List Int} : gSorted (.ml (ns.map D.int)) = some (.ml ((sortI ns).map D.int)) := by
  unfold gSorted
  show (if okSort (ns.map D.int) = true then _ else none) = _
  rw [if_pos (okSort_int ns)]
  congr 2
  exact (List.map_mergeSort (f := D.int) (r := fun a b => decide (a ≤ b)) (s := leD) (fun _ _ _ _ => leD_int.symm)).symm
/-! ### while, by a measure; comprehensions with a test -/
section
variable {QS : Fl × En → Prop} {en : En}
theorem whI (Inv : Nat → En → Prop) {ft : FT} {fb : FS}
    (step : ∀ m en, Inv m en → @OB _ ⟨fun p => if p.1 = true then @OB _ ⟨stepK (fun e => ∃ m', m' < m ∧ Inv m' e) QS⟩ (fb p.2) else QS (.nx, p.2)⟩ (ft en)) : ∀ (n m : Nat) (en : En), Inv m en → m < n → @OB _ ⟨QS⟩ (whL ft fb n en)
  | 0, m, _, _, h => absurd h (Nat.not_lt_zero _)
  | n + 1, m, en, h0, hm => by
    show @OB _ ⟨QS⟩ ((ft en).bind fun p => _)
    rw [OB.bind_]
    refine (step m en h0).mono fun p h1 => ?_
    rw [OB.ite_]
    by_cases hp : p.1 = true
    · rw [if_pos hp] at h1 ⊢
      rw [OB.bind_]
      refine OB.mono h1 fun q h2 => ?_
      obtain ⟨fl, e2⟩ := q
      cases fl with
      | nx =>
        obtain ⟨m', l, h3⟩ := h2
        exact whI Inv step n m' e2 h3 (by omega)
      | ct =>
        obtain ⟨m', l, h3⟩ := h2
        exact whI Inv step n m' e2 h3 (by omega)
      | bk => exact ⟨_, rfl, h2⟩
      | rt m => exact ⟨_, rfl, h2⟩
    · rw [if_neg hp] at h1 ⊢
      exact ⟨_, rfl, h1⟩
theorem lcFil {α : Type} (inj : α → D) (t : α → Bool) (f : α → D) {ws : List Nat} {fg : FG} {ft : FT} {fv : FV} {QL : List D × En → Prop} {as : List α} (hl : as.length < lim) (k : QL ((as.filter t).map f, en))
    (step : ∀ a ∈ as, @OB _ ⟨fun e1 => @OB _ ⟨fun p => p.1 = t a ∧ if p.1 = true then @OB _ ⟨fun q => wipeE q.2 ws = en ∧ q.1 = f a⟩ (fv p.2) else wipeE p.2 ws = en⟩ (ft e1)⟩ (fg (inj a) en)) : @OB _ ⟨QL⟩ (lcL ws fg ft fv (as.map inj) en []) := by
  refine lcI inj (fun r e acc => e = en ∧ ∃ l, as = l ++ r ∧ acc = (l.filter t).map f) as ⟨rfl, [], rfl, rfl⟩ ?_ ?_
  · rintro a r e acc ⟨rfl, l, h1, h2⟩
    refine (step a (by rw [h1]; simp)).mono fun e1 h => OB.mono h fun p h => ?_
    obtain ⟨ht, h⟩ := h
    by_cases hp : p.1 = true
    · rw [if_pos hp] at h ⊢
      refine OB.mono h fun q h => ⟨?_, h.1, l ++ [a], ?_, ?_⟩
      · rw [h2, List.length_map]
        have : as.length = l.length + (r.length + 1) := by rw [h1]; simp
        have := List.length_filter_le t l
        omega
      · rw [h1]; simp
      · have : t a = true := by rw [← ht]; exact hp
        rw [h2, h.2]; simp [this]
    · rw [if_neg hp] at h ⊢
      have : t a = false := by rw [← ht]; simpa using hp
      exact ⟨h, l ++ [a], by rw [h1]; simp, by rw [h2]; simp [this]⟩
  · rintro e acc ⟨rfl, l, h1, h2⟩
    have h1 : as = l := by rw [h1]; simp
    rw [h2, ← h1]; exact k
end
end Dn

namespace Dn
open PySem PySem.Spec PyProof.Rows L2

section
variable {K : PySem.W.Frag} {bs : List Nat} {vs : List V} {G H G' H' : Hp} {σ : L2.St} {en en' : En} {F F' : Nat → List Addr} {X : Cx} {a b c e : Expr} {fa fb fc : FE} {pos : Pos}
/-! ### a, b = e1, e2 where a tuple is made -/
theorem ext_new {p : Addr} {o : HO} (e : Same G H) (n : H p = none) : Ext G H G (upd H p o) [] where
  sub := fun a u h => by
    rw [upd_ne fun z => by rw [z] at h; rw [e _ _ h] at n; cases n]
    exact e a u h
  hk := fun a u h => by
    rw [upd_ne fun z => by rw [z, n] at h; cases h]
    exact h
  gk := fun _ _ h => h
  gn := fun _ h _ => h
  nw := fun _ h => nomatch h
theorem ds_parT (i j : Nat) {x y : Str} {px py pt : Pos} {kt k2 pt2} (hc : X.calm = true) (hN : X.N.Nodup) (ha : PE X a (rd X.K bs fa)) (hb : PE X b (rd X.K bs fb)) (hbi : i ∉ bs := by decide) (hbj : j ∉ bs := by decide)
    (hi : X.N[i]? = some x := by rfl) (hj : X.N[j]? = some y := by rfl) (hx : Loc X.env.scope x := by first | exact Or.inl rfl | exact Or.inr rfl) (hy : Loc X.env.scope y := by first | exact Or.inl rfl | exact Or.inr rfl)
    (hs : starEach [a, b] X.env = (false, eval a X.env) :: starEach [b] X.env := by rfl) (hs2 : starEach [b] X.env = (false, eval b X.env) :: starEach [] X.env := by rfl)
    (h : ∀ {te : TE} {g g' : TG}, PE X (.Tuple [a, b] k2 pt2) te → PG X (.Name x px) g → PG X (.Name y py) g' → PS X (.Assign [.Tuple [.Name x px, .Name y py] kt pt] (.Tuple [a, b] k2 pt2) pos) (tAsg te (gTup X.K 2 (gCons g (gCons g' gNil)))) := by exact fun he g g' => ps_asg he (pg_tup rfl (pgs_cons g (pgs_cons g' pgs_nil))))
    (hf : X.fn x = true ∨ X.env.scope.names.lookup x = some .local := by first | exact .inl rfl | exact .inr rfl) (hf2 : X.fn y = true ∨ X.env.scope.names.lookup y = some .local := by first | exact .inl rfl | exact .inr rfl) :
    PS X (.Assign [.Tuple [.Name x px, .Name y py] kt pt] (.Tuple [a, b] k2 pt2) pos) (rds X.K bs (fPar i j fa fb)) := (h (pe_tup (pa_cons ha (pa_cons hb pa_nil hs2) hs)) (pg_name hN hi hx hf) (pg_name hN hj hy hf2)).imp fun E σ H q => by
  obtain ⟨vs, G, en, F, fl, en', w, hf, k⟩ := q
  obtain ⟨⟨o1, e1⟩, h1, z1⟩ := Option.bind_eq_some_iff.mp hf
  obtain ⟨⟨o2, e2⟩, h2, z2⟩ := Option.bind_eq_some_iff.mp z1
  obtain ⟨⟨m1, e3⟩, h3, z3⟩ := Option.bind_eq_some_iff.mp z2
  obtain ⟨⟨m2, e4⟩, h4, z4⟩ := Option.map_eq_some_iff.mp z3
  cases z4
  refine ⟨vs, G, en, F, o1, e1, w, h1, fun G1 H1 F1 v fp w1 f1 r1 t1 => ⟨vs, G1, e1, F1, o2, e2, w1, h2, fun G2 H2 F2 u fq w2 f2 r2 t2 => ⟨by show 2 ≤ sizeLine; decide, fun p hp => ⟨p, [v, u], rfl, .inl (.inl upd_same), rfl, v, [u], rfl, u, [], rfl, rfl, ?_⟩⟩⟩⟩
  have at1 := r1.at_
  have r1' := r1.move f2 fun a ha => (t1 a ha).1
  have ap : ∀ a ∈ fq, a ∉ fp := fun a ha hp => by
    rcases (t2 a ha).2 with z | z
    · exact (t1 a hp).1 z
    · obtain ⟨o, h⟩ := at1 a hp
      rw [z] at h; cases h
  have ex := ext_new (G := G2) (o := .tup [v, u]) w2.sub hp
  have w2' := ex.wf w2
  have f12 : Fr G H (Ow F) G2 (upd H2 p (.tup [v, u])) (Ow F2) := (f1.trans f2).trans ex.fr
  have t1' : Tmp H F F2 fp := t1.step at1 f2
  have t2' : Tmp H F F2 fq := Tmp.back f1 t2
  have r1'' := r1'.move (ex.fr (O := Ow F2)) fun a ha => (t1' a ha).1
  have r2'' := r2.move (ex.fr (O := Ow F2)) fun a ha => (t2' a ha).1
  obtain ⟨G3, F3, fr, w3, f3, f23, r3, t3, s3⟩ := resO_ok w2' f12 r1'' t1' h3
  have r2c := r2''.move f23 fun a ha => (t2' a ha).1
  have t2'' : Tmp H F F3 fq := t2'.step r2''.at_ f23
  obtain ⟨G4, F4, fs, w4, f4, f34, r4, t4, s4⟩ := resO_ok w3 f3 r2c t2'' h4
  have r3' := r3.frame f34 fun a ha => (t3 a ha).1
  have n3 : ∀ a ∈ fr, ¬ Ow F4 a := fun a ha => f34.notOw (t3 a ha).1 (r3.at_ a ha).2
  obtain ⟨F5, w5, on5⟩ := w4.put' r3' n3 hbi
  obtain ⟨F6, w6, on6⟩ := w5.put' r4 (fun a ha q => by
    rcases on5 a q with q | q
    · exact (t4 a ha).1 q
    · exact ap a (s4 a ha) (s3 a q)) hbj
  refine k G4 _ _ F6 w6 ⟨f4.hk, f4.gk, f4.gn, fun a q => ?_⟩
  rcases on6 a q with q | q
  · rcases on5 a q with q | q
    · exact f4.on a q
    · exact (t3 a q).2
  · exact (t4 a q).2
end
/-! ### sum of a tuple, max and min of a list of ints -/
theorem sum_tupG {prog : Program} {w : World} {A : Around} {E : Value → Shared → Prop} {s : Shared} {l : Addr} {xs : Array (Int × Tok)} {Q : Value → Shared → Prop} (hh : A.handled = none) (hl : s.heap.IsTuple l (intItems xs))
    (h : ∀ h' tk t', (∀ b o, s.heap.get? b = some o → h'.get? b = some o) → Q (.int (preSum (numAt xs) xs.size) t') { s with heap := h', toks := tk }) :
    wpAny (model prog w) A (call (.builtin "sum") [.ref l]) Q E s := by
  have hlt : l < s.heap.objs.size := by obtain ⟨_, e, _⟩ := hl; exact Heap.lt_size e
  refine call_sum_walkG (wpAny_pyIter_tuple hl ?_)
  refine ⟨_, [_, l], [_], _, _, _, numAt xs, rfl, Walks.tuple (A := A.in1) hh _ l (Nat.ne_of_lt hlt) (intItems xs), ⟨⟨_, Heap.get?_push_size _ rfl, rfl, rfl⟩, hl.push _⟩, fun b hb => ?_, (fun _ _ => intItems_at), fun h' tk t' hk => ?_⟩
  · show b < (s.heap.push _).objs.size
    rw [Heap.size_push]
    rcases List.mem_cons.mp hb with rfl | hb
    · exact Nat.lt_succ_self _
    · rcases List.mem_cons.mp hb with rfl | hb
      · exact Nat.lt_succ_of_lt hlt
      · cases hb
  · have := h h' tk t' fun b o e => hk b o (fun hm => by
      rcases List.mem_cons.mp hm with e1 | hm
      · exact absurd (e1 ▸ Heap.lt_size e) (Nat.lt_irrefl _)
      · cases hm) (Heap.get?_push_of_some _ e)
    simpa [intItems] using this
section
variable {X : Cx} {K : PySem.W.Frag}
def rSumT (K : PySem.W.Frag) : List V → Hp → VK → Prop := fun vs H Q => ∃ (a : Addr) (ns : List Int), vs = [V.ref a] ∧ SqT K H a (ns.map V.int) ∧ Q (.int ns.sum) H
def rSumA (K : PySem.W.Frag) : List V → Hp → VK → Prop := fun vs H Q => rSum K vs H Q ∨ rSumT K vs H Q
theorem call_sumA (hc : X.calm = true) : CallR X (.builtin "sum") (rSumA X.K) := by
  intro pins s σ H vs us Q I r h
  rcases h with h | ⟨a, ns, rfl, hs, q⟩
  · exact cr_sum hc pins s σ H vs us Q I r h
  · obtain ⟨its, rv, hl, _⟩ := I.tuple hs
    rw [Vals.ref1 r]
    have hi := rv.ints
    obtain ⟨xs, e⟩ := hi.allInts.items
    have hn : numsOf (intItems xs).toList = ns := by rw [← e]; exact hi.numsOf
    rw [nums_intItems] at hn
    rw [e] at hl
    refine sum_tupG (I.ok.hd hc) hl fun h' tk t' hk => ?_
    rw [preSum_eq, List.take_of_length_le (by simp), hn]
    exact ⟨.int _, H, I.kept hk, ⟨_, rfl⟩, q⟩
def gSumA (m : M) : Option M := ((seqM m).bind intsD).map fun ks => pI ks.sum
theorem un_sumA : Un1 K (fun x H Q => rSumA K [x] H Q) gSumA := fun G H x mx fx m Q e rx hg q => by
  obtain ⟨ks, h1, z⟩ := Option.map_eq_some_iff.mp hg
  obtain ⟨xs, h2, h3⟩ := Option.bind_eq_some_iff.mp h1
  cases z
  obtain ⟨a, us, rfl, h4, h5⟩ := rx.seq e h2
  rcases h4 with h4 | h4
  · exact .inl ⟨a, ks, rfl, by rw [← ints_rep h5 h3]; exact h4, q.d e (.int _)⟩
  · exact .inr ⟨a, ks, rfl, by rw [← ints_rep h5 h3]; exact h4, q.d e (.int _)⟩
def gMaxL (m : M) : Option M := (((lstM m).bind intsD).bind List.max?).map pI
def gMinL (m : M) : Option M := (((lstM m).bind intsD).bind List.min?).map pI
theorem un_maxL : Un1 K (fun x H Q => rMax K [x] H Q) gMaxL := fun G H x mx fx m Q e rx hg q => by
  obtain ⟨k, h1, z⟩ := Option.map_eq_some_iff.mp hg
  obtain ⟨ks, h2, h3⟩ := Option.bind_eq_some_iff.mp h1
  obtain ⟨xs, h4, h5⟩ := Option.bind_eq_some_iff.mp h2
  cases z
  obtain ⟨a, us, rfl, h6, h7⟩ := rx.lst e h4
  obtain ⟨m1, m2⟩ := List.max?_eq_some_iff.mp h3
  refine ⟨a, ks, rfl, by rw [← ints_rep h7 h5]; exact h6, List.length_pos_of_mem m1, fun y hy hle => ?_⟩
  have : y = k := Int.le_antisymm (m2 y hy) (hle k m1)
  rw [this]
  exact q.d e (.int _)
theorem un_minL : Un1 K (fun x H Q => rMin K [x] H Q) gMinL := fun G H x mx fx m Q e rx hg q => by
  obtain ⟨k, h1, z⟩ := Option.map_eq_some_iff.mp hg
  obtain ⟨ks, h2, h3⟩ := Option.bind_eq_some_iff.mp h1
  obtain ⟨xs, h4, h5⟩ := Option.bind_eq_some_iff.mp h2
  cases z
  obtain ⟨a, us, rfl, h6, h7⟩ := rx.lst e h4
  obtain ⟨m1, m2⟩ := List.min?_eq_some_iff.mp h3
  refine ⟨a, ks, rfl, by rw [← ints_rep h7 h5]; exact h6, List.length_pos_of_mem m1, fun y hy hle => ?_⟩
  have : y = k := Int.le_antisymm (hle k m1) (m2 y hy)
  rw [this]
  exact q.d e (.int _)
end
@[simp] theorem ints_map {ns : List Int} : intsD (ns.map D.int) = some ns := by
  induction ns with
  | nil => rfl
  | cons n r ih => rw [List.map_cons, intsD, ih]; rfl
theorem g_sumA {m : M} {ns : List Int} (h : seqM m = some (ns.map D.int)) : gSumA m = some (.p (.int ns.sum)) := by
  unfold gSumA
  rw [h]
  show ((intsD (ns.map D.int)).map fun ks => pI ks.sum) = _
  rw [ints_map]; rfl
theorem g_maxL {m : M} {ns : List Int} {k : Int} (h : lstM m = some (ns.map D.int)) (hk : k ∈ ns) (hm : ∀ x ∈ ns, x ≤ k) : gMaxL m = some (.p (.int k)) := by
  unfold gMaxL
  rw [h]
  show ((intsD (ns.map D.int)).bind List.max?).map pI = _
  rw [ints_map]
  show (ns.max?).map pI = _
  rw [List.max?_eq_some_iff.mpr ⟨hk, hm⟩]; rfl
theorem g_minL {m : M} {ns : List Int} {k : Int} (h : lstM m = some (ns.map D.int)) (hk : k ∈ ns) (hm : ∀ x ∈ ns, k ≤ x) : gMinL m = some (.p (.int k)) := by
  unfold gMinL
  rw [h]
  show ((intsD (ns.map D.int)).bind List.min?).map pI = _
  rw [ints_map]
  show (ns.min?).map pI = _
  rw [List.min?_eq_some_iff.mpr ⟨hk, hm⟩]; rfl
end Dn

namespace NS
open PySem PySem.Spec PyProof.Rows L2 Dn
/-! ### the text by places -/
def topS (i : Nat) : Stmt := PySem.Challenge.pw_namescopied_k11_whole_rings_capped_by_li.main.body.getD i (.Pass ⟨0, 0, 0, 0⟩)
abbrev s_is_integer : Stmt := (topS 1)
abbrev s_is_within : Stmt := (topS 2)
abbrev s_is_tuple : Stmt := (topS 3)
abbrev s_do_ascend : Stmt := (topS 4)
abbrev s_is_lot_below : Stmt := (topS 5)
abbrev s_keeps_fault : Stmt := (topS 21)
abbrev s_is_link_of : Stmt := (topS 22)
abbrev s_links_fault : Stmt := (topS 23)
abbrev s_Web___init : Stmt := (inClass (topS 24) 0)
abbrev s_check_web : Stmt := (topS 25)
abbrev s_reached_by : Stmt := (topS 26)
abbrev s_reached_from : Stmt := (topS 27)
abbrev s_live_of : Stmt := (topS 28)
abbrev s_sum_of : Stmt := (topS 30)
abbrev s_check_life : Stmt := (topS 33)
abbrev s_check_liars : Stmt := (topS 34)
abbrev s_check_signed : Stmt := (topS 35)
abbrev s_worth_of : Stmt := (topS 37)
abbrev s_least_entry : Stmt := (topS 38)
abbrev s_signed_ages_of : Stmt := (topS 39)
abbrev s_signed_ages : Stmt := (topS 40)
abbrev s_l_law_hand : Stmt := (topS 42)
abbrev s_l_law_draw : Stmt := (topS 43)
abbrev s_l_law_ringed : Stmt := (topS 45)
abbrev s_l_law_is_right : Stmt := (topS 46)
abbrev s_law : Stmt := (topS 47)
theorem sc_is_integer : FnScope ["thing"] ["thing"] (defScope s_is_integer) := ⟨rfl, rfl, rfl, by decide +kernel, rfl, by decide +kernel, by decide +kernel⟩
theorem sc_is_within : FnScope ["thing", "low", "high"] ["thing", "low", "high"] (defScope s_is_within) := ⟨rfl, rfl, rfl, by decide +kernel, rfl, by decide +kernel, by decide +kernel⟩
theorem sc_is_tuple : FnScope ["thing", "low", "high"] ["thing", "low", "high"] (defScope s_is_tuple) := ⟨rfl, rfl, rfl, by decide +kernel, rfl, by decide +kernel, by decide +kernel⟩
theorem sc_do_ascend : FnScope ["things", "one", "other"] ["things"] (defScope s_do_ascend) := ⟨rfl, rfl, rfl, by decide +kernel, rfl, by decide +kernel, by decide +kernel⟩
theorem sc_is_lot_below : FnScope ["thing", "most", "one"] ["thing", "most"] (defScope s_is_lot_below) := ⟨rfl, rfl, rfl, by decide +kernel, rfl, by decide +kernel, by decide +kernel⟩
theorem sc_keeps_fault : FnScope ["keeps", "place", "keep"] ["keeps"] (defScope s_keeps_fault) := ⟨rfl, rfl, rfl, by decide +kernel, rfl, by decide +kernel, by decide +kernel⟩
theorem sc_is_link_of : FnScope ["many", "thing"] ["many", "thing"] (defScope s_is_link_of) := ⟨rfl, rfl, rfl, by decide +kernel, rfl, by decide +kernel, by decide +kernel⟩
theorem sc_links_fault : FnScope ["many", "links", "at", "link"] ["many", "links"] (defScope s_links_fault) := ⟨rfl, rfl, rfl, by decide +kernel, rfl, by decide +kernel, by decide +kernel⟩
theorem sc_Web___init : FnScope ["self", "circle", "growth", "keeps", "links", "fault"] ["self", "circle", "growth", "keeps", "links"] (defScope s_Web___init) := ⟨rfl, rfl, rfl, by decide +kernel, rfl, by decide +kernel, by decide +kernel⟩
theorem sc_check_web : FnScope ["web"] ["web"] (defScope s_check_web) := ⟨rfl, rfl, rfl, by decide +kernel, rfl, by decide +kernel, by decide +kernel⟩
theorem sc_reached_by : FnScope ["links"] ["links"] (defScope s_reached_by) := ⟨rfl, rfl, rfl, by decide +kernel, rfl, by decide +kernel, by decide +kernel⟩
theorem sc_reached_from : FnScope ["links", "found", "at", "link"] ["links", "found"] (defScope s_reached_from) := ⟨rfl, rfl, rfl, by decide +kernel, rfl, by decide +kernel, by decide +kernel⟩
theorem sc_live_of : FnScope ["web", "found", "link"] ["web"] (defScope s_live_of) := ⟨rfl, rfl, rfl, by decide +kernel, rfl, by decide +kernel, by decide +kernel⟩
theorem sc_sum_of : FnScope ["web", "link"] ["web", "link"] (defScope s_sum_of) := ⟨rfl, rfl, rfl, by decide +kernel, rfl, by decide +kernel, by decide +kernel⟩
theorem sc_check_life : FnScope ["life"] ["life"] (defScope s_check_life) := ⟨rfl, rfl, rfl, by decide +kernel, rfl, by decide +kernel, by decide +kernel⟩
theorem sc_check_liars : FnScope ["web", "liars"] ["web", "liars"] (defScope s_check_liars) := ⟨rfl, rfl, rfl, by decide +kernel, rfl, by decide +kernel, by decide +kernel⟩
theorem sc_check_signed : FnScope ["web", "life", "liars"] ["web", "life", "liars"] (defScope s_check_signed) := ⟨rfl, rfl, rfl, by decide +kernel, rfl, by decide +kernel, by decide +kernel⟩
theorem sc_worth_of : FnScope ["life", "liars", "entries", "place"] ["life", "liars", "entries", "place"] (defScope s_worth_of) := ⟨rfl, rfl, rfl, by decide +kernel, rfl, by decide +kernel, by decide +kernel⟩
theorem sc_least_entry : FnScope ["web", "life", "liars", "entries", "link"] ["web", "life", "liars", "entries", "link"] (defScope s_least_entry) := ⟨rfl, rfl, rfl, by decide +kernel, rfl, by decide +kernel, by decide +kernel⟩
theorem sc_signed_ages_of : FnScope ["web", "life", "liars", "found", "entries", "links", "has_grown", "link", "place", "least"] ["web", "life", "liars"] (defScope s_signed_ages_of) := ⟨rfl, rfl, rfl, by decide +kernel, rfl, by decide +kernel, by decide +kernel⟩
theorem sc_signed_ages : FnScope ["web", "life", "liars"] ["web", "life", "liars"] (defScope s_signed_ages) := ⟨rfl, rfl, rfl, by decide +kernel, rfl, by decide +kernel, by decide +kernel⟩
theorem sc_l_law_hand : FnScope ["script", "cells", "cell"] ["script"] (defScope s_l_law_hand) := ⟨rfl, rfl, rfl, by decide +kernel, rfl, by decide +kernel, by decide +kernel⟩
theorem sc_l_law_draw : FnScope ["hand", "many", "number", "cell", "digit"] ["hand", "many"] (defScope s_l_law_draw) := ⟨rfl, rfl, rfl, by decide +kernel, rfl, by decide +kernel, by decide +kernel⟩
theorem sc_l_law_ringed : FnScope ["hand", "most", "many", "place", "links", "keeps", "lates"] ["hand", "most"] (defScope s_l_law_ringed) := ⟨rfl, rfl, rfl, by decide +kernel, rfl, by decide +kernel, by decide +kernel⟩
theorem sc_l_law_is_right : FnScope ["hand", "web", "is_fed", "last", "life", "many", "first", "ring", "due", "link"] ["hand", "web"] (defScope s_l_law_is_right) := ⟨rfl, rfl, rfl, by decide +kernel, rfl, by decide +kernel, by decide +kernel⟩
theorem sc_law : FnScope ["script", "hand", "slow", "lap"] ["script"] (defScope s_law) := ⟨rfl, rfl, rfl, by decide +kernel, rfl, by decide +kernel, by decide +kernel⟩
/-! ### what the top holds -/
structure Txt (K : PySem.W.Frag) (mg : Str → Option Value) (C_Web : Addr) : Prop where
  m_abs : mg "abs" = none
  m_all : mg "all" = none
  m_bool : mg "bool" = none
  m_enumerate : mg "enumerate" = none
  m_int : mg "int" = none
  m_isinstance : mg "isinstance" = none
  m_len : mg "len" = none
  m_min : mg "min" = none
  m_range : mg "range" = none
  m_repr : mg "repr" = none
  m_sorted : mg "sorted" = none
  m_sum : mg "sum" = none
  m_tuple : mg "tuple" = none
  m_zip : mg "zip" = none
  c_LEAST_CIRCLE : ∃ t, mg "LEAST_CIRCLE" = some (.int 3 t)
  c_MOST_CIRCLE : ∃ t, mg "MOST_CIRCLE" = some (.int 1000 t)
  c_MOST_GROWTH : ∃ t, mg "MOST_GROWTH" = some (.int 1000 t)
  c_MOST_KEEP : ∃ t, mg "MOST_KEEP" = some (.int 100 t)
  c_MOST_LATE : ∃ t, mg "MOST_LATE" = some (.int 100 t)
  c_MOST_LIFE : ∃ t, mg "MOST_LIFE" = some (.int 300 t)
  c_MOST_LINKS : ∃ t, mg "MOST_LINKS" = some (.int 40 t)
  c_MOST_PLACES : ∃ t, mg "MOST_PLACES" = some (.int 8 t)
  c_SOURCE : ∃ t, mg "SOURCE" = some (.int 0 t)
  cl_Web : Cls K C_Web
  g_Web : mg "Web" = some (.ref C_Web)
  i_Web : C8.InsC K C_Web
  n_Web_circle : NoAttr K C_Web "circle"
  n_Web_growth : NoAttr K C_Web "growth"
  n_Web_keeps : NoAttr K C_Web "keeps"
  n_Web_links : NoAttr K C_Web "links"
/-! ### what each def denotes -/
def B_is_integer : FS :=
  (fRet (fAndV (fUn (gIs isInt) (fName 0)) (fNotV (fUn (gIs isBool) (fName 0)))))
def D_is_integer : FD := runF (B_is_integer) 1 [0]
def B_is_within (g_is_integer : FD) : FS :=
  (fRet (fAndV (fCall g_is_integer (fConsO (fName 0) fNilO)) (fChain gLe gLe (fName 1) (fName 0) (fName 2))))
def D_is_within (g_is_integer : FD) : FD := runF (B_is_within g_is_integer) 3 [0, 1, 2]
def B_is_tuple : FS :=
  (fRet (fAndV (fUn (gIs isTuple) (fName 0)) (fChain gLe gLe (fName 1) (fUn gLen (fName 0)) (fName 2))))
def D_is_tuple : FD := runF (B_is_tuple) 3 [0, 1, 2]
def B_do_ascend : FS :=
  (fRet (fUn gAll (fLc [1, 2] (fZip (fCons (fV (fName 0)) (fCons (fV (fSl (fName 0) (fPart (fC (.int 1))) fNoP)) fNil))) (gTupl (gCons1 (gSlot 1) (gCons1 (gSlot 2) gEnd))) fYes (fV (fBin gLt (fName 1) (fName 2))))))
def D_do_ascend : FD := runF (B_do_ascend) 3 [0]
def B_is_lot_below (g_is_within : FD) (g_do_ascend : FD) : FS :=
  (fRet (fAndV (fUn (gIs isTuple) (fName 0)) (fAndV (fUn gAll (fLc [2] (fSeqI (fV (fName 0))) (gSlot 2) fYes (fV (fCall g_is_within (fConsO (fName 2) (fConsO (fC (.int 0)) (fConsO (fBin gMinus (fName 1) (fC (.int 1))) fNilO))))))) (fCall g_do_ascend (fConsO (fName 0) fNilO)))))
def D_is_lot_below (g_is_within : FD) (g_do_ascend : FD) : FD := runF (B_is_lot_below g_is_within g_do_ascend) 3 [0, 1]
def B_keeps_fault (g_is_tuple : FD) (g_is_within : FD) : FS :=
  (fSeq (fIf (fNot (fB (fCall g_is_tuple (fConsO (fName 0) (fConsO (fC (.int 1)) (fConsO (fC (.int 8)) fNilO)))))) (fRet (fUn gNeg (fC (.int 1)))) fSkip)
  (fSeq (fFor (fEnum (fCons (fV (fName 0)) fNil)) (gTupl (gCons1 (gSlot 1) (gCons1 (gSlot 2) gEnd))) (fIf (fNot (fB (fCall g_is_within (fConsO (fName 2) (fConsO (fC (.int 0)) (fConsO (fIfE (fB (fBin gGt (fName 1) (fC (.int 0)))) (fC (.int 100)) (fC (.int 0))) fNilO)))))) (fRet (fName 1)) fSkip))
  (fRet (fC .non))))
def D_keeps_fault (g_is_tuple : FD) (g_is_within : FD) : FD := runF (B_keeps_fault g_is_tuple g_is_within) 3 [0]
def B_is_link_of (g_is_tuple : FD) (g_is_within : FD) : FS :=
  (fSeq (fIf (fOr (fNot (fB (fCall g_is_tuple (fConsO (fName 1) (fConsO (fC (.int 3)) (fConsO (fC (.int 3)) fNilO)))))) (fOr (fNot (fB (fCall g_is_within (fConsO (fBin gIx (fName 1) (fC (.int 0))) (fConsO (fC (.int 1)) (fConsO (fBin gMinus (fName 0) (fC (.int 1))) fNilO)))))) (fNot (fB (fCall g_is_within (fConsO (fBin gIx (fName 1) (fC (.int 1))) (fConsO (fC (.int 0)) (fConsO (fBin gMinus (fName 0) (fC (.int 1))) fNilO)))))))) (fRet (fC (.bl false))) fSkip)
  (fRet (fAndV (fBin gNe (fBin gIx (fName 1) (fC (.int 0))) (fBin gIx (fName 1) (fC (.int 1)))) (fCall g_is_within (fConsO (fBin gIx (fName 1) (fC (.int 2))) (fConsO (fC (.int 0)) (fConsO (fC (.int 100)) fNilO)))))))
def D_is_link_of (g_is_tuple : FD) (g_is_within : FD) : FD := runF (B_is_link_of g_is_tuple g_is_within) 2 [0, 1]
def B_links_fault (g_is_tuple : FD) (g_is_link_of : FD) : FS :=
  (fSeq (fIf (fNot (fB (fCall g_is_tuple (fConsO (fName 1) (fConsO (fC (.int 0)) (fConsO (fC (.int 40)) fNilO)))))) (fRet (fUn gNeg (fC (.int 1)))) fSkip)
  (fSeq (fFor (fEnum (fCons (fV (fName 1)) fNil)) (gTupl (gCons1 (gSlot 2) (gCons1 (gSlot 3) gEnd))) (fIf (fOr (fNot (fB (fCall g_is_link_of (fConsO (fName 0) (fConsO (fName 3) fNilO))))) (fAnd (fB (fBin gGt (fName 2) (fC (.int 0)))) (fB (fBin gGe (fSl (fBin gIx (fName 1) (fBin gMinus (fName 2) (fC (.int 1)))) fNoP (fPart (fC (.int 2)))) (fSl (fName 3) fNoP (fPart (fC (.int 2)))))))) (fRet (fName 2)) fSkip))
  (fRet (fC .non))))
def D_links_fault (g_is_tuple : FD) (g_is_link_of : FD) : FD := runF (B_links_fault g_is_tuple g_is_link_of) 4 [0, 1]
def B_Web___init (C_Web : Addr) (g_is_within : FD) (g_keeps_fault : FD) (g_links_fault : FD) : FS :=
  (fSeq (fIf (fNot (fB (fCall g_is_within (fConsO (fName 1) (fConsO (fC (.int 3)) (fConsO (fC (.int 1000)) fNilO)))))) fNever fSkip)
  (fSeq (fIf (fNot (fB (fCall g_is_within (fConsO (fName 2) (fConsO (fC (.int 0)) (fConsO (fC (.int 1000)) fNilO)))))) fNever fSkip)
  (fSeq (fSet 5 (fCall g_keeps_fault (fConsO (fName 3) fNilO)))
  (fSeq (fIf (fB (fBin (gNon2 true) (fName 5) (fC .non))) fNever fSkip)
  (fSeq (fSet 5 (fCall g_links_fault (fConsO (fUn gLen (fName 3)) (fConsO (fName 4) fNilO))))
  (fSeq (fIf (fB (fBin (gNon2 true) (fName 5) (fC .non))) fNever fSkip)
  (fSeq (fSetF 0 C_Web "circle" (fName 1))
  (fSeq (fSetF 0 C_Web "growth" (fName 2))
  (fSeq (fSetF 0 C_Web "keeps" (fName 3))
  (fSetF 0 C_Web "links" (fName 4)))))))))))
def D_Web___init (C_Web : Addr) (g_is_within : FD) (g_keeps_fault : FD) (g_links_fault : FD) : FD := runF (B_Web___init C_Web g_is_within g_keeps_fault g_links_fault) 6 [0, 1, 2, 3, 4]
def B_check_web (C_Web : Addr) : FS :=
  (fIf (fNot (fB (fUn (gIsC C_Web) (fName 0)))) fNever fSkip)
def D_check_web (C_Web : Addr) : FD := runF (B_check_web C_Web) 1 [0]
def B_reached_by (g_reached_from : FD) : FS :=
  (fRet (fCall g_reached_from (fConsO (fName 0) (fConsO (fLst (fCons (fV (fC (.int 0))) fNil)) fNilO))))
def D_reached_by (g_reached_from : FD) : FD := runF (B_reached_by g_reached_from) 1 [0]
def B_reached_from : FS :=
  (fSeq (fSet 2 (fC (.int 0)))
  (fSeq (fWhile 1000000 (fB (fBin gLt (fName 2) (fUn gLen (fName 1)))) (fSeq (fFor (fSeqI (fV (fName 0))) (gSlot 3) (fIf (fAnd (fB (fBin gEq (fBin gIx (fName 3) (fC (.int 1))) (fBin gIx (fName 1) (fName 2)))) (fB (fBin (gIn true) (fBin gIx (fName 3) (fC (.int 0))) (fName 1)))) (fSet 1 (fBin gAdd (fName 1) (fLst (fCons (fV (fBin gIx (fName 3) (fC (.int 0)))) fNil)))) fSkip))
  (fSet 2 (fBin gAdd (fName 2) (fC (.int 1))))))
  (fRet (fUn gSorted (fName 1)))))
def D_reached_from : FD := runF (B_reached_from) 4 [0]
def B_live_of (C_Web : Addr) (g_reached_by : FD) : FS :=
  (fSeq (fSet 1 (fCall g_reached_by (fConsO (fUn (gAttr C_Web "links") (fName 0)) fNilO)))
  (fRet (fUn gTuple (fLc [2] (fSeqI (fV (fUn (gAttr C_Web "links") (fName 0)))) (gSlot 2) (fB (fBin (gIn false) (fBin gIx (fName 2) (fC (.int 1))) (fName 1))) (fV (fName 2))))))
def D_live_of (C_Web : Addr) (g_reached_by : FD) : FD := runF (B_live_of C_Web g_reached_by) 3 [0]
def B_sum_of (C_Web : Addr) : FS :=
  (fRet (fBin gAdd (fBin gIx (fName 1) (fC (.int 2))) (fBin gIx (fUn (gAttr C_Web "keeps") (fName 0)) (fBin gIx (fName 1) (fC (.int 0))))))
def D_sum_of (C_Web : Addr) : FD := runF (B_sum_of C_Web) 2 [0, 1]
def B_check_life (g_is_within : FD) : FS :=
  (fIf (fNot (fB (fCall g_is_within (fConsO (fName 0) (fConsO (fC (.int 0)) (fConsO (fC (.int 300)) fNilO)))))) fNever fSkip)
def D_check_life (g_is_within : FD) : FD := runF (B_check_life g_is_within) 1 [0]
def B_check_liars (C_Web : Addr) (g_is_lot_below : FD) : FS :=
  (fIf (fOr (fNot (fB (fCall g_is_lot_below (fConsO (fName 1) (fConsO (fUn gLen (fUn (gAttr C_Web "keeps") (fName 0))) fNilO))))) (fB (fBin (gIn false) (fC (.int 0)) (fName 1)))) fNever fSkip)
def D_check_liars (C_Web : Addr) (g_is_lot_below : FD) : FD := runF (B_check_liars C_Web g_is_lot_below) 2 [0, 1]
def B_check_signed (g_check_web : FD) (g_check_life : FD) (g_check_liars : FD) : FS :=
  (fSeq (fDrop (fCall g_check_web (fConsO (fName 0) fNilO)))
  (fSeq (fDrop (fCall g_check_life (fConsO (fName 1) fNilO)))
  (fDrop (fCall g_check_liars (fConsO (fName 0) (fConsO (fName 2) fNilO))))))
def D_check_signed (g_check_web : FD) (g_check_life : FD) (g_check_liars : FD) : FD := runF (B_check_signed g_check_web g_check_life g_check_liars) 3 [0, 1, 2]
def B_worth_of : FS :=
  (fRet (fIfE (fB (fBin (gIn false) (fName 3) (fName 1))) (fName 0) (fBin gIx (fName 2) (fName 3))))
def D_worth_of : FD := runF (B_worth_of) 4 [0, 1, 2, 3]
def B_least_entry (g_sum_of : FD) (g_worth_of : FD) : FS :=
  (fRet (fBin gMin2 (fName 1) (fBin gAdd (fCall g_sum_of (fConsO (fName 0) (fConsO (fName 4) fNilO))) (fCall g_worth_of (fConsO (fName 1) (fConsO (fName 2) (fConsO (fName 3) (fConsO (fBin gIx (fName 4) (fC (.int 1))) fNilO))))))))
def D_least_entry (g_sum_of : FD) (g_worth_of : FD) : FD := runF (B_least_entry g_sum_of g_worth_of) 5 [0, 1, 2, 3, 4]
def B_signed_ages_of (C_Web : Addr) (g_reached_by : FD) (g_live_of : FD) (g_least_entry : FD) : FS :=
  (fSeq (fSet 3 (fCall g_reached_by (fConsO (fUn (gAttr C_Web "links") (fName 0)) fNilO)))
  (fSeq (fSet 4 (fLc [8] (fRng1 (fCons (fV (fUn gLen (fUn (gAttr C_Web "keeps") (fName 0)))) fNil)) (gSlot 8) fYes (fV (fIfE (fB (fBin (gIn false) (fName 8) (fName 3))) (fC (.int 0)) (fC .non)))))
  (fSeq (fPar 5 6 (fCall g_live_of (fConsO (fName 0) fNilO)) (fC (.bl true)))
  (fSeq (fWhile 1000000 (fB (fName 6)) (fSeq (fSet 6 (fC (.bl false)))
  (fFor (fSeqI (fV (fName 5))) (gSlot 7) (fSeq (fSet 9 (fCall g_least_entry (fConsO (fName 0) (fConsO (fName 1) (fConsO (fName 2) (fConsO (fName 4) (fConsO (fName 7) fNilO)))))))
  (fIf (fB (fBin gLt (fBin gIx (fName 4) (fBin gIx (fName 7) (fC (.int 0)))) (fName 9))) (fAsg (fV (fTup (fCons (fV (fName 9)) (fCons (fV (fC (.bl true))) fNil)))) (gTupl (gCons1 (gSubK 4 (fBin gIx (fName 7) (fC (.int 0)))) (gCons1 (gSlot 6) gEnd)))) fSkip)))))
  (fRet (fUn gTuple (fName 4)))))))
def D_signed_ages_of (C_Web : Addr) (g_reached_by : FD) (g_live_of : FD) (g_least_entry : FD) : FD := runF (B_signed_ages_of C_Web g_reached_by g_live_of g_least_entry) 10 [0, 1, 2]
def B_signed_ages (g_check_signed : FD) (g_signed_ages_of : FD) : FS :=
  (fSeq (fDrop (fCall g_check_signed (fConsO (fName 0) (fConsO (fName 1) (fConsO (fName 2) fNilO)))))
  (fRet (fCall g_signed_ages_of (fConsO (fName 0) (fConsO (fName 1) (fConsO (fName 2) fNilO))))))
def D_signed_ages (g_check_signed : FD) (g_signed_ages_of : FD) : FD := runF (B_signed_ages g_check_signed g_signed_ages_of) 3 [0, 1, 2]
def B_l_law_hand : FS :=
  (fSeq (fSet 1 (fLc [2] (fSeqI (fV (fSl (fName 0) fNoP (fPart (fC (.int 63)))))) (gSlot 2) fYes (fV (fBin gMod (fUn gInt (fUn gAbs (fUn gInt (fName 2)))) (fBin gPow (fC (.int 10)) (fC (.int 40)))))))
  (fRet (fLst (fCons (fV (fName 1)) (fCons (fV (fC (.int 0))) (fCons (fV (fC (.int 0))) (fCons (fV (fBin gAdd (fC (.int 9511)) (fBin gMul (fC (.int 13)) (fUn gLen (fName 1))))) (fCons (fV (fC (.int 0))) fNil))))))))
def D_l_law_hand : FD := runF (B_l_law_hand) 3 [0]
def B_l_law_draw : FS :=
  (fSeq (fIf (fAnd (fB (fBin gEq (fBin gIx (fName 0) (fC (.int 2))) (fC (.int 0)))) (fB (fBin gLt (fBin gIx (fName 0) (fC (.int 1))) (fUn gLen (fBin gIx (fName 0) (fC (.int 0))))))) (fSeq (fSet 3 (fBin gIx (fBin gIx (fName 0) (fC (.int 0))) (fBin gIx (fName 0) (fC (.int 1)))))
  (fSeq (fSetIx 0 (fV (fBin gAdd (fBin gIx (fName 0) (fC (.int 1))) (fC (.int 1)))) (fC (.int 1)))
  (fSeq (fSetIx 0 (fV (fBin gMod (fUn gInt (fBin gAdd (fBin gAdd (fBin gMul (fBin gIx (fName 0) (fC (.int 3))) (fC (.int 69621))) (fBin gMul (fName 3) (fC (.int 40692)))) (fC (.int 61)))) (fC (.int 2147483629)))) (fC (.int 3)))
  (fIf (fB (fBin gGe (fName 3) (fBin gPow (fC (.int 10)) (fC (.int 18))))) (fSetIx 0 (fV (fName 3)) (fC (.int 2))) fSkip)))) fSkip)
  (fSeq (fIf (fB (fBin gGt (fBin gIx (fName 0) (fC (.int 2))) (fC (.int 0)))) (fSeq (fSet 4 (fBin gMod (fUn gInt (fBin gIx (fName 0) (fC (.int 2)))) (fName 1)))
  (fSeq (fSetIx 0 (fV (fBin gFdiv (fBin gIx (fName 0) (fC (.int 2))) (fName 1))) (fC (.int 2)))
  (fRet (fName 4)))) fSkip)
  (fSeq (fSetIx 0 (fV (fBin gAdd (fBin gIx (fName 0) (fC (.int 4))) (fC (.int 1)))) (fC (.int 4)))
  (fSeq (fSet 2 (fBin gMod (fUn gInt (fBin gMul (fUn gInt (fBin gAdd (fBin gIx (fName 0) (fC (.int 3))) (fBin gMul (fC (.int 7919)) (fBin gIx (fName 0) (fC (.int 4)))))) (fC (.int 48271)))) (fC (.int 2147483647))))
  (fSeq (fSet 2 (fBin gMod (fUn gInt (fBin gMul (fName 2) (fBin gAdd (fBin gFdiv (fName 2) (fC (.int 1009))) (fC (.int 69621))))) (fC (.int 2147483647))))
  (fSeq (fSet 2 (fBin gMod (fUn gInt (fBin gMul (fName 2) (fBin gAdd (fBin gFdiv (fName 2) (fC (.int 2003))) (fC (.int 40692))))) (fC (.int 2147483399))))
  (fRet (fBin gMod (fUn gInt (fBin gFdiv (fName 2) (fC (.int 16)))) (fName 1)))))))))
def D_l_law_draw : FD := runF (B_l_law_draw) 5 [0, 1]
def B_l_law_ringed (C_Web : Addr) (g_l_law_draw : FD) (g_Web___init : FD) : FS :=
  (fSeq (fSet 2 (fBin gAdd (fC (.int 2)) (fCall g_l_law_draw (fConsO (fName 0) (fConsO (fC (.int 4)) fNilO)))))
  (fSeq (fPar 5 6 (fLst (fCons (fV (fC (.int 0))) fNil)) (fLst fNil))
  (fSeq (fFor (fRng1 (fCons (fV (fName 2)) fNil)) (gSlot 3) (fSeq (fDrop (fApp 5 (fV (fCall g_l_law_draw (fConsO (fName 0) (fConsO (fBin gAdd (fName 1) (fC (.int 1))) fNilO))))))
  (fDrop (fApp 6 (fV (fCall g_l_law_draw (fConsO (fName 0) (fConsO (fBin gAdd (fName 1) (fC (.int 1))) fNilO))))))))
  (fSeq (fSet 4 (fLst (fCons (fV (fTup (fCons (fV (fC (.int 1))) (fCons (fV (fC (.int 0))) (fCons (fV (fCall g_l_law_draw (fConsO (fName 0) (fConsO (fC (.int 5)) fNilO)))) fNil))))) (fCons (fV (fTup (fCons (fV (fBin gAdd (fName 2) (fC (.int 1)))) (fCons (fV (fBin gAdd (fC (.int 1)) (fCall g_l_law_draw (fConsO (fName 0) (fConsO (fName 2) fNilO))))) (fCons (fV (fCall g_l_law_draw (fConsO (fName 0) (fConsO (fC (.int 4)) fNilO)))) fNil))))) fNil))))
  (fSeq (fDrop (fExt 4 (fLc [3] (fRng2 (fCons (fV (fC (.int 1))) (fCons (fV (fBin gAdd (fName 2) (fC (.int 1)))) fNil))) (gSlot 3) fYes (fV (fTup (fCons (fV (fName 3)) (fCons (fV (fBin gAdd (fC (.int 1)) (fBin gMod (fUn gInt (fName 3)) (fName 2)))) (fCons (fV (fBin gIx (fName 6) (fBin gMinus (fName 3) (fC (.int 1))))) fNil))))))))
  (fRet (fFrz (fMake C_Web g_Web___init (fConsO (fBin gAdd (fC (.int 3)) (fCall g_l_law_draw (fConsO (fName 0) (fConsO (fC (.int 900)) fNilO)))) (fConsO (fC (.int 1)) (fConsO (fBin gAdd (fUn gTuple (fName 5)) (fTup (fCons (fV (fCall g_l_law_draw (fConsO (fName 0) (fConsO (fC (.int 4)) fNilO)))) fNil))) (fConsO (fUn gTuple (fUn gSorted (fName 4))) fNilO))))))))))))
def D_l_law_ringed (C_Web : Addr) (g_l_law_draw : FD) (g_Web___init : FD) : FD := runF (B_l_law_ringed C_Web g_l_law_draw g_Web___init) 7 [0, 1]
def B_l_law_is_right (C_Web : Addr) (g_l_law_draw : FD) (g_signed_ages : FD) : FS :=
  (fSeq (fPar 5 6 (fBin gMinus (fUn gLen (fUn (gAttr C_Web "keeps") (fName 1))) (fC (.int 2))) (fBin gAdd (fBin gIx (fBin gIx (fUn (gAttr C_Web "links") (fName 1)) (fC (.int 0))) (fC (.int 2))) (fBin gIx (fUn (gAttr C_Web "keeps") (fName 1)) (fC (.int 1)))))
  (fSeq (fSet 2 (fBin gGt (fBin gAdd (fUn gSumA (fSl (fUn (gAttr C_Web "keeps") (fName 1)) (fPart (fC (.int 1))) (fPart (fUn gNeg (fC (.int 1)))))) (fUn gSumA (fLc [9] (fSeqI (fV (fSl (fUn (gAttr C_Web "links") (fName 1)) (fPart (fC (.int 1))) (fPart (fUn gNeg (fC (.int 1))))))) (gSlot 9) fYes (fV (fBin gIx (fName 9) (fC (.int 2))))))) (fC (.int 0))))
  (fSeq (fSet 3 (fBin gAdd (fBin gIx (fBin gIx (fUn (gAttr C_Web "links") (fName 1)) (fUn gNeg (fC (.int 1)))) (fC (.int 2))) (fBin gIx (fUn (gAttr C_Web "keeps") (fName 1)) (fUn gNeg (fC (.int 1))))))
  (fSeq (fFor (fSeqI (fV (fTup (fCons (fV (fC (.int 0))) (fCons (fV (fC (.int 1))) (fCons (fV (fCall g_l_law_draw (fConsO (fName 0) (fConsO (fC (.int 300)) fNilO)))) (fCons (fV (fC (.int 300))) fNil))))))) (gSlot 4) (fSeq (fSet 7 (fIfE (fB (fName 2)) (fName 4) (fBin gMin2 (fName 4) (fName 6))))
  (fSeq (fSet 8 (fBin gAdd (fBin gAdd (fTup (fCons (fV (fC (.int 0))) fNil)) (fBin gMul (fTup (fCons (fV (fName 7)) fNil)) (fName 5))) (fTup (fCons (fV (fBin gMin2 (fName 4) (fBin gAdd (fName 7) (fName 3)))) fNil))))
  (fIf (fB (fBin gNe (fUn gRepr (fCall g_signed_ages (fConsO (fName 1) (fConsO (fName 4) (fConsO (fTup fNil) fNilO))))) (fUn gRepr (fName 8)))) (fRet (fC (.bl false))) fSkip))))
  (fRet (fC (.bl true)))))))
def D_l_law_is_right (C_Web : Addr) (g_l_law_draw : FD) (g_signed_ages : FD) : FD := runF (B_l_law_is_right C_Web g_l_law_draw g_signed_ages) 10 [0, 1]
def B_law (C_Web : Addr) (g_l_law_hand : FD) (g_Web___init : FD) (g_signed_ages : FD) (g_l_law_is_right : FD) (g_l_law_ringed : FD) : FS :=
  (fSeq (fSet 1 (fCall g_l_law_hand (fConsO (fName 0) fNilO)))
  (fSeq (fSet 2 (fFrz (fMake C_Web g_Web___init (fConsO (fC (.int 900)) (fConsO (fC (.int 1)) (fConsO (fTup (fCons (fV (fC (.int 0))) (fCons (fV (fC (.int 0))) (fCons (fV (fC (.int 0))) (fCons (fV (fC (.int 0))) fNil))))) (fConsO (fTup (fCons (fV (fTup (fCons (fV (fC (.int 1))) (fCons (fV (fC (.int 0))) (fCons (fV (fC (.int 0))) fNil))))) (fCons (fV (fTup (fCons (fV (fC (.int 1))) (fCons (fV (fC (.int 3))) (fCons (fV (fC (.int 0))) fNil))))) (fCons (fV (fTup (fCons (fV (fC (.int 2))) (fCons (fV (fC (.int 1))) (fCons (fV (fC (.int 0))) fNil))))) (fCons (fV (fTup (fCons (fV (fC (.int 3))) (fCons (fV (fC (.int 2))) (fCons (fV (fC (.int 1))) fNil))))) fNil))))) fNilO)))))))
  (fSeq (fIf (fOr (fB (fBin gNe (fCall g_signed_ages (fConsO (fName 2) (fConsO (fC (.int 300)) (fConsO (fTup fNil) fNilO)))) (fTup (fCons (fV (fC (.int 0))) (fCons (fV (fC (.int 300))) (fCons (fV (fC (.int 300))) (fCons (fV (fC (.int 300))) fNil))))))) (fB (fBin gNe (fCall g_signed_ages (fConsO (fName 2) (fConsO (fC (.int 299)) (fConsO (fTup (fCons (fV (fC (.int 2))) fNil)) fNilO)))) (fTup (fCons (fV (fC (.int 0))) (fCons (fV (fC (.int 299))) (fCons (fV (fC (.int 299))) (fCons (fV (fC (.int 299))) fNil)))))))) (fRet (fC (.bl false))) fSkip)
  (fSeq (fFor (fRng1 (fCons (fV (fC (.int 5))) fNil)) (gSlot 3) (fIf (fOr (fNot (fB (fCall g_l_law_is_right (fConsO (fName 1) (fConsO (fCall g_l_law_ringed (fConsO (fName 1) (fConsO (fC (.int 0)) fNilO))) fNilO))))) (fNot (fB (fCall g_l_law_is_right (fConsO (fName 1) (fConsO (fCall g_l_law_ringed (fConsO (fName 1) (fConsO (fC (.int 3)) fNilO))) fNilO)))))) (fRet (fC (.bl false))) fSkip))
  (fRet (fC (.bl true)))))))
def D_law (C_Web : Addr) (g_l_law_hand : FD) (g_Web___init : FD) (g_signed_ages : FD) (g_l_law_is_right : FD) (g_l_law_ringed : FD) : FD := runF (B_law C_Web g_l_law_hand g_Web___init g_signed_ages g_l_law_is_right g_l_law_ringed) 4 [0]
section
variable {P : Program} {w : World} {K : PySem.W.Frag} {mg : Str → Option Value} {base : Heap}
set_option maxHeartbeats 4000000 in
theorem ok_is_integer {C_Web : Addr} {f : Addr} {fd : FuncData} (Fn : Fun K "is_integer" "is_integer" s_is_integer f fd) (T : Txt K mg C_Web) :
    FnG P w K mg base 1 f fd ["thing"] (spD K 1 (D_is_integer)) := by
  exact fn_den [0] Fn sc_is_integer (by decide) fun cdv A outer s H E hr hgd =>
  (ds_one (ds_ret (de_and (dx_is kit_int T.m_isinstance T.m_int (de_name 0) (pe_bltn (v := .ty "int") (by rfl) T.m_int (by decide +kernel) rfl)) (de_one (de_not (dx_is kit_bool T.m_isinstance T.m_bool (de_name 0) (pe_bltn (v := .ty "bool") (by rfl) T.m_bool (by decide +kernel) rfl)))))))
set_option maxHeartbeats 4000000 in
theorem ok_is_within {C_Web : Addr} {f : Addr} {fd : FuncData} (Fn : Fun K "is_within" "is_within" s_is_within f fd) (T : Txt K mg C_Web) {g_is_integer : FD} (d_is_integer : Def P w K mg base 1 1 "is_integer" g_is_integer) :
    FnG P w K mg base 2 f fd ["thing", "low", "high"] (spD K 3 (D_is_within g_is_integer)) := by
  exact fn_den [0, 1, 2] Fn sc_is_within (by decide) fun cdv A outer s H E hr hgd =>
  (ds_one (ds_ret (de_and (de_call d_is_integer (hr.mono (by decide)) hgd (do_cons (de_name 0) do_nil) (ops_cons ops_nil)) (de_one (de_chain (op_leA (hu64 hr)) (op_leA (hu64 hr)) bi_le bi_le (de_name 1) (de_name 0) (de_name 2))))))
set_option maxHeartbeats 4000000 in
theorem ok_is_tuple {C_Web : Addr} {f : Addr} {fd : FuncData} (Fn : Fun K "is_tuple" "is_tuple" s_is_tuple f fd) (T : Txt K mg C_Web) :
    FnG P w K mg base 1 f fd ["thing", "low", "high"] (spD K 3 (D_is_tuple)) := by
  exact fn_den [0, 1, 2] Fn sc_is_tuple (by decide) fun cdv A outer s H E hr hgd =>
  (ds_one (ds_ret (de_and (dx_is kit_tuple T.m_isinstance T.m_tuple (de_name 0) (pe_bltn (v := .ty "tuple") (by rfl) T.m_tuple (by decide +kernel) rfl)) (de_one (de_chain (op_leA (hu64 hr)) (op_leA (hu64 hr)) bi_le bi_le (de_name 1) (de_call1 call_len_seq un_len T.m_len (de_name 0)) (de_name 2))))))
set_option maxHeartbeats 4000000 in
theorem ok_do_ascend {C_Web : Addr} {f : Addr} {fd : FuncData} (Fn : Fun K "do_ascend" "do_ascend" s_do_ascend f fd) (T : Txt K mg C_Web) :
    FnG P w K mg base 1 f fd ["things"] (spD K 1 (D_do_ascend)) := by
  exact fn_den [0] Fn sc_do_ascend (by decide) fun cdv A outer s H E hr hgd =>
  (ds_one (ds_ret (de_call1 (cr_all rfl) un_all T.m_all (de_lc (own := [("one", 1), ("other", 2)]) rfl sc_do_ascend.nd (di_zip T.m_zip (dl_cons (de_name 0) (dl_cons (de_slice (de_name 0) (dp_some de_int) dp_none) dl_nil))) (blkOk_by (N := ["things", "one", "other"]) (sc := defScope s_do_ascend) (by decide +kernel)) (fun _ _ _ _ _ => (dg_pair rfl (dgs_cons (dg_name 1 sc_do_ascend.nd) (dgs_cons (dg_name 2 sc_do_ascend.nd) dgs_nil)) (gs_cons (gs_cons gs_nil)))) (fun _ _ _ _ _ => dts_nil) (fun _ _ _ _ _ => (de_cmp (op_ltA (hu64 hr)) bi_lt (de_name 1) (de_name 2))) (by decide) (by decide)))))
set_option maxHeartbeats 4000000 in
theorem ok_is_lot_below {C_Web : Addr} {f : Addr} {fd : FuncData} (Fn : Fun K "is_lot_below" "is_lot_below" s_is_lot_below f fd) (T : Txt K mg C_Web) {g_is_within : FD} (d_is_within : Def P w K mg base 2 3 "is_within" g_is_within) {g_do_ascend : FD} (d_do_ascend : Def P w K mg base 1 1 "do_ascend" g_do_ascend) :
    FnG P w K mg base 3 f fd ["thing", "most"] (spD K 2 (D_is_lot_below g_is_within g_do_ascend)) := by
  exact fn_den [0, 1] Fn sc_is_lot_below (by decide) fun cdv A outer s H E hr hgd =>
  (ds_one (ds_ret (de_and (dx_is kit_tuple T.m_isinstance T.m_tuple (de_name 0) (pe_bltn (v := .ty "tuple") (by rfl) T.m_tuple (by decide +kernel) rfl)) (de_and (de_call1 (cr_all rfl) un_all T.m_all (de_lc (own := [("one", 2)]) rfl sc_is_lot_below.nd (di_seq (de_name 0)) (blkOk_by (N := ["thing", "most", "one"]) (sc := defScope s_is_lot_below) (by decide +kernel)) (fun _ _ _ _ _ => (dg_name 2 sc_is_lot_below.nd)) (fun _ _ _ _ _ => dts_nil) (fun _ _ _ _ _ => (de_call d_is_within (hr.mono (by decide)) hgd (do_cons (de_name 2) (do_cons de_int (do_cons (de_bin op_sub bi_sub (de_name 1) de_int) do_nil))) (ops_cons (ops_cons (ops_cons ops_nil))))) (by decide) (by decide))) (de_one (de_call d_do_ascend (hr.mono (by decide)) hgd (do_cons (de_name 0) do_nil) (ops_cons ops_nil)))))))
set_option maxHeartbeats 4000000 in
theorem ok_keeps_fault {C_Web : Addr} {f : Addr} {fd : FuncData} (Fn : Fun K "keeps_fault" "keeps_fault" s_keeps_fault f fd) (T : Txt K mg C_Web) {g_is_tuple : FD} (d_is_tuple : Def P w K mg base 1 3 "is_tuple" g_is_tuple) {g_is_within : FD} (d_is_within : Def P w K mg base 2 3 "is_within" g_is_within) :
    FnG P w K mg base 3 f fd ["keeps"] (spD K 1 (D_keeps_fault g_is_tuple g_is_within)) := by
  obtain ⟨_, c_MOST_KEEP⟩ := T.c_MOST_KEEP
  obtain ⟨_, c_MOST_PLACES⟩ := T.c_MOST_PLACES
  exact fn_den [0] Fn sc_keeps_fault (by decide) fun cdv A outer s H E hr hgd =>
  (ds_cons (ds_if (dt_not (dt_val (de_call d_is_tuple (hr.mono (by decide)) hgd (do_cons (de_name 0) (do_cons de_int (do_cons (de_gint c_MOST_PLACES) do_nil))) (ops_cons (ops_cons (ops_cons ops_nil)))))) (ds_one (ds_ret (de_unop un_neg un_gNeg de_int))) ds_nil)
  (ds_cons (ds_for PassesOwn.never rfl (di_enum T.m_enumerate (dl_cons (de_name 0) dl_nil)) (dg_pair rfl (dgs_cons (dg_name 1 sc_keeps_fault.nd) (dgs_cons (dg_name 2 sc_keeps_fault.nd) dgs_nil)) (gs_cons (gs_cons gs_nil))) (ds_one (ds_if (dt_not (dt_val (de_call d_is_within (hr.mono (by decide)) hgd (do_cons (de_name 2) (do_cons de_int (do_cons (de_ifExp (dt_cmp (op_gtA (hu64 hr)) bi_gt (de_name 1) de_int) (de_gint c_MOST_KEEP) de_int) do_nil))) (ops_cons (ops_cons (ops_cons ops_nil)))))) (ds_one (ds_ret (de_name 1))) ds_nil)))
  (ds_one (ds_ret de_non))))
set_option maxHeartbeats 4000000 in
theorem ok_is_link_of {C_Web : Addr} {f : Addr} {fd : FuncData} (Fn : Fun K "is_link_of" "is_link_of" s_is_link_of f fd) (T : Txt K mg C_Web) {g_is_tuple : FD} (d_is_tuple : Def P w K mg base 1 3 "is_tuple" g_is_tuple) {g_is_within : FD} (d_is_within : Def P w K mg base 2 3 "is_within" g_is_within) :
    FnG P w K mg base 3 f fd ["many", "thing"] (spD K 2 (D_is_link_of g_is_tuple g_is_within)) := by
  obtain ⟨_, c_MOST_LATE⟩ := T.c_MOST_LATE
  exact fn_den [0, 1] Fn sc_is_link_of (by decide) fun cdv A outer s H E hr hgd =>
  (ds_cons (ds_if (dw_or (dt_not (dt_val (de_call d_is_tuple (hr.mono (by decide)) hgd (do_cons (de_name 1) (do_cons de_int (do_cons de_int do_nil))) (ops_cons (ops_cons (ops_cons ops_nil)))))) (dw_or (dt_not (dt_val (de_call d_is_within (hr.mono (by decide)) hgd (do_cons (de_ix ix_seq bi_ix (de_name 1) de_int) (do_cons de_int (do_cons (de_bin op_sub bi_sub (de_name 0) de_int) do_nil))) (ops_cons (ops_cons (ops_cons ops_nil)))))) (dw_or1 (dt_not (dt_val (de_call d_is_within (hr.mono (by decide)) hgd (do_cons (de_ix ix_seq bi_ix (de_name 1) de_int) (do_cons de_int (do_cons (de_bin op_sub bi_sub (de_name 0) de_int) do_nil))) (ops_cons (ops_cons (ops_cons ops_nil))))))))).pt (ds_one (ds_ret de_bl)) ds_nil)
  (ds_one (ds_ret (de_and (de_cmp (op_neA (hu64 hr)) bi_ne (de_ix ix_seq bi_ix (de_name 1) de_int) (de_ix ix_seq bi_ix (de_name 1) de_int)) (de_one (de_call d_is_within (hr.mono (by decide)) hgd (do_cons (de_ix ix_seq bi_ix (de_name 1) de_int) (do_cons de_int (do_cons (de_gint c_MOST_LATE) do_nil))) (ops_cons (ops_cons (ops_cons ops_nil)))))))))
set_option maxHeartbeats 4000000 in
theorem ok_links_fault {C_Web : Addr} {f : Addr} {fd : FuncData} (Fn : Fun K "links_fault" "links_fault" s_links_fault f fd) (T : Txt K mg C_Web) {g_is_tuple : FD} (d_is_tuple : Def P w K mg base 1 3 "is_tuple" g_is_tuple) {g_is_link_of : FD} (d_is_link_of : Def P w K mg base 3 2 "is_link_of" g_is_link_of) :
    FnG P w K mg base 4 f fd ["many", "links"] (spD K 2 (D_links_fault g_is_tuple g_is_link_of)) := by
  obtain ⟨_, c_MOST_LINKS⟩ := T.c_MOST_LINKS
  exact fn_den [0, 1] Fn sc_links_fault (by decide) fun cdv A outer s H E hr hgd =>
  (ds_cons (ds_if (dt_not (dt_val (de_call d_is_tuple (hr.mono (by decide)) hgd (do_cons (de_name 1) (do_cons de_int (do_cons (de_gint c_MOST_LINKS) do_nil))) (ops_cons (ops_cons (ops_cons ops_nil)))))) (ds_one (ds_ret (de_unop un_neg un_gNeg de_int))) ds_nil)
  (ds_cons (ds_for PassesOwn.never rfl (di_enum T.m_enumerate (dl_cons (de_name 1) dl_nil)) (dg_pair rfl (dgs_cons (dg_name 2 sc_links_fault.nd) (dgs_cons (dg_name 3 sc_links_fault.nd) dgs_nil)) (gs_cons (gs_cons gs_nil))) (ds_one (ds_if (dw_or (dt_not (dt_val (de_call d_is_link_of (hr.mono (by decide)) hgd (do_cons (de_name 0) (do_cons (de_name 3) do_nil)) (ops_cons (ops_cons ops_nil))))) (dw_or1 (dw_and (dt_cmp (op_gtA (hu64 hr)) bi_gt (de_name 2) de_int) (dw_and1 (dt_cmp (op_geA (hu64 hr)) bi_ge (de_slice (de_ix ix_seq bi_ix (de_name 1) (de_bin op_sub bi_sub (de_name 2) de_int)) dp_none (dp_some de_int)) (de_slice (de_name 3) dp_none (dp_some de_int))))).pt)).pt (ds_one (ds_ret (de_name 2))) ds_nil)))
  (ds_one (ds_ret de_non))))
set_option maxHeartbeats 4000000 in
theorem ok_Web___init {C_Web : Addr} {f : Addr} {fd : FuncData} (Fn : Fun K "__init__" "Web.__init__" s_Web___init f fd) (T : Txt K mg C_Web) {g_is_within : FD} (d_is_within : Def P w K mg base 2 3 "is_within" g_is_within) {g_keeps_fault : FD} (d_keeps_fault : Def P w K mg base 3 1 "keeps_fault" g_keeps_fault) {g_links_fault : FD} (d_links_fault : Def P w K mg base 4 2 "links_fault" g_links_fault) :
    FnG P w K mg base 5 f fd ["self", "circle", "growth", "keeps", "links"] (spD K 5 (D_Web___init C_Web g_is_within g_keeps_fault g_links_fault)) := by
  obtain ⟨_, c_LEAST_CIRCLE⟩ := T.c_LEAST_CIRCLE
  obtain ⟨_, c_MOST_CIRCLE⟩ := T.c_MOST_CIRCLE
  obtain ⟨_, c_MOST_GROWTH⟩ := T.c_MOST_GROWTH
  exact fn_den [0, 1, 2, 3, 4] Fn sc_Web___init (by decide) fun cdv A outer s H E hr hgd =>
  (ds_cons (ds_if (dt_not (dt_val (de_call d_is_within (hr.mono (by decide)) hgd (do_cons (de_name 1) (do_cons (de_gint c_LEAST_CIRCLE) (do_cons (de_gint c_MOST_CIRCLE) do_nil))) (ops_cons (ops_cons (ops_cons ops_nil)))))) (ds_one ds_never) ds_nil)
  (ds_cons (ds_if (dt_not (dt_val (de_call d_is_within (hr.mono (by decide)) hgd (do_cons (de_name 2) (do_cons de_int (do_cons (de_gint c_MOST_GROWTH) do_nil))) (ops_cons (ops_cons (ops_cons ops_nil)))))) (ds_one ds_never) ds_nil)
  (ds_cons (ds_set 5 sc_Web___init.nd (de_call d_keeps_fault (hr.mono (by decide)) hgd (do_cons (de_name 3) do_nil) (ops_cons ops_nil)))
  (ds_cons (ds_if (dt_cmp op_notN bi_notN (de_name 5) de_non) (ds_one ds_never) ds_nil)
  (ds_cons (ds_set 5 sc_Web___init.nd (de_call d_links_fault (hr.mono (by decide)) hgd (do_cons (de_call1 call_len_seq un_len T.m_len (de_name 3)) (do_cons (de_name 4) do_nil)) (ops_cons (ops_cons ops_nil))))
  (ds_cons (ds_if (dt_cmp op_notN bi_notN (de_name 5) de_non) (ds_one ds_never) ds_nil)
  (ds_cons (dx_setF 0 T.cl_Web T.n_Web_circle (de_name 1))
  (ds_cons (dx_setF 0 T.cl_Web T.n_Web_growth (de_name 2))
  (ds_cons (dx_setF 0 T.cl_Web T.n_Web_keeps (de_name 3))
  (ds_one (dx_setF 0 T.cl_Web T.n_Web_links (de_name 4))))))))))))
set_option maxHeartbeats 4000000 in
theorem ok_check_web {C_Web : Addr} {f : Addr} {fd : FuncData} (Fn : Fun K "check_web" "check_web" s_check_web f fd) (T : Txt K mg C_Web) :
    FnG P w K mg base 1 f fd ["web"] (spD K 1 (D_check_web C_Web)) := by
  exact fn_den [0] Fn sc_check_web (by decide) fun cdv A outer s H E hr hgd =>
  (ds_one (ds_if (dt_not (dt_val (de_callC (C8.call_isC T.i_Web) un_isC T.m_isinstance (de_name 0) (pe_glob (v := .ref C_Web) (by rfl) T.g_Web rfl)))) (ds_one ds_never) ds_nil))
set_option maxHeartbeats 4000000 in
theorem ok_reached_by {C_Web : Addr} {f : Addr} {fd : FuncData} (Fn : Fun K "reached_by" "reached_by" s_reached_by f fd) (T : Txt K mg C_Web) {g_reached_from : FD} (d_reached_from : Def P w K mg base 1 2 "reached_from" g_reached_from) :
    FnG P w K mg base 2 f fd ["links"] (spD K 1 (D_reached_by g_reached_from)) := by
  obtain ⟨_, c_SOURCE⟩ := T.c_SOURCE
  exact fn_den [0] Fn sc_reached_by (by decide) fun cdv A outer s H E hr hgd =>
  (ds_one (ds_ret (de_call d_reached_from (hr.mono (by decide)) hgd (do_cons (de_name 0) (do_cons (de_lst (dl_cons (de_gint c_SOURCE) dl_nil)) do_nil)) (ops_cons (ops_cons ops_nil)))))
set_option maxHeartbeats 4000000 in
theorem ok_reached_from {C_Web : Addr} {f : Addr} {fd : FuncData} (Fn : Fun K "reached_from" "reached_from" s_reached_from f fd) (T : Txt K mg C_Web) :
    FnG P w K mg base 1 f fd ["links", "found"] (spD K 2 (D_reached_from)) := by
  exact fn_den [0] Fn sc_reached_from (by decide) fun cdv A outer s H E hr hgd =>
  (ds_cons (ds_set 2 sc_reached_from.nd de_int)
  (ds_cons (ds_while 1000000 PassesOwn.never (dt_cmp (op_ltA (hu64 hr)) bi_lt (de_name 2) (de_call1 call_len_seq un_len T.m_len (de_name 1))) (ds_cons (ds_for PassesOwn.never rfl (di_seq (de_name 0)) (dg_name 3 sc_reached_from.nd) (ds_one (ds_if (dw_and (dt_cmp (op_eqA (hu64 hr)) bi_eq (de_ix ix_seq bi_ix (de_name 3) de_int) (de_ix ix_seq bi_ix (de_name 1) (de_name 2))) (dw_and1 (dt_cmp (op_notInA (hu65 hr)) bi_notIn (de_ix ix_seq bi_ix (de_name 3) de_int) (de_name 1)))).pt (ds_one (ds_set 1 sc_reached_from.nd (de_bin op_addA bi_add (de_name 1) (de_lst (dl_cons (de_ix ix_seq bi_ix (de_name 3) de_int) dl_nil))))) ds_nil)))
  (ds_one (ds_set 2 sc_reached_from.nd (de_bin op_addA bi_add (de_name 2) de_int)))))
  (ds_one (ds_ret (de_call1 (call_sortD' (hu64 hr)) un_sorted T.m_sorted (de_name 1))))))
set_option maxHeartbeats 4000000 in
theorem ok_live_of {C_Web : Addr} {f : Addr} {fd : FuncData} (Fn : Fun K "live_of" "live_of" s_live_of f fd) (T : Txt K mg C_Web) {g_reached_by : FD} (d_reached_by : Def P w K mg base 2 1 "reached_by" g_reached_by) :
    FnG P w K mg base 3 f fd ["web"] (spD K 1 (D_live_of C_Web g_reached_by)) := by
  exact fn_den [0] Fn sc_live_of (by decide) fun cdv A outer s H E hr hgd =>
  (ds_cons (ds_set 1 sc_live_of.nd (de_call d_reached_by (hr.mono (by decide)) hgd (do_cons (de_attr T.cl_Web T.n_Web_links (de_name 0)) do_nil) (ops_cons ops_nil)))
  (ds_one (ds_ret (de_callT1 call_tuple_of un_tuple T.m_tuple (de_lc (own := [("link", 2)]) rfl sc_live_of.nd (di_seq (de_attr T.cl_Web T.n_Web_links (de_name 0))) (blkOk_by (N := ["web", "found", "link"]) (sc := defScope s_live_of) (by decide +kernel)) (fun _ _ _ _ _ => (dg_name 2 sc_live_of.nd)) (fun _ _ _ _ _ => (dts_one (dt_cmp (op_inA (hu65 hr)) bi_in (de_ix ix_seq bi_ix (de_name 2) de_int) (de_name 1)))) (fun _ _ _ _ _ => (de_name 2)) (by decide) (by decide))))))
set_option maxHeartbeats 4000000 in
theorem ok_sum_of {C_Web : Addr} {f : Addr} {fd : FuncData} (Fn : Fun K "sum_of" "sum_of" s_sum_of f fd) (T : Txt K mg C_Web) :
    FnG P w K mg base 1 f fd ["web", "link"] (spD K 2 (D_sum_of C_Web)) := by
  exact fn_den [0, 1] Fn sc_sum_of (by decide) fun cdv A outer s H E hr hgd =>
  (ds_one (ds_ret (de_bin op_addA bi_add (de_ix ix_seq bi_ix (de_name 1) de_int) (de_ix ix_seq bi_ix (de_attr T.cl_Web T.n_Web_keeps (de_name 0)) (de_ix ix_seq bi_ix (de_name 1) de_int)))))
set_option maxHeartbeats 4000000 in
theorem ok_check_life {C_Web : Addr} {f : Addr} {fd : FuncData} (Fn : Fun K "check_life" "check_life" s_check_life f fd) (T : Txt K mg C_Web) {g_is_within : FD} (d_is_within : Def P w K mg base 2 3 "is_within" g_is_within) :
    FnG P w K mg base 3 f fd ["life"] (spD K 1 (D_check_life g_is_within)) := by
  obtain ⟨_, c_MOST_LIFE⟩ := T.c_MOST_LIFE
  exact fn_den [0] Fn sc_check_life (by decide) fun cdv A outer s H E hr hgd =>
  (ds_one (ds_if (dt_not (dt_val (de_call d_is_within (hr.mono (by decide)) hgd (do_cons (de_name 0) (do_cons de_int (do_cons (de_gint c_MOST_LIFE) do_nil))) (ops_cons (ops_cons (ops_cons ops_nil)))))) (ds_one ds_never) ds_nil))
set_option maxHeartbeats 4000000 in
theorem ok_check_liars {C_Web : Addr} {f : Addr} {fd : FuncData} (Fn : Fun K "check_liars" "check_liars" s_check_liars f fd) (T : Txt K mg C_Web) {g_is_lot_below : FD} (d_is_lot_below : Def P w K mg base 3 2 "is_lot_below" g_is_lot_below) :
    FnG P w K mg base 4 f fd ["web", "liars"] (spD K 2 (D_check_liars C_Web g_is_lot_below)) := by
  obtain ⟨_, c_SOURCE⟩ := T.c_SOURCE
  exact fn_den [0, 1] Fn sc_check_liars (by decide) fun cdv A outer s H E hr hgd =>
  (ds_one (ds_if (dw_or (dt_not (dt_val (de_call d_is_lot_below (hr.mono (by decide)) hgd (do_cons (de_name 1) (do_cons (de_call1 call_len_seq un_len T.m_len (de_attr T.cl_Web T.n_Web_keeps (de_name 0))) do_nil)) (ops_cons (ops_cons ops_nil))))) (dw_or1 (dt_cmp (op_inA (hu65 hr)) bi_in (de_gint c_SOURCE) (de_name 1)))).pt (ds_one ds_never) ds_nil))
set_option maxHeartbeats 4000000 in
theorem ok_check_signed {C_Web : Addr} {f : Addr} {fd : FuncData} (Fn : Fun K "check_signed" "check_signed" s_check_signed f fd) (T : Txt K mg C_Web) {g_check_web : FD} (d_check_web : Def P w K mg base 1 1 "check_web" g_check_web) {g_check_life : FD} (d_check_life : Def P w K mg base 3 1 "check_life" g_check_life) {g_check_liars : FD} (d_check_liars : Def P w K mg base 4 2 "check_liars" g_check_liars) :
    FnG P w K mg base 5 f fd ["web", "life", "liars"] (spD K 3 (D_check_signed g_check_web g_check_life g_check_liars)) := by
  exact fn_den [0, 1, 2] Fn sc_check_signed (by decide) fun cdv A outer s H E hr hgd =>
  (ds_cons (ds_expr (de_call d_check_web (hr.mono (by decide)) hgd (do_cons (de_name 0) do_nil) (ops_cons ops_nil)))
  (ds_cons (ds_expr (de_call d_check_life (hr.mono (by decide)) hgd (do_cons (de_name 1) do_nil) (ops_cons ops_nil)))
  (ds_one (ds_expr (de_call d_check_liars (hr.mono (by decide)) hgd (do_cons (de_name 0) (do_cons (de_name 2) do_nil)) (ops_cons (ops_cons ops_nil)))))))
set_option maxHeartbeats 4000000 in
theorem ok_worth_of {C_Web : Addr} {f : Addr} {fd : FuncData} (Fn : Fun K "worth_of" "worth_of" s_worth_of f fd) (T : Txt K mg C_Web) :
    FnG P w K mg base 1 f fd ["life", "liars", "entries", "place"] (spD K 4 (D_worth_of)) := by
  exact fn_den [0, 1, 2, 3] Fn sc_worth_of (by decide) fun cdv A outer s H E hr hgd =>
  (ds_one (ds_ret (de_ifExp (dt_cmp (op_inA (hu65 hr)) bi_in (de_name 3) (de_name 1)) (de_name 0) (de_ix ix_seq bi_ix (de_name 2) (de_name 3)))))
set_option maxHeartbeats 4000000 in
theorem ok_least_entry {C_Web : Addr} {f : Addr} {fd : FuncData} (Fn : Fun K "least_entry" "least_entry" s_least_entry f fd) (T : Txt K mg C_Web) {g_sum_of : FD} (d_sum_of : Def P w K mg base 1 2 "sum_of" g_sum_of) {g_worth_of : FD} (d_worth_of : Def P w K mg base 1 4 "worth_of" g_worth_of) :
    FnG P w K mg base 2 f fd ["web", "life", "liars", "entries", "link"] (spD K 5 (D_least_entry g_sum_of g_worth_of)) := by
  exact fn_den [0, 1, 2, 3, 4] Fn sc_least_entry (by decide) fun cdv A outer s H E hr hgd =>
  (ds_one (ds_ret (de_call2 (call_min2 rfl) bi_min2 T.m_min (de_name 1) (de_bin op_addA bi_add (de_call d_sum_of (hr.mono (by decide)) hgd (do_cons (de_name 0) (do_cons (de_name 4) do_nil)) (ops_cons (ops_cons ops_nil))) (de_call d_worth_of (hr.mono (by decide)) hgd (do_cons (de_name 1) (do_cons (de_name 2) (do_cons (de_name 3) (do_cons (de_ix ix_seq bi_ix (de_name 4) de_int) do_nil)))) (ops_cons (ops_cons (ops_cons (ops_cons ops_nil)))))))))
set_option maxHeartbeats 4000000 in
theorem ok_signed_ages_of {C_Web : Addr} {f : Addr} {fd : FuncData} (Fn : Fun K "signed_ages_of" "signed_ages_of" s_signed_ages_of f fd) (T : Txt K mg C_Web) {g_reached_by : FD} (d_reached_by : Def P w K mg base 2 1 "reached_by" g_reached_by) {g_live_of : FD} (d_live_of : Def P w K mg base 3 1 "live_of" g_live_of) {g_least_entry : FD} (d_least_entry : Def P w K mg base 2 5 "least_entry" g_least_entry) :
    FnG P w K mg base 4 f fd ["web", "life", "liars"] (spD K 3 (D_signed_ages_of C_Web g_reached_by g_live_of g_least_entry)) := by
  exact fn_den [0, 1, 2] Fn sc_signed_ages_of (by decide) fun cdv A outer s H E hr hgd =>
  (ds_cons (ds_set 3 sc_signed_ages_of.nd (de_call d_reached_by (hr.mono (by decide)) hgd (do_cons (de_attr T.cl_Web T.n_Web_links (de_name 0)) do_nil) (ops_cons ops_nil)))
  (ds_cons (ds_setLc 4 (own := [("place", 8)]) rfl sc_signed_ages_of.nd (di_rng1 T.m_range (dl_cons (de_call1 call_len_seq un_len T.m_len (de_attr T.cl_Web T.n_Web_keeps (de_name 0))) dl_nil)) (blkOk_by (N := ["web", "life", "liars", "found", "entries", "links", "has_grown", "link", "place", "least"]) (sc := defScope s_signed_ages_of) (by decide +kernel)) (fun _ _ _ _ _ => (dg_name 8 sc_signed_ages_of.nd)) (fun _ _ _ _ _ => dts_nil) (fun _ _ _ _ _ => (de_ifExp (dt_cmp (op_inA (hu65 hr)) bi_in (de_name 8) (de_name 3)) de_int de_non)) (by decide) (by decide) (by decide) (sw_true rfl rfl rfl (by decide +kernel)))
  (ds_cons (dx_par 5 6 rfl sc_signed_ages_of.nd (de_call d_live_of (hr.mono (by decide)) hgd (do_cons (de_name 0) do_nil) (ops_cons ops_nil)) de_bl (h := fun ha => ps_par rfl sc_signed_ages_of.nd rfl rfl (by decide) rfl rfl ha (by rfl)))
  (ds_cons (ds_while 1000000 PassesOwn.never (dt_val (de_name 6)) (ds_cons (ds_set 6 sc_signed_ages_of.nd de_bl)
  (ds_one (ds_for PassesOwn.never rfl (di_seq (de_name 5)) (dg_name 7 sc_signed_ages_of.nd) (ds_cons (ds_set 9 sc_signed_ages_of.nd (de_call d_least_entry (hr.mono (by decide)) hgd (do_cons (de_name 0) (do_cons (de_name 1) (do_cons (de_name 2) (do_cons (de_name 4) (do_cons (de_name 7) do_nil))))) (ops_cons (ops_cons (ops_cons (ops_cons (ops_cons ops_nil)))))))
  (ds_one (ds_if (dt_cmp (op_ltA (hu64 hr)) bi_lt (de_ix ix_seq bi_ix (de_name 4) (de_ix ix_seq bi_ix (de_name 7) de_int)) (de_name 9)) (ds_one (ds_unpack (de_tup (dl_cons (de_name 9) (dl_cons de_bl dl_nil))) (dg_pair rfl (dgs_cons (dg_sub 4 (de_ix ix_seq bi_ix (de_name 7) de_int)) (dgs_cons (dg_name 6 sc_signed_ages_of.nd) dgs_nil)) (gs_cons (gs_cons gs_nil))))) ds_nil)))))))
  (ds_one (ds_ret (de_callT1 call_tuple_of un_tuple T.m_tuple (de_name 4))))))))
set_option maxHeartbeats 4000000 in
theorem ok_signed_ages {C_Web : Addr} {f : Addr} {fd : FuncData} (Fn : Fun K "signed_ages" "signed_ages" s_signed_ages f fd) (T : Txt K mg C_Web) {g_check_signed : FD} (d_check_signed : Def P w K mg base 5 3 "check_signed" g_check_signed) {g_signed_ages_of : FD} (d_signed_ages_of : Def P w K mg base 4 3 "signed_ages_of" g_signed_ages_of) :
    FnG P w K mg base 6 f fd ["web", "life", "liars"] (spD K 3 (D_signed_ages g_check_signed g_signed_ages_of)) := by
  exact fn_den [0, 1, 2] Fn sc_signed_ages (by decide) fun cdv A outer s H E hr hgd =>
  (ds_cons (ds_expr (de_call d_check_signed (hr.mono (by decide)) hgd (do_cons (de_name 0) (do_cons (de_name 1) (do_cons (de_name 2) do_nil))) (ops_cons (ops_cons (ops_cons ops_nil)))))
  (ds_one (ds_ret (de_call d_signed_ages_of (hr.mono (by decide)) hgd (do_cons (de_name 0) (do_cons (de_name 1) (do_cons (de_name 2) do_nil))) (ops_cons (ops_cons (ops_cons ops_nil)))))))
set_option maxHeartbeats 4000000 in
theorem ok_l_law_hand {C_Web : Addr} {f : Addr} {fd : FuncData} (Fn : Fun K "_law_hand" "_law_hand" s_l_law_hand f fd) (T : Txt K mg C_Web) :
    FnG P w K mg base 1 f fd ["script"] (spD K 1 (D_l_law_hand)) := by
  exact fn_den [0] Fn sc_l_law_hand (by decide) fun cdv A outer s H E hr hgd =>
  (ds_cons (ds_setLc 1 (own := [("cell", 2)]) rfl sc_l_law_hand.nd (di_seq (de_slice (de_name 0) dp_none (dp_some de_int))) (blkOk_by (N := ["script", "cells", "cell"]) (sc := defScope s_l_law_hand) (by decide +kernel)) (fun _ _ _ _ _ => (dg_name 2 sc_l_law_hand.nd)) (fun _ _ _ _ _ => dts_nil) (fun _ _ _ _ _ => (de_bin op_mod bi_mod (de_callT1 call_int1 un_int T.m_int (de_call1 call_abs un_abs T.m_abs (de_callT1 call_int1 un_int T.m_int (de_name 2)))) (de_bin op_pow bi_pow de_int de_int))) (by decide) (by decide) (by decide) (sw_true rfl rfl rfl (by decide +kernel)))
  (ds_one (ds_ret (de_lst (dl_cons (de_name 1) (dl_cons de_int (dl_cons de_int (dl_cons (de_bin op_addA bi_add de_int (de_bin op_mulA bi_mul de_int (de_call1 call_len_seq un_len T.m_len (de_name 1)))) (dl_cons de_int dl_nil)))))))))
set_option maxHeartbeats 4000000 in
theorem ok_l_law_draw {C_Web : Addr} {f : Addr} {fd : FuncData} (Fn : Fun K "_law_draw" "_law_draw" s_l_law_draw f fd) (T : Txt K mg C_Web) :
    FnG P w K mg base 1 f fd ["hand", "many"] (spD K 2 (D_l_law_draw)) := by
  exact fn_den [0, 1] Fn sc_l_law_draw (by decide) fun cdv A outer s H E hr hgd =>
  (ds_cons (ds_if (dw_and (dt_cmp (op_eqA (hu64 hr)) bi_eq (de_ix ix_seq bi_ix (de_name 0) de_int) de_int) (dw_and1 (dt_cmp (op_ltA (hu64 hr)) bi_lt (de_ix ix_seq bi_ix (de_name 0) de_int) (de_call1 call_len_seq un_len T.m_len (de_ix ix_seq bi_ix (de_name 0) de_int))))).pt (ds_cons (ds_set 3 sc_l_law_draw.nd (de_ix ix_seq bi_ix (de_ix ix_seq bi_ix (de_name 0) de_int) (de_ix ix_seq bi_ix (de_name 0) de_int)))
  (ds_cons (dx_setIx 0 de_int (de_bin op_addA bi_add (de_ix ix_seq bi_ix (de_name 0) de_int) de_int))
  (ds_cons (dx_setIx 0 de_int (de_bin op_mod bi_mod (de_callT1 call_int1 un_int T.m_int (de_bin op_addA bi_add (de_bin op_addA bi_add (de_bin op_mulA bi_mul (de_ix ix_seq bi_ix (de_name 0) de_int) de_int) (de_bin op_mulA bi_mul (de_name 3) de_int)) de_int)) de_int))
  (ds_one (ds_if (dt_cmp (op_geA (hu64 hr)) bi_ge (de_name 3) (de_bin op_pow bi_pow de_int de_int)) (ds_one (dx_setIx 0 de_int (de_name 3))) ds_nil))))) ds_nil)
  (ds_cons (ds_if (dt_cmp (op_gtA (hu64 hr)) bi_gt (de_ix ix_seq bi_ix (de_name 0) de_int) de_int) (ds_cons (ds_set 4 sc_l_law_draw.nd (de_bin op_mod bi_mod (de_callT1 call_int1 un_int T.m_int (de_ix ix_seq bi_ix (de_name 0) de_int)) (de_name 1)))
  (ds_cons (dx_setIx 0 de_int (de_bin op_fdivW bi_fdiv (de_ix ix_seq bi_ix (de_name 0) de_int) (de_name 1)))
  (ds_one (ds_ret (de_name 4))))) ds_nil)
  (ds_cons (dx_setIx 0 de_int (de_bin op_addA bi_add (de_ix ix_seq bi_ix (de_name 0) de_int) de_int))
  (ds_cons (ds_set 2 sc_l_law_draw.nd (de_bin op_mod bi_mod (de_callT1 call_int1 un_int T.m_int (de_bin op_mulA bi_mul (de_callT1 call_int1 un_int T.m_int (de_bin op_addA bi_add (de_ix ix_seq bi_ix (de_name 0) de_int) (de_bin op_mulA bi_mul de_int (de_ix ix_seq bi_ix (de_name 0) de_int)))) de_int)) de_int))
  (ds_cons (ds_set 2 sc_l_law_draw.nd (de_bin op_mod bi_mod (de_callT1 call_int1 un_int T.m_int (de_bin op_mulA bi_mul (de_name 2) (de_bin op_addA bi_add (de_bin op_fdivW bi_fdiv (de_name 2) de_int) de_int))) de_int))
  (ds_cons (ds_set 2 sc_l_law_draw.nd (de_bin op_mod bi_mod (de_callT1 call_int1 un_int T.m_int (de_bin op_mulA bi_mul (de_name 2) (de_bin op_addA bi_add (de_bin op_fdivW bi_fdiv (de_name 2) de_int) de_int))) de_int))
  (ds_one (ds_ret (de_bin op_mod bi_mod (de_callT1 call_int1 un_int T.m_int (de_bin op_fdivW bi_fdiv (de_name 2) de_int)) (de_name 1))))))))))
set_option maxHeartbeats 4000000 in
theorem ok_l_law_ringed {C_Web : Addr} {f : Addr} {fd : FuncData} (Fn : Fun K "_law_ringed" "_law_ringed" s_l_law_ringed f fd) (T : Txt K mg C_Web) {g_l_law_draw : FD} (d_l_law_draw : Def P w K mg base 1 2 "_law_draw" g_l_law_draw) {g_Web___init : FD} (d_Web___init : Cla P w K mg base 5 4 "Web" C_Web g_Web___init) :
    FnG P w K mg base 7 f fd ["hand", "most"] (spD K 2 (D_l_law_ringed C_Web g_l_law_draw g_Web___init)) := by
  exact fn_den [0, 1] Fn sc_l_law_ringed (by decide) fun cdv A outer s H E hr hgd =>
  (ds_cons (ds_set 2 sc_l_law_ringed.nd (de_bin op_addA bi_add de_int (de_call d_l_law_draw (hr.mono (by decide)) hgd (do_cons (de_name 0) (do_cons de_int do_nil)) (ops_cons (ops_cons ops_nil)))))
  (ds_cons (ds_parT 5 6 rfl sc_l_law_ringed.nd (de_lst (dl_cons de_int dl_nil)) (de_lst dl_nil))
  (ds_cons (ds_for PassesOwn.never rfl (di_rng1 T.m_range (dl_cons (de_name 2) dl_nil)) (dg_name 3 sc_l_law_ringed.nd) (ds_cons (ds_expr (dx_app 5 (de_call d_l_law_draw (hr.mono (by decide)) hgd (do_cons (de_name 0) (do_cons (de_bin op_addA bi_add (de_name 1) de_int) do_nil)) (ops_cons (ops_cons ops_nil)))))
  (ds_one (ds_expr (dx_app 6 (de_call d_l_law_draw (hr.mono (by decide)) hgd (do_cons (de_name 0) (do_cons (de_bin op_addA bi_add (de_name 1) de_int) do_nil)) (ops_cons (ops_cons ops_nil))))))))
  (ds_cons (ds_set 4 sc_l_law_ringed.nd (de_lst (dl_cons (de_tup (dl_cons de_int (dl_cons de_int (dl_cons (de_call d_l_law_draw (hr.mono (by decide)) hgd (do_cons (de_name 0) (do_cons de_int do_nil)) (ops_cons (ops_cons ops_nil))) dl_nil)))) (dl_cons (de_tup (dl_cons (de_bin op_addA bi_add (de_name 2) de_int) (dl_cons (de_bin op_addA bi_add de_int (de_call d_l_law_draw (hr.mono (by decide)) hgd (do_cons (de_name 0) (do_cons (de_name 2) do_nil)) (ops_cons (ops_cons ops_nil)))) (dl_cons (de_call d_l_law_draw (hr.mono (by decide)) hgd (do_cons (de_name 0) (do_cons de_int do_nil)) (ops_cons (ops_cons ops_nil))) dl_nil)))) dl_nil))))
  (ds_cons (ds_expr (dx_ext 4 (de_lc (own := [("place", 3)]) rfl sc_l_law_ringed.nd (di_rng2 T.m_range (dl_cons de_int (dl_cons (de_bin op_addA bi_add (de_name 2) de_int) dl_nil))) (blkOk_by (N := ["hand", "most", "many", "place", "links", "keeps", "lates"]) (sc := defScope s_l_law_ringed) (by decide +kernel)) (fun _ _ _ _ _ => (dg_name 3 sc_l_law_ringed.nd)) (fun _ _ _ _ _ => dts_nil) (fun _ _ _ _ _ => (de_tup (dl_cons (de_name 3) (dl_cons (de_bin op_addA bi_add de_int (de_bin op_mod bi_mod (de_callT1 call_int1 un_int T.m_int (de_name 3)) (de_name 2))) (dl_cons (de_ix ix_seq bi_ix (de_name 6) (de_bin op_sub bi_sub (de_name 3) de_int)) dl_nil))))) (by decide) (by decide))))
  (ds_one (ds_ret (de_frz (de_make d_Web___init (hr.mono (by decide)) hgd (do_cons (de_bin op_addA bi_add de_int (de_call d_l_law_draw (hr.mono (by decide)) hgd (do_cons (de_name 0) (do_cons de_int do_nil)) (ops_cons (ops_cons ops_nil)))) (do_cons de_int (do_cons (de_bin op_addA bi_add (de_callT1 call_tuple_of un_tuple T.m_tuple (de_name 5)) (de_tup (dl_cons (de_call d_l_law_draw (hr.mono (by decide)) hgd (do_cons (de_name 0) (do_cons de_int do_nil)) (ops_cons (ops_cons ops_nil))) dl_nil))) (do_cons (de_callT1 call_tuple_of un_tuple T.m_tuple (de_call1 (call_sortD' (hu64 hr)) un_sorted T.m_sorted (de_name 4))) do_nil)))) (ops_cons (ops_cons (ops_cons (ops_cons ops_nil)))))))))))))
set_option maxHeartbeats 4000000 in
theorem ok_l_law_is_right {C_Web : Addr} {f : Addr} {fd : FuncData} (Fn : Fun K "_law_is_right" "_law_is_right" s_l_law_is_right f fd) (T : Txt K mg C_Web) {g_l_law_draw : FD} (d_l_law_draw : Def P w K mg base 1 2 "_law_draw" g_l_law_draw) {g_signed_ages : FD} (d_signed_ages : Def P w K mg base 6 3 "signed_ages" g_signed_ages) :
    FnG P w K mg base 7 f fd ["hand", "web"] (spD K 2 (D_l_law_is_right C_Web g_l_law_draw g_signed_ages)) := by
  exact fn_den [0, 1] Fn sc_l_law_is_right (by decide) fun cdv A outer s H E hr hgd =>
  (ds_cons (dx_par 5 6 rfl sc_l_law_is_right.nd (de_bin op_sub bi_sub (de_call1 call_len_seq un_len T.m_len (de_attr T.cl_Web T.n_Web_keeps (de_name 1))) de_int) (de_bin op_addA bi_add (de_ix ix_seq bi_ix (de_ix ix_seq bi_ix (de_attr T.cl_Web T.n_Web_links (de_name 1)) de_int) de_int) (de_ix ix_seq bi_ix (de_attr T.cl_Web T.n_Web_keeps (de_name 1)) de_int)) (h := fun ha => ps_par rfl sc_l_law_is_right.nd rfl rfl (by decide) rfl rfl ha (by rfl)))
  (ds_cons (ds_set 2 sc_l_law_is_right.nd (de_cmp (op_gtA (hu64 hr)) bi_gt (de_bin op_addA bi_add (de_call1 (call_sumA rfl) un_sumA T.m_sum (de_slice (de_attr T.cl_Web T.n_Web_keeps (de_name 1)) (dp_some de_int) (dp_some (de_unop un_neg un_gNeg de_int)))) (de_call1 (call_sumA rfl) un_sumA T.m_sum (de_lc (own := [("link", 9)]) rfl sc_l_law_is_right.nd (di_seq (de_slice (de_attr T.cl_Web T.n_Web_links (de_name 1)) (dp_some de_int) (dp_some (de_unop un_neg un_gNeg de_int)))) (blkOk_by (N := ["hand", "web", "is_fed", "last", "life", "many", "first", "ring", "due", "link"]) (sc := defScope s_l_law_is_right) (by decide +kernel)) (fun _ _ _ _ _ => (dg_name 9 sc_l_law_is_right.nd)) (fun _ _ _ _ _ => dts_nil) (fun _ _ _ _ _ => (de_ix ix_seq bi_ix (de_name 9) de_int)) (by decide) (by decide)))) de_int))
  (ds_cons (ds_set 3 sc_l_law_is_right.nd (de_bin op_addA bi_add (de_ix ix_seq bi_ix (de_ix ix_seq bi_ix (de_attr T.cl_Web T.n_Web_links (de_name 1)) (de_unop un_neg un_gNeg de_int)) de_int) (de_ix ix_seq bi_ix (de_attr T.cl_Web T.n_Web_keeps (de_name 1)) (de_unop un_neg un_gNeg de_int))))
  (ds_cons (ds_for PassesOwn.never rfl (di_seq (de_tup (dl_cons de_int (dl_cons de_int (dl_cons (de_call d_l_law_draw (hr.mono (by decide)) hgd (do_cons (de_name 0) (do_cons de_int do_nil)) (ops_cons (ops_cons ops_nil))) (dl_cons de_int dl_nil)))))) (dg_name 4 sc_l_law_is_right.nd) (ds_cons (ds_set 7 sc_l_law_is_right.nd (de_ifExp (dt_val (de_name 2)) (de_name 4) (de_call2 (call_min2 rfl) bi_min2 T.m_min (de_name 4) (de_name 6))))
  (ds_cons (ds_set 8 sc_l_law_is_right.nd (de_bin op_addA bi_add (de_bin op_addA bi_add (de_tup (dl_cons de_int dl_nil)) (de_bin op_mulA bi_mul (de_tup (dl_cons (de_name 7) dl_nil)) (de_name 5))) (de_tup (dl_cons (de_call2 (call_min2 rfl) bi_min2 T.m_min (de_name 4) (de_bin op_addA bi_add (de_name 7) (de_name 3))) dl_nil))))
  (ds_one (ds_if (dt_cmp (op_neA (hu64 hr)) bi_ne (de_call1 (call_repr (hu64 hr) hgd) un_repr T.m_repr (de_call d_signed_ages (hr.mono (by decide)) hgd (do_cons (de_name 1) (do_cons (de_name 4) (do_cons (de_tup dl_nil) do_nil))) (ops_cons (ops_cons (ops_cons ops_nil))))) (de_call1 (call_repr (hu64 hr) hgd) un_repr T.m_repr (de_name 8))) (ds_one (ds_ret de_bl)) ds_nil)))))
  (ds_one (ds_ret de_bl))))))
set_option maxHeartbeats 4000000 in
theorem ok_law {C_Web : Addr} {f : Addr} {fd : FuncData} (Fn : Fun K "law" "law" s_law f fd) (T : Txt K mg C_Web) {g_l_law_hand : FD} (d_l_law_hand : Def P w K mg base 1 1 "_law_hand" g_l_law_hand) {g_Web___init : FD} (d_Web___init : Cla P w K mg base 5 4 "Web" C_Web g_Web___init) {g_signed_ages : FD} (d_signed_ages : Def P w K mg base 6 3 "signed_ages" g_signed_ages) {g_l_law_is_right : FD} (d_l_law_is_right : Def P w K mg base 7 2 "_law_is_right" g_l_law_is_right) {g_l_law_ringed : FD} (d_l_law_ringed : Def P w K mg base 7 2 "_law_ringed" g_l_law_ringed) :
    FnG P w K mg base 8 f fd ["script"] (spD K 1 (D_law C_Web g_l_law_hand g_Web___init g_signed_ages g_l_law_is_right g_l_law_ringed)) := by
  exact fn_den [0] Fn sc_law (by decide) fun cdv A outer s H E hr hgd =>
  (ds_cons (ds_set 1 sc_law.nd (de_call d_l_law_hand (hr.mono (by decide)) hgd (do_cons (de_name 0) do_nil) (ops_cons ops_nil)))
  (ds_cons (ds_set 2 sc_law.nd (de_frz (de_make d_Web___init (hr.mono (by decide)) hgd (do_cons de_int (do_cons de_int (do_cons (de_tup (dl_cons de_int (dl_cons de_int (dl_cons de_int (dl_cons de_int dl_nil))))) (do_cons (de_tup (dl_cons (de_tup (dl_cons de_int (dl_cons de_int (dl_cons de_int dl_nil)))) (dl_cons (de_tup (dl_cons de_int (dl_cons de_int (dl_cons de_int dl_nil)))) (dl_cons (de_tup (dl_cons de_int (dl_cons de_int (dl_cons de_int dl_nil)))) (dl_cons (de_tup (dl_cons de_int (dl_cons de_int (dl_cons de_int dl_nil)))) dl_nil))))) do_nil)))) (ops_cons (ops_cons (ops_cons (ops_cons ops_nil)))))))
  (ds_cons (ds_if (dw_or (dt_cmp (op_neA (hu64 hr)) bi_ne (de_call d_signed_ages (hr.mono (by decide)) hgd (do_cons (de_name 2) (do_cons de_int (do_cons (de_tup dl_nil) do_nil))) (ops_cons (ops_cons (ops_cons ops_nil)))) (de_tup (dl_cons de_int (dl_cons de_int (dl_cons de_int (dl_cons de_int dl_nil)))))) (dw_or1 (dt_cmp (op_neA (hu64 hr)) bi_ne (de_call d_signed_ages (hr.mono (by decide)) hgd (do_cons (de_name 2) (do_cons de_int (do_cons (de_tup (dl_cons de_int dl_nil)) do_nil))) (ops_cons (ops_cons (ops_cons ops_nil)))) (de_tup (dl_cons de_int (dl_cons de_int (dl_cons de_int (dl_cons de_int dl_nil)))))))).pt (ds_one (ds_ret de_bl)) ds_nil)
  (ds_cons (ds_for PassesOwn.never rfl (di_rng1 T.m_range (dl_cons de_int dl_nil)) (dg_name 3 sc_law.nd) (ds_one (ds_if (dw_or (dt_not (dt_val (de_call d_l_law_is_right (hr.mono (by decide)) hgd (do_cons (de_name 1) (do_cons (de_call d_l_law_ringed (hr.mono (by decide)) hgd (do_cons (de_name 1) (do_cons de_int do_nil)) (ops_cons (ops_cons ops_nil))) do_nil)) (ops_cons (ops_cons ops_nil))))) (dw_or1 (dt_not (dt_val (de_call d_l_law_is_right (hr.mono (by decide)) hgd (do_cons (de_name 1) (do_cons (de_call d_l_law_ringed (hr.mono (by decide)) hgd (do_cons (de_name 1) (do_cons de_int do_nil)) (ops_cons (ops_cons ops_nil))) do_nil)) (ops_cons (ops_cons ops_nil))))))).pt (ds_one (ds_ret de_bl)) ds_nil)))
  (ds_one (ds_ret de_bl))))))
end
/-! ### the law from the top -/
def W_is_integer : FD := D_is_integer
def W_is_within : FD := D_is_within (W_is_integer)
def W_is_tuple : FD := D_is_tuple
def W_do_ascend : FD := D_do_ascend
def W_is_lot_below : FD := D_is_lot_below (W_is_within) (W_do_ascend)
def W_keeps_fault : FD := D_keeps_fault (W_is_tuple) (W_is_within)
def W_is_link_of : FD := D_is_link_of (W_is_tuple) (W_is_within)
def W_links_fault : FD := D_links_fault (W_is_tuple) (W_is_link_of)
def W_Web___init (C_Web : Addr) : FD := D_Web___init C_Web (W_is_within) (W_keeps_fault) (W_links_fault)
def W_check_web (C_Web : Addr) : FD := D_check_web C_Web
def W_reached_from : FD := D_reached_from
def W_reached_by : FD := D_reached_by (W_reached_from)
def W_live_of (C_Web : Addr) : FD := D_live_of C_Web (W_reached_by)
def W_sum_of (C_Web : Addr) : FD := D_sum_of C_Web
def W_check_life : FD := D_check_life (W_is_within)
def W_check_liars (C_Web : Addr) : FD := D_check_liars C_Web (W_is_lot_below)
def W_check_signed (C_Web : Addr) : FD := D_check_signed (W_check_web C_Web) (W_check_life) (W_check_liars C_Web)
def W_worth_of : FD := D_worth_of
def W_least_entry (C_Web : Addr) : FD := D_least_entry (W_sum_of C_Web) (W_worth_of)
def W_signed_ages_of (C_Web : Addr) : FD := D_signed_ages_of C_Web (W_reached_by) (W_live_of C_Web) (W_least_entry C_Web)
def W_signed_ages (C_Web : Addr) : FD := D_signed_ages (W_check_signed C_Web) (W_signed_ages_of C_Web)
def W_l_law_hand : FD := D_l_law_hand
def W_l_law_draw : FD := D_l_law_draw
def W_l_law_ringed (C_Web : Addr) : FD := D_l_law_ringed C_Web (W_l_law_draw) (W_Web___init C_Web)
def W_l_law_is_right (C_Web : Addr) : FD := D_l_law_is_right C_Web (W_l_law_draw) (W_signed_ages C_Web)
def W_law (C_Web : Addr) : FD := D_law C_Web (W_l_law_hand) (W_Web___init C_Web) (W_signed_ages C_Web) (W_l_law_is_right C_Web) (W_l_law_ringed C_Web)
set_option maxHeartbeats 8000000 in
theorem all_mk {P : Program} {w : World} {K : PySem.W.Frag} {h : Heap} {mg : Str → Option Value} {fa : Addr} (X : K.In h) (G : h.Ns mainGlobals mg) (hfa : mg "law" = some (.ref fa))
    {C_Web : Addr}
    {f_0 : Addr} {od_0 an_0 : Option Addr} {sl_0 : Array (Option Value)} {oc_0 kV_0 dc_0 pm_0 cd_0 ct_0 : Value}
    {f_1 : Addr} {od_1 an_1 : Option Addr} {sl_1 : Array (Option Value)} {oc_1 kV_1 dc_1 pm_1 cd_1 ct_1 : Value}
    {f_2 : Addr} {od_2 an_2 : Option Addr} {sl_2 : Array (Option Value)} {oc_2 kV_2 dc_2 pm_2 cd_2 ct_2 : Value}
    {f_3 : Addr} {od_3 an_3 : Option Addr} {sl_3 : Array (Option Value)} {oc_3 kV_3 dc_3 pm_3 cd_3 ct_3 : Value}
    {f_4 : Addr} {od_4 an_4 : Option Addr} {sl_4 : Array (Option Value)} {oc_4 kV_4 dc_4 pm_4 cd_4 ct_4 : Value}
    {f_5 : Addr} {od_5 an_5 : Option Addr} {sl_5 : Array (Option Value)} {oc_5 kV_5 dc_5 pm_5 cd_5 ct_5 : Value}
    {f_6 : Addr} {od_6 an_6 : Option Addr} {sl_6 : Array (Option Value)} {oc_6 kV_6 dc_6 pm_6 cd_6 ct_6 : Value}
    {f_7 : Addr} {od_7 an_7 : Option Addr} {sl_7 : Array (Option Value)} {oc_7 kV_7 dc_7 pm_7 cd_7 ct_7 : Value}
    {f_8 : Addr} {od_8 an_8 : Option Addr} {sl_8 : Array (Option Value)} {oc_8 kV_8 dc_8 pm_8 cd_8 ct_8 : Value}
    {f_9 : Addr} {od_9 an_9 : Option Addr} {sl_9 : Array (Option Value)} {oc_9 kV_9 dc_9 pm_9 cd_9 ct_9 : Value}
    {f_10 : Addr} {od_10 an_10 : Option Addr} {sl_10 : Array (Option Value)} {oc_10 kV_10 dc_10 pm_10 cd_10 ct_10 : Value}
    {f_11 : Addr} {od_11 an_11 : Option Addr} {sl_11 : Array (Option Value)} {oc_11 kV_11 dc_11 pm_11 cd_11 ct_11 : Value}
    {f_12 : Addr} {od_12 an_12 : Option Addr} {sl_12 : Array (Option Value)} {oc_12 kV_12 dc_12 pm_12 cd_12 ct_12 : Value}
    {f_13 : Addr} {od_13 an_13 : Option Addr} {sl_13 : Array (Option Value)} {oc_13 kV_13 dc_13 pm_13 cd_13 ct_13 : Value}
    {f_14 : Addr} {od_14 an_14 : Option Addr} {sl_14 : Array (Option Value)} {oc_14 kV_14 dc_14 pm_14 cd_14 ct_14 : Value}
    {f_15 : Addr} {od_15 an_15 : Option Addr} {sl_15 : Array (Option Value)} {oc_15 kV_15 dc_15 pm_15 cd_15 ct_15 : Value}
    {f_16 : Addr} {od_16 an_16 : Option Addr} {sl_16 : Array (Option Value)} {oc_16 kV_16 dc_16 pm_16 cd_16 ct_16 : Value}
    {f_17 : Addr} {od_17 an_17 : Option Addr} {sl_17 : Array (Option Value)} {oc_17 kV_17 dc_17 pm_17 cd_17 ct_17 : Value}
    {f_18 : Addr} {od_18 an_18 : Option Addr} {sl_18 : Array (Option Value)} {oc_18 kV_18 dc_18 pm_18 cd_18 ct_18 : Value}
    {f_19 : Addr} {od_19 an_19 : Option Addr} {sl_19 : Array (Option Value)} {oc_19 kV_19 dc_19 pm_19 cd_19 ct_19 : Value}
    {f_20 : Addr} {od_20 an_20 : Option Addr} {sl_20 : Array (Option Value)} {oc_20 kV_20 dc_20 pm_20 cd_20 ct_20 : Value}
    {f_21 : Addr} {od_21 an_21 : Option Addr} {sl_21 : Array (Option Value)} {oc_21 kV_21 dc_21 pm_21 cd_21 ct_21 : Value}
    {f_22 : Addr} {od_22 an_22 : Option Addr} {sl_22 : Array (Option Value)} {oc_22 kV_22 dc_22 pm_22 cd_22 ct_22 : Value}
    {f_23 : Addr} {od_23 an_23 : Option Addr} {sl_23 : Array (Option Value)} {oc_23 kV_23 dc_23 pm_23 cd_23 ct_23 : Value}
    {f_24 : Addr} {od_24 an_24 : Option Addr} {sl_24 : Array (Option Value)} {oc_24 kV_24 dc_24 pm_24 cd_24 ct_24 : Value}
    {f_25 : Addr} {od_25 an_25 : Option Addr} {sl_25 : Array (Option Value)} {oc_25 kV_25 dc_25 pm_25 cd_25 ct_25 : Value}
    {t_LEAST_CIRCLE : Tok}
    {t_MOST_CIRCLE : Tok}
    {t_MOST_GROWTH : Tok}
    {t_MOST_KEEP : Tok}
    {t_MOST_LATE : Tok}
    {t_MOST_LIFE : Tok}
    {t_MOST_LINKS : Tok}
    {t_MOST_PLACES : Tok}
    {t_SOURCE : Tok}
    (aC_Web : PySem.W.nsIn K mainGlobals "Web" = some (some (.ref C_Web)))
    (a_0 : PySem.W.nsIn K mainGlobals "is_integer" = some (some (.ref f_0)))
    (l_0 : K.lookup f_0 = some ⟨oc_0, od_0, .func (PySem.W.fnOf "is_integer" "is_integer" (defArgs s_is_integer) (defBody s_is_integer) (defScope s_is_integer) .none kV_0 dc_0 pm_0 an_0 cd_0 ct_0), sl_0⟩)
    (k_0 : PySem.W.codeIn K cd_0 "is_integer" = true)
    (p_0 : PySem.W.keepIn K (.ref f_0) = true)
    (a_1 : PySem.W.nsIn K mainGlobals "is_within" = some (some (.ref f_1)))
    (l_1 : K.lookup f_1 = some ⟨oc_1, od_1, .func (PySem.W.fnOf "is_within" "is_within" (defArgs s_is_within) (defBody s_is_within) (defScope s_is_within) .none kV_1 dc_1 pm_1 an_1 cd_1 ct_1), sl_1⟩)
    (k_1 : PySem.W.codeIn K cd_1 "is_within" = true)
    (p_1 : PySem.W.keepIn K (.ref f_1) = true)
    (a_2 : PySem.W.nsIn K mainGlobals "is_tuple" = some (some (.ref f_2)))
    (l_2 : K.lookup f_2 = some ⟨oc_2, od_2, .func (PySem.W.fnOf "is_tuple" "is_tuple" (defArgs s_is_tuple) (defBody s_is_tuple) (defScope s_is_tuple) .none kV_2 dc_2 pm_2 an_2 cd_2 ct_2), sl_2⟩)
    (k_2 : PySem.W.codeIn K cd_2 "is_tuple" = true)
    (p_2 : PySem.W.keepIn K (.ref f_2) = true)
    (a_3 : PySem.W.nsIn K mainGlobals "do_ascend" = some (some (.ref f_3)))
    (l_3 : K.lookup f_3 = some ⟨oc_3, od_3, .func (PySem.W.fnOf "do_ascend" "do_ascend" (defArgs s_do_ascend) (defBody s_do_ascend) (defScope s_do_ascend) .none kV_3 dc_3 pm_3 an_3 cd_3 ct_3), sl_3⟩)
    (k_3 : PySem.W.codeIn K cd_3 "do_ascend" = true)
    (p_3 : PySem.W.keepIn K (.ref f_3) = true)
    (a_4 : PySem.W.nsIn K mainGlobals "is_lot_below" = some (some (.ref f_4)))
    (l_4 : K.lookup f_4 = some ⟨oc_4, od_4, .func (PySem.W.fnOf "is_lot_below" "is_lot_below" (defArgs s_is_lot_below) (defBody s_is_lot_below) (defScope s_is_lot_below) .none kV_4 dc_4 pm_4 an_4 cd_4 ct_4), sl_4⟩)
    (k_4 : PySem.W.codeIn K cd_4 "is_lot_below" = true)
    (p_4 : PySem.W.keepIn K (.ref f_4) = true)
    (a_5 : PySem.W.nsIn K mainGlobals "keeps_fault" = some (some (.ref f_5)))
    (l_5 : K.lookup f_5 = some ⟨oc_5, od_5, .func (PySem.W.fnOf "keeps_fault" "keeps_fault" (defArgs s_keeps_fault) (defBody s_keeps_fault) (defScope s_keeps_fault) .none kV_5 dc_5 pm_5 an_5 cd_5 ct_5), sl_5⟩)
    (k_5 : PySem.W.codeIn K cd_5 "keeps_fault" = true)
    (p_5 : PySem.W.keepIn K (.ref f_5) = true)
    (a_6 : PySem.W.nsIn K mainGlobals "is_link_of" = some (some (.ref f_6)))
    (l_6 : K.lookup f_6 = some ⟨oc_6, od_6, .func (PySem.W.fnOf "is_link_of" "is_link_of" (defArgs s_is_link_of) (defBody s_is_link_of) (defScope s_is_link_of) .none kV_6 dc_6 pm_6 an_6 cd_6 ct_6), sl_6⟩)
    (k_6 : PySem.W.codeIn K cd_6 "is_link_of" = true)
    (p_6 : PySem.W.keepIn K (.ref f_6) = true)
    (a_7 : PySem.W.nsIn K mainGlobals "links_fault" = some (some (.ref f_7)))
    (l_7 : K.lookup f_7 = some ⟨oc_7, od_7, .func (PySem.W.fnOf "links_fault" "links_fault" (defArgs s_links_fault) (defBody s_links_fault) (defScope s_links_fault) .none kV_7 dc_7 pm_7 an_7 cd_7 ct_7), sl_7⟩)
    (k_7 : PySem.W.codeIn K cd_7 "links_fault" = true)
    (p_7 : PySem.W.keepIn K (.ref f_7) = true)
    (a_8 : PySem.W.findIn K (.ref C_Web) "__init__" = some (some (.ref f_8)))
    (i_8 : PySem.W.isFn K (.ref f_8) = true)
    (l_8 : K.lookup f_8 = some ⟨oc_8, od_8, .func (PySem.W.fnOf "__init__" "Web.__init__" (defArgs s_Web___init) (defBody s_Web___init) (defScope s_Web___init) .none kV_8 dc_8 pm_8 an_8 cd_8 ct_8), sl_8⟩)
    (k_8 : PySem.W.codeIn K cd_8 "Web.__init__" = true)
    (p_8 : PySem.W.keepIn K (.ref f_8) = true)
    (a_9 : PySem.W.nsIn K mainGlobals "check_web" = some (some (.ref f_9)))
    (l_9 : K.lookup f_9 = some ⟨oc_9, od_9, .func (PySem.W.fnOf "check_web" "check_web" (defArgs s_check_web) (defBody s_check_web) (defScope s_check_web) .none kV_9 dc_9 pm_9 an_9 cd_9 ct_9), sl_9⟩)
    (k_9 : PySem.W.codeIn K cd_9 "check_web" = true)
    (p_9 : PySem.W.keepIn K (.ref f_9) = true)
    (a_10 : PySem.W.nsIn K mainGlobals "reached_by" = some (some (.ref f_10)))
    (l_10 : K.lookup f_10 = some ⟨oc_10, od_10, .func (PySem.W.fnOf "reached_by" "reached_by" (defArgs s_reached_by) (defBody s_reached_by) (defScope s_reached_by) .none kV_10 dc_10 pm_10 an_10 cd_10 ct_10), sl_10⟩)
    (k_10 : PySem.W.codeIn K cd_10 "reached_by" = true)
    (p_10 : PySem.W.keepIn K (.ref f_10) = true)
    (a_11 : PySem.W.nsIn K mainGlobals "reached_from" = some (some (.ref f_11)))
    (l_11 : K.lookup f_11 = some ⟨oc_11, od_11, .func (PySem.W.fnOf "reached_from" "reached_from" (defArgs s_reached_from) (defBody s_reached_from) (defScope s_reached_from) .none kV_11 dc_11 pm_11 an_11 cd_11 ct_11), sl_11⟩)
    (k_11 : PySem.W.codeIn K cd_11 "reached_from" = true)
    (p_11 : PySem.W.keepIn K (.ref f_11) = true)
    (a_12 : PySem.W.nsIn K mainGlobals "live_of" = some (some (.ref f_12)))
    (l_12 : K.lookup f_12 = some ⟨oc_12, od_12, .func (PySem.W.fnOf "live_of" "live_of" (defArgs s_live_of) (defBody s_live_of) (defScope s_live_of) .none kV_12 dc_12 pm_12 an_12 cd_12 ct_12), sl_12⟩)
    (k_12 : PySem.W.codeIn K cd_12 "live_of" = true)
    (p_12 : PySem.W.keepIn K (.ref f_12) = true)
    (a_13 : PySem.W.nsIn K mainGlobals "sum_of" = some (some (.ref f_13)))
    (l_13 : K.lookup f_13 = some ⟨oc_13, od_13, .func (PySem.W.fnOf "sum_of" "sum_of" (defArgs s_sum_of) (defBody s_sum_of) (defScope s_sum_of) .none kV_13 dc_13 pm_13 an_13 cd_13 ct_13), sl_13⟩)
    (k_13 : PySem.W.codeIn K cd_13 "sum_of" = true)
    (p_13 : PySem.W.keepIn K (.ref f_13) = true)
    (a_14 : PySem.W.nsIn K mainGlobals "check_life" = some (some (.ref f_14)))
    (l_14 : K.lookup f_14 = some ⟨oc_14, od_14, .func (PySem.W.fnOf "check_life" "check_life" (defArgs s_check_life) (defBody s_check_life) (defScope s_check_life) .none kV_14 dc_14 pm_14 an_14 cd_14 ct_14), sl_14⟩)
    (k_14 : PySem.W.codeIn K cd_14 "check_life" = true)
    (p_14 : PySem.W.keepIn K (.ref f_14) = true)
    (a_15 : PySem.W.nsIn K mainGlobals "check_liars" = some (some (.ref f_15)))
    (l_15 : K.lookup f_15 = some ⟨oc_15, od_15, .func (PySem.W.fnOf "check_liars" "check_liars" (defArgs s_check_liars) (defBody s_check_liars) (defScope s_check_liars) .none kV_15 dc_15 pm_15 an_15 cd_15 ct_15), sl_15⟩)
    (k_15 : PySem.W.codeIn K cd_15 "check_liars" = true)
    (p_15 : PySem.W.keepIn K (.ref f_15) = true)
    (a_16 : PySem.W.nsIn K mainGlobals "check_signed" = some (some (.ref f_16)))
    (l_16 : K.lookup f_16 = some ⟨oc_16, od_16, .func (PySem.W.fnOf "check_signed" "check_signed" (defArgs s_check_signed) (defBody s_check_signed) (defScope s_check_signed) .none kV_16 dc_16 pm_16 an_16 cd_16 ct_16), sl_16⟩)
    (k_16 : PySem.W.codeIn K cd_16 "check_signed" = true)
    (p_16 : PySem.W.keepIn K (.ref f_16) = true)
    (a_17 : PySem.W.nsIn K mainGlobals "worth_of" = some (some (.ref f_17)))
    (l_17 : K.lookup f_17 = some ⟨oc_17, od_17, .func (PySem.W.fnOf "worth_of" "worth_of" (defArgs s_worth_of) (defBody s_worth_of) (defScope s_worth_of) .none kV_17 dc_17 pm_17 an_17 cd_17 ct_17), sl_17⟩)
    (k_17 : PySem.W.codeIn K cd_17 "worth_of" = true)
    (p_17 : PySem.W.keepIn K (.ref f_17) = true)
    (a_18 : PySem.W.nsIn K mainGlobals "least_entry" = some (some (.ref f_18)))
    (l_18 : K.lookup f_18 = some ⟨oc_18, od_18, .func (PySem.W.fnOf "least_entry" "least_entry" (defArgs s_least_entry) (defBody s_least_entry) (defScope s_least_entry) .none kV_18 dc_18 pm_18 an_18 cd_18 ct_18), sl_18⟩)
    (k_18 : PySem.W.codeIn K cd_18 "least_entry" = true)
    (p_18 : PySem.W.keepIn K (.ref f_18) = true)
    (a_19 : PySem.W.nsIn K mainGlobals "signed_ages_of" = some (some (.ref f_19)))
    (l_19 : K.lookup f_19 = some ⟨oc_19, od_19, .func (PySem.W.fnOf "signed_ages_of" "signed_ages_of" (defArgs s_signed_ages_of) (defBody s_signed_ages_of) (defScope s_signed_ages_of) .none kV_19 dc_19 pm_19 an_19 cd_19 ct_19), sl_19⟩)
    (k_19 : PySem.W.codeIn K cd_19 "signed_ages_of" = true)
    (p_19 : PySem.W.keepIn K (.ref f_19) = true)
    (a_20 : PySem.W.nsIn K mainGlobals "signed_ages" = some (some (.ref f_20)))
    (l_20 : K.lookup f_20 = some ⟨oc_20, od_20, .func (PySem.W.fnOf "signed_ages" "signed_ages" (defArgs s_signed_ages) (defBody s_signed_ages) (defScope s_signed_ages) .none kV_20 dc_20 pm_20 an_20 cd_20 ct_20), sl_20⟩)
    (k_20 : PySem.W.codeIn K cd_20 "signed_ages" = true)
    (p_20 : PySem.W.keepIn K (.ref f_20) = true)
    (a_21 : PySem.W.nsIn K mainGlobals "_law_hand" = some (some (.ref f_21)))
    (l_21 : K.lookup f_21 = some ⟨oc_21, od_21, .func (PySem.W.fnOf "_law_hand" "_law_hand" (defArgs s_l_law_hand) (defBody s_l_law_hand) (defScope s_l_law_hand) .none kV_21 dc_21 pm_21 an_21 cd_21 ct_21), sl_21⟩)
    (k_21 : PySem.W.codeIn K cd_21 "_law_hand" = true)
    (p_21 : PySem.W.keepIn K (.ref f_21) = true)
    (a_22 : PySem.W.nsIn K mainGlobals "_law_draw" = some (some (.ref f_22)))
    (l_22 : K.lookup f_22 = some ⟨oc_22, od_22, .func (PySem.W.fnOf "_law_draw" "_law_draw" (defArgs s_l_law_draw) (defBody s_l_law_draw) (defScope s_l_law_draw) .none kV_22 dc_22 pm_22 an_22 cd_22 ct_22), sl_22⟩)
    (k_22 : PySem.W.codeIn K cd_22 "_law_draw" = true)
    (p_22 : PySem.W.keepIn K (.ref f_22) = true)
    (a_23 : PySem.W.nsIn K mainGlobals "_law_ringed" = some (some (.ref f_23)))
    (l_23 : K.lookup f_23 = some ⟨oc_23, od_23, .func (PySem.W.fnOf "_law_ringed" "_law_ringed" (defArgs s_l_law_ringed) (defBody s_l_law_ringed) (defScope s_l_law_ringed) .none kV_23 dc_23 pm_23 an_23 cd_23 ct_23), sl_23⟩)
    (k_23 : PySem.W.codeIn K cd_23 "_law_ringed" = true)
    (p_23 : PySem.W.keepIn K (.ref f_23) = true)
    (a_24 : PySem.W.nsIn K mainGlobals "_law_is_right" = some (some (.ref f_24)))
    (l_24 : K.lookup f_24 = some ⟨oc_24, od_24, .func (PySem.W.fnOf "_law_is_right" "_law_is_right" (defArgs s_l_law_is_right) (defBody s_l_law_is_right) (defScope s_l_law_is_right) .none kV_24 dc_24 pm_24 an_24 cd_24 ct_24), sl_24⟩)
    (k_24 : PySem.W.codeIn K cd_24 "_law_is_right" = true)
    (p_24 : PySem.W.keepIn K (.ref f_24) = true)
    (a_25 : PySem.W.nsIn K mainGlobals "law" = some (some (.ref f_25)))
    (l_25 : K.lookup f_25 = some ⟨oc_25, od_25, .func (PySem.W.fnOf "law" "law" (defArgs s_law) (defBody s_law) (defScope s_law) .none kV_25 dc_25 pm_25 an_25 cd_25 ct_25), sl_25⟩)
    (k_25 : PySem.W.codeIn K cd_25 "law" = true)
    (p_25 : PySem.W.keepIn K (.ref f_25) = true)
    (pg_Web : PySem.W.plainGet K C_Web Str.empty = true)
    (hd_Web : PySem.W.hasDictIn K C_Web = true)
    (po_Web : PySem.W.plainOver K C_Web = true)
    (sa_Web : PySem.W.findIn K (.ref C_Web) "__setattr__" = some (some (.builtin "object.__setattr__")))
    (mk_Web : PySem.W.makesIn K C_Web = true)
    (kc_Web : PySem.W.keepIn K (.ref C_Web) = true)
    (ha_Web : PySem.W.findIn K (.ref C_Web) "__class__" = some (some (.builtin "object.__class__")))
    (hn_Web : PySem.W.specialIn K (.builtin "object.__class__") "__get__" = some (some (.builtin "getset_descriptor.__get__")))
    (ht_Web : PySem.W.takesIn K (.builtin "object.__class__") = some true)
    (hm_Web : PySem.W.mroIn K C_Web (.type "object") = some true)
    (n_Web_circle : PySem.W.findIn K (.ref C_Web) "circle" = some none)
    (n_Web_growth : PySem.W.findIn K (.ref C_Web) "growth" = some none)
    (n_Web_keeps : PySem.W.findIn K (.ref C_Web) "keeps" = some none)
    (n_Web_links : PySem.W.findIn K (.ref C_Web) "links" = some none)
    (m_abs : PySem.W.nsIn K mainGlobals "abs" = some none)
    (m_all : PySem.W.nsIn K mainGlobals "all" = some none)
    (m_bool : PySem.W.nsIn K mainGlobals "bool" = some none)
    (m_enumerate : PySem.W.nsIn K mainGlobals "enumerate" = some none)
    (m_int : PySem.W.nsIn K mainGlobals "int" = some none)
    (m_isinstance : PySem.W.nsIn K mainGlobals "isinstance" = some none)
    (m_len : PySem.W.nsIn K mainGlobals "len" = some none)
    (m_min : PySem.W.nsIn K mainGlobals "min" = some none)
    (m_range : PySem.W.nsIn K mainGlobals "range" = some none)
    (m_repr : PySem.W.nsIn K mainGlobals "repr" = some none)
    (m_sorted : PySem.W.nsIn K mainGlobals "sorted" = some none)
    (m_sum : PySem.W.nsIn K mainGlobals "sum" = some none)
    (m_tuple : PySem.W.nsIn K mainGlobals "tuple" = some none)
    (m_zip : PySem.W.nsIn K mainGlobals "zip" = some none)
    (c_LEAST_CIRCLE : PySem.W.nsIn K mainGlobals "LEAST_CIRCLE" = some (some (.int 3 t_LEAST_CIRCLE)))
    (c_MOST_CIRCLE : PySem.W.nsIn K mainGlobals "MOST_CIRCLE" = some (some (.int 1000 t_MOST_CIRCLE)))
    (c_MOST_GROWTH : PySem.W.nsIn K mainGlobals "MOST_GROWTH" = some (some (.int 1000 t_MOST_GROWTH)))
    (c_MOST_KEEP : PySem.W.nsIn K mainGlobals "MOST_KEEP" = some (some (.int 100 t_MOST_KEEP)))
    (c_MOST_LATE : PySem.W.nsIn K mainGlobals "MOST_LATE" = some (some (.int 100 t_MOST_LATE)))
    (c_MOST_LIFE : PySem.W.nsIn K mainGlobals "MOST_LIFE" = some (some (.int 300 t_MOST_LIFE)))
    (c_MOST_LINKS : PySem.W.nsIn K mainGlobals "MOST_LINKS" = some (some (.int 40 t_MOST_LINKS)))
    (c_MOST_PLACES : PySem.W.nsIn K mainGlobals "MOST_PLACES" = some (some (.int 8 t_MOST_PLACES)))
    (c_SOURCE : PySem.W.nsIn K mainGlobals "SOURCE" = some (some (.int 0 t_SOURCE)))
    : ∃ fd : FuncData, (∀ (s : Shared) (v : Value), BindsTo s fd ⟨[v], []⟩ [("script", v)]) ∧ ∀ base : Heap, K.In base → base.Ns mainGlobals mg → FnG P w K mg base 8 fa fd ["script"] (spD K 1 (W_law C_Web)) := by
  have e := hfa.symm.trans (PySem.W.mg_of X G a_25)
  cases e
  have cl_Web : Cls K C_Web := ⟨pg_Web, hd_Web, po_Web, sa_Web⟩
  have T : Txt K mg C_Web := ⟨PySem.W.mg_none_of X G m_abs, PySem.W.mg_none_of X G m_all, PySem.W.mg_none_of X G m_bool, PySem.W.mg_none_of X G m_enumerate, PySem.W.mg_none_of X G m_int, PySem.W.mg_none_of X G m_isinstance, PySem.W.mg_none_of X G m_len, PySem.W.mg_none_of X G m_min, PySem.W.mg_none_of X G m_range, PySem.W.mg_none_of X G m_repr, PySem.W.mg_none_of X G m_sorted, PySem.W.mg_none_of X G m_sum, PySem.W.mg_none_of X G m_tuple, PySem.W.mg_none_of X G m_zip, ⟨_, PySem.W.mg_of X G c_LEAST_CIRCLE⟩, ⟨_, PySem.W.mg_of X G c_MOST_CIRCLE⟩, ⟨_, PySem.W.mg_of X G c_MOST_GROWTH⟩, ⟨_, PySem.W.mg_of X G c_MOST_KEEP⟩, ⟨_, PySem.W.mg_of X G c_MOST_LATE⟩, ⟨_, PySem.W.mg_of X G c_MOST_LIFE⟩, ⟨_, PySem.W.mg_of X G c_MOST_LINKS⟩, ⟨_, PySem.W.mg_of X G c_MOST_PLACES⟩, ⟨_, PySem.W.mg_of X G c_SOURCE⟩, cl_Web, PySem.W.mg_of X G aC_Web, ⟨cl_Web, ha_Web, hn_Web, ht_Web, hm_Web, if_pos (beq_self_eq_true _)⟩, n_Web_circle, n_Web_growth, n_Web_keeps, n_Web_links⟩
  have F_0 := fun_mk (st := s_is_integer) l_0 k_0 p_0
  have F_1 := fun_mk (st := s_is_within) l_1 k_1 p_1
  have F_2 := fun_mk (st := s_is_tuple) l_2 k_2 p_2
  have F_3 := fun_mk (st := s_do_ascend) l_3 k_3 p_3
  have F_4 := fun_mk (st := s_is_lot_below) l_4 k_4 p_4
  have F_5 := fun_mk (st := s_keeps_fault) l_5 k_5 p_5
  have F_6 := fun_mk (st := s_is_link_of) l_6 k_6 p_6
  have F_7 := fun_mk (st := s_links_fault) l_7 k_7 p_7
  have F_8 := fun_mk (st := s_Web___init) l_8 k_8 p_8
  have F_9 := fun_mk (st := s_check_web) l_9 k_9 p_9
  have F_10 := fun_mk (st := s_reached_by) l_10 k_10 p_10
  have F_11 := fun_mk (st := s_reached_from) l_11 k_11 p_11
  have F_12 := fun_mk (st := s_live_of) l_12 k_12 p_12
  have F_13 := fun_mk (st := s_sum_of) l_13 k_13 p_13
  have F_14 := fun_mk (st := s_check_life) l_14 k_14 p_14
  have F_15 := fun_mk (st := s_check_liars) l_15 k_15 p_15
  have F_16 := fun_mk (st := s_check_signed) l_16 k_16 p_16
  have F_17 := fun_mk (st := s_worth_of) l_17 k_17 p_17
  have F_18 := fun_mk (st := s_least_entry) l_18 k_18 p_18
  have F_19 := fun_mk (st := s_signed_ages_of) l_19 k_19 p_19
  have F_20 := fun_mk (st := s_signed_ages) l_20 k_20 p_20
  have F_21 := fun_mk (st := s_l_law_hand) l_21 k_21 p_21
  have F_22 := fun_mk (st := s_l_law_draw) l_22 k_22 p_22
  have F_23 := fun_mk (st := s_l_law_ringed) l_23 k_23 p_23
  have F_24 := fun_mk (st := s_l_law_is_right) l_24 k_24 p_24
  have F_25 := fun_mk (st := s_law) l_25 k_25 p_25
  have b_0 := F_0.binds (ps := ["thing"]) fun _ _ _ _ _ _ us hl => match us, hl with | [_], _ => rfl
  have b_1 := F_1.binds (ps := ["thing", "low", "high"]) fun _ _ _ _ _ _ us hl => match us, hl with | [_, _, _], _ => rfl
  have b_2 := F_2.binds (ps := ["thing", "low", "high"]) fun _ _ _ _ _ _ us hl => match us, hl with | [_, _, _], _ => rfl
  have b_3 := F_3.binds (ps := ["things"]) fun _ _ _ _ _ _ us hl => match us, hl with | [_], _ => rfl
  have b_4 := F_4.binds (ps := ["thing", "most"]) fun _ _ _ _ _ _ us hl => match us, hl with | [_, _], _ => rfl
  have b_5 := F_5.binds (ps := ["keeps"]) fun _ _ _ _ _ _ us hl => match us, hl with | [_], _ => rfl
  have b_6 := F_6.binds (ps := ["many", "thing"]) fun _ _ _ _ _ _ us hl => match us, hl with | [_, _], _ => rfl
  have b_7 := F_7.binds (ps := ["many", "links"]) fun _ _ _ _ _ _ us hl => match us, hl with | [_, _], _ => rfl
  have b_8 := F_8.binds (ps := ["self", "circle", "growth", "keeps", "links"]) fun _ _ _ _ _ _ us hl => match us, hl with | [_, _, _, _, _], _ => rfl
  have b_9 := F_9.binds (ps := ["web"]) fun _ _ _ _ _ _ us hl => match us, hl with | [_], _ => rfl
  have b_10 := F_10.binds (ps := ["links"]) fun _ _ _ _ _ _ us hl => match us, hl with | [_], _ => rfl
  have b_11 := F_11.binds (ps := ["links", "found"]) fun _ _ _ _ _ _ us hl => match us, hl with | [_, _], _ => rfl
  have b_12 := F_12.binds (ps := ["web"]) fun _ _ _ _ _ _ us hl => match us, hl with | [_], _ => rfl
  have b_13 := F_13.binds (ps := ["web", "link"]) fun _ _ _ _ _ _ us hl => match us, hl with | [_, _], _ => rfl
  have b_14 := F_14.binds (ps := ["life"]) fun _ _ _ _ _ _ us hl => match us, hl with | [_], _ => rfl
  have b_15 := F_15.binds (ps := ["web", "liars"]) fun _ _ _ _ _ _ us hl => match us, hl with | [_, _], _ => rfl
  have b_16 := F_16.binds (ps := ["web", "life", "liars"]) fun _ _ _ _ _ _ us hl => match us, hl with | [_, _, _], _ => rfl
  have b_17 := F_17.binds (ps := ["life", "liars", "entries", "place"]) fun _ _ _ _ _ _ us hl => match us, hl with | [_, _, _, _], _ => rfl
  have b_18 := F_18.binds (ps := ["web", "life", "liars", "entries", "link"]) fun _ _ _ _ _ _ us hl => match us, hl with | [_, _, _, _, _], _ => rfl
  have b_19 := F_19.binds (ps := ["web", "life", "liars"]) fun _ _ _ _ _ _ us hl => match us, hl with | [_, _, _], _ => rfl
  have b_20 := F_20.binds (ps := ["web", "life", "liars"]) fun _ _ _ _ _ _ us hl => match us, hl with | [_, _, _], _ => rfl
  have b_21 := F_21.binds (ps := ["script"]) fun _ _ _ _ _ _ us hl => match us, hl with | [_], _ => rfl
  have b_22 := F_22.binds (ps := ["hand", "many"]) fun _ _ _ _ _ _ us hl => match us, hl with | [_, _], _ => rfl
  have b_23 := F_23.binds (ps := ["hand", "most"]) fun _ _ _ _ _ _ us hl => match us, hl with | [_, _], _ => rfl
  have b_24 := F_24.binds (ps := ["hand", "web"]) fun _ _ _ _ _ _ us hl => match us, hl with | [_, _], _ => rfl
  refine ⟨PySem.W.fnOf "law" "law" (defArgs s_law) (defBody s_law) (defScope s_law) .none kV_25 dc_25 pm_25 an_25 cd_25 ct_25, fun s v => .of_eq rfl, fun base _ _ => ?_⟩
  have d_is_integer : Def P w K mg base 1 1 "is_integer" (W_is_integer) := ⟨_, _, _, ok_is_integer F_0 T (P := P) (w := w) (base := base), b_0, PySem.W.mg_of X G a_0, p_0⟩
  have d_is_within : Def P w K mg base 2 3 "is_within" (W_is_within) := ⟨_, _, _, ok_is_within F_1 T d_is_integer (P := P) (w := w) (base := base), b_1, PySem.W.mg_of X G a_1, p_1⟩
  have d_is_tuple : Def P w K mg base 1 3 "is_tuple" (W_is_tuple) := ⟨_, _, _, ok_is_tuple F_2 T (P := P) (w := w) (base := base), b_2, PySem.W.mg_of X G a_2, p_2⟩
  have d_do_ascend : Def P w K mg base 1 1 "do_ascend" (W_do_ascend) := ⟨_, _, _, ok_do_ascend F_3 T (P := P) (w := w) (base := base), b_3, PySem.W.mg_of X G a_3, p_3⟩
  have d_is_lot_below : Def P w K mg base 3 2 "is_lot_below" (W_is_lot_below) := ⟨_, _, _, ok_is_lot_below F_4 T d_is_within d_do_ascend (P := P) (w := w) (base := base), b_4, PySem.W.mg_of X G a_4, p_4⟩
  have d_keeps_fault : Def P w K mg base 3 1 "keeps_fault" (W_keeps_fault) := ⟨_, _, _, ok_keeps_fault F_5 T d_is_tuple d_is_within (P := P) (w := w) (base := base), b_5, PySem.W.mg_of X G a_5, p_5⟩
  have d_is_link_of : Def P w K mg base 3 2 "is_link_of" (W_is_link_of) := ⟨_, _, _, ok_is_link_of F_6 T d_is_tuple d_is_within (P := P) (w := w) (base := base), b_6, PySem.W.mg_of X G a_6, p_6⟩
  have d_links_fault : Def P w K mg base 4 2 "links_fault" (W_links_fault) := ⟨_, _, _, ok_links_fault F_7 T d_is_tuple d_is_link_of (P := P) (w := w) (base := base), b_7, PySem.W.mg_of X G a_7, p_7⟩
  have d_Web___init : Cla P w K mg base 5 4 "Web" C_Web (W_Web___init C_Web) := ⟨_, _, _, ok_Web___init F_8 T d_is_within d_keeps_fault d_links_fault (P := P) (w := w) (base := base), b_8, ⟨mk_Web, a_8, i_8, kc_Web⟩, PySem.W.mg_of X G aC_Web⟩
  have d_check_web : Def P w K mg base 1 1 "check_web" (W_check_web C_Web) := ⟨_, _, _, ok_check_web F_9 T (P := P) (w := w) (base := base), b_9, PySem.W.mg_of X G a_9, p_9⟩
  have d_reached_from : Def P w K mg base 1 2 "reached_from" (W_reached_from) := ⟨_, _, _, ok_reached_from F_11 T (P := P) (w := w) (base := base), b_11, PySem.W.mg_of X G a_11, p_11⟩
  have d_reached_by : Def P w K mg base 2 1 "reached_by" (W_reached_by) := ⟨_, _, _, ok_reached_by F_10 T d_reached_from (P := P) (w := w) (base := base), b_10, PySem.W.mg_of X G a_10, p_10⟩
  have d_live_of : Def P w K mg base 3 1 "live_of" (W_live_of C_Web) := ⟨_, _, _, ok_live_of F_12 T d_reached_by (P := P) (w := w) (base := base), b_12, PySem.W.mg_of X G a_12, p_12⟩
  have d_sum_of : Def P w K mg base 1 2 "sum_of" (W_sum_of C_Web) := ⟨_, _, _, ok_sum_of F_13 T (P := P) (w := w) (base := base), b_13, PySem.W.mg_of X G a_13, p_13⟩
  have d_check_life : Def P w K mg base 3 1 "check_life" (W_check_life) := ⟨_, _, _, ok_check_life F_14 T d_is_within (P := P) (w := w) (base := base), b_14, PySem.W.mg_of X G a_14, p_14⟩
  have d_check_liars : Def P w K mg base 4 2 "check_liars" (W_check_liars C_Web) := ⟨_, _, _, ok_check_liars F_15 T d_is_lot_below (P := P) (w := w) (base := base), b_15, PySem.W.mg_of X G a_15, p_15⟩
  have d_check_signed : Def P w K mg base 5 3 "check_signed" (W_check_signed C_Web) := ⟨_, _, _, ok_check_signed F_16 T d_check_web d_check_life d_check_liars (P := P) (w := w) (base := base), b_16, PySem.W.mg_of X G a_16, p_16⟩
  have d_worth_of : Def P w K mg base 1 4 "worth_of" (W_worth_of) := ⟨_, _, _, ok_worth_of F_17 T (P := P) (w := w) (base := base), b_17, PySem.W.mg_of X G a_17, p_17⟩
  have d_least_entry : Def P w K mg base 2 5 "least_entry" (W_least_entry C_Web) := ⟨_, _, _, ok_least_entry F_18 T d_sum_of d_worth_of (P := P) (w := w) (base := base), b_18, PySem.W.mg_of X G a_18, p_18⟩
  have d_signed_ages_of : Def P w K mg base 4 3 "signed_ages_of" (W_signed_ages_of C_Web) := ⟨_, _, _, ok_signed_ages_of F_19 T d_reached_by d_live_of d_least_entry (P := P) (w := w) (base := base), b_19, PySem.W.mg_of X G a_19, p_19⟩
  have d_signed_ages : Def P w K mg base 6 3 "signed_ages" (W_signed_ages C_Web) := ⟨_, _, _, ok_signed_ages F_20 T d_check_signed d_signed_ages_of (P := P) (w := w) (base := base), b_20, PySem.W.mg_of X G a_20, p_20⟩
  have d_l_law_hand : Def P w K mg base 1 1 "_law_hand" (W_l_law_hand) := ⟨_, _, _, ok_l_law_hand F_21 T (P := P) (w := w) (base := base), b_21, PySem.W.mg_of X G a_21, p_21⟩
  have d_l_law_draw : Def P w K mg base 1 2 "_law_draw" (W_l_law_draw) := ⟨_, _, _, ok_l_law_draw F_22 T (P := P) (w := w) (base := base), b_22, PySem.W.mg_of X G a_22, p_22⟩
  have d_l_law_ringed : Def P w K mg base 7 2 "_law_ringed" (W_l_law_ringed C_Web) := ⟨_, _, _, ok_l_law_ringed F_23 T d_l_law_draw d_Web___init (P := P) (w := w) (base := base), b_23, PySem.W.mg_of X G a_23, p_23⟩
  have d_l_law_is_right : Def P w K mg base 7 2 "_law_is_right" (W_l_law_is_right C_Web) := ⟨_, _, _, ok_l_law_is_right F_24 T d_l_law_draw d_signed_ages (P := P) (w := w) (base := base), b_24, PySem.W.mg_of X G a_24, p_24⟩
  exact ok_law F_25 T d_l_law_hand d_Web___init d_signed_ages d_l_law_is_right d_l_law_ringed (P := P) (w := w) (base := base)
end NS
namespace NS
open PySem PySem.Spec PyProof.Rows L2 Dn
abbrev QR := M × En → Prop
abbrev P (d : D) : Option M := some (.p d)
theorem L_is_integer {x : Int} {Q : QR} : @OB _ ⟨Q⟩ (W_is_integer [.p (.int x)]) = Q (.p (.bl true), [P (.int x)]) := by
  unfold W_is_integer D_is_integer B_is_integer
  simp
theorem L_is_within {x a b : Int} {Q : QR} : @OB _ ⟨Q⟩ (W_is_within [.p (.int x), .p (.int a), .p (.int b)]) = Q (.p (.bl (decide (a ≤ x) && decide (x ≤ b))), [P (.int x), P (.int a), P (.int b)]) := by
  unfold W_is_within D_is_within B_is_within
  by_cases h : a ≤ x <;> simp [L_is_integer, h]
theorem L_is_tuple {xs : List D} {a b : Int} {Q : QR} : @OB _ ⟨Q⟩ (W_is_tuple [.p (.tup xs), .p (.int a), .p (.int b)]) = Q (.p (.bl (decide (a ≤ xs.length) && decide (xs.length ≤ b))), [P (.tup xs), P (.int a), P (.int b)]) := by
  unfold W_is_tuple D_is_tuple B_is_tuple
  by_cases h : a ≤ xs.length <;> simp [h]
structure KeepsOk (ks : List Int) : Prop where
  lo : 1 ≤ ks.length
  hi : ks.length ≤ 8
  z : ∀ k (h : k < ks.length), 0 ≤ ks[k] ∧ ks[k] ≤ if k = 0 then 0 else 100
def keepsD (ks : List Int) : D := .tup (ks.map .int)
theorem L_keeps_fault {ks : List Int} (h : KeepsOk ks) {Q : QR} (q : Q (.p .non, [P (keepsD ks)])) : @OB _ ⟨Q⟩ (W_keeps_fault [.p (keepsD ks)]) := by
  unfold W_keeps_fault D_keeps_fault B_keeps_fault
  obtain ⟨lo, hi, z⟩ := h
  simp [L_is_tuple, L_is_within, keepsD]
  rw [if_neg (by omega)]
  refine forN (fun k en => ∃ a b, en = [P (keepsD ks), a, b]) ⟨_, _, rfl⟩ ?_ ?_
  · rintro k hk _ ⟨a, b, rfl⟩
    have hk : k < ks.length := by simpa using hk
    have z := z k hk
    by_cases h0 : k = 0
    · subst h0
      simp [L_is_within, keepsD]
      simp at z
      omega
    · rw [if_neg h0] at z
      simp [L_is_within, keepsD, h0]
      have : 0 < k := by omega
      simp [this]
      omega
  · rintro _ ⟨a, b, rfl⟩
    simpa [keepsD] using q
abbrev Lk := Int × Int × Int
def lD (l : Lk) : D := .tup [.int l.1, .int l.2.1, .int l.2.2]
def linksD (ls : List Lk) : D := .tup (ls.map lD)
structure LkOk (n : Nat) (l : Lk) : Prop where
  a0 : 1 ≤ l.1
  a1 : l.1 ≤ n - 1
  b0 : 0 ≤ l.2.1
  b1 : l.2.1 ≤ n - 1
  ne : l.1 ≠ l.2.1
  c0 : 0 ≤ l.2.2
  c1 : l.2.2 ≤ 100
theorem L_is_link_of {n : Nat} {l : Lk} (h : LkOk n l) {Q : QR} (q : Q (.p (.bl true), [P (.int n), P (lD l)])) : @OB _ ⟨Q⟩ (W_is_link_of [.p (.int n), .p (lD l)]) := by
  unfold W_is_link_of D_is_link_of B_is_link_of
  obtain ⟨a0, a1, b0, b1, ne, c0, c1⟩ := h
  simp [L_is_tuple, L_is_within, lD, a0, a1, b0, b1, ne, c0, c1]
  exact q
def lx (l m : Lk) : Prop := l.1 < m.1 ∨ (l.1 = m.1 ∧ l.2.1 < m.2.1)
structure LinksOk (n : Nat) (ls : List Lk) : Prop where
  hi : ls.length ≤ 40
  ok : ∀ l ∈ ls, LkOk n l
  up : ls.Pairwise lx
theorem L_links_fault {n : Nat} {ls : List Lk} (h : LinksOk n ls) {Q : QR} (q : Q (.p .non, [P (.int n), P (linksD ls)])) : @OB _ ⟨Q⟩ (W_links_fault [.p (.int n), .p (linksD ls)]) := by
  unfold W_links_fault D_links_fault B_links_fault
  obtain ⟨hi, ok, up⟩ := h
  simp [L_is_tuple, linksD]
  rw [if_neg (by omega)]
  refine forN (fun k en => ∃ a b, en = [P (.int n), P (linksD ls), a, b]) ⟨_, _, rfl⟩ ?_ ?_
  · rintro k hk _ ⟨a, b, rfl⟩
    have hk : k < ls.length := by simpa using hk
    simp [linksD]
    refine L_is_link_of (ok _ (List.getElem_mem hk)) ?_
    by_cases h0 : k = 0
    · subst h0
      simp [linksD]
    · have hp : 0 < k := by omega
      have e : atI (ls.map lD) ((k : Int) - 1) = some (lD ls[k - 1]) := by
        rw [at_i (by omega) (by rw [List.length_map]; omega)]
        simp
      have u := List.pairwise_iff_getElem.mp up (k - 1) k (by omega) hk (by omega)
      unfold lx at u
      simp [linksD, hp, e]
      simp [lD, u]
      rfl
  · rintro _ ⟨a, b, rfl⟩
    simpa [linksD] using q
def webF (c g : Int) (ks : List Int) (ls : List Lk) : List (Str × M) := [("circle", .p (.int c)), ("growth", .p (.int g)), ("keeps", .p (keepsD ks)), ("links", .p (linksD ls))]
def webD (C : Addr) (c g : Int) (ks : List Int) (ls : List Lk) : D := .ins C [("circle", .int c), ("growth", .int g), ("keeps", keepsD ks), ("links", linksD ls)]
theorem frz_web {C : Addr} {c g : Int} {ks : List Int} {ls : List Lk} : frz (.mi C (webF c g ks ls)) = webD C c g ks ls := by
  unfold webF webD
  simp
theorem web_keeps {C : Addr} {c g : Int} {ks : List Int} {ls : List Lk} : gAttr C "keeps" (.p (webD C c g ks ls)) = some (.p (keepsD ks)) := by
  unfold webD
  rw [g_attr]; rfl
theorem web_links {C : Addr} {c g : Int} {ks : List Int} {ls : List Lk} : gAttr C "links" (.p (webD C c g ks ls)) = some (.p (linksD ls)) := by
  unfold webD
  rw [g_attr]; rfl
theorem put_w1 {a : M} : putM "circle" a ([] : List (Str × M)) = ([("circle", a)] : List (Str × M)) := rfl
theorem put_w2 {a b : M} : putM "growth" b ([("circle", a)] : List (Str × M)) = ([("circle", a), ("growth", b)] : List (Str × M)) := rfl
theorem put_w3 {a b c : M} : putM "keeps" c ([("circle", a), ("growth", b)] : List (Str × M)) = ([("circle", a), ("growth", b), ("keeps", c)] : List (Str × M)) := rfl
theorem put_w4 {a b c d : M} : putM "links" d ([("circle", a), ("growth", b), ("keeps", c)] : List (Str × M)) = ([("circle", a), ("growth", b), ("keeps", c), ("links", d)] : List (Str × M)) := rfl
theorem L_Web {C : Addr} {c g : Int} {ks : List Int} {ls : List Lk} (hc : 3 ≤ c ∧ c ≤ 1000) (hg : 0 ≤ g ∧ g ≤ 1000) (hk : KeepsOk ks) (hl : LinksOk ks.length ls) {Q : QR} (q : Q (.p .non, [some (.mi C (webF c g ks ls)), P (.int c), P (.int g), P (keepsD ks), P (linksD ls)])) :
    @OB _ ⟨Q⟩ (W_Web___init C [.mi C [], .p (.int c), .p (.int g), .p (keepsD ks), .p (linksD ls)]) := by
  unfold W_Web___init D_Web___init B_Web___init
  simp [L_is_within, hc, hg]
  refine L_keeps_fault hk ?_
  simp
  rw [show gLen (.p (keepsD ks)) = some (.p (.int ks.length)) from by unfold keepsD; simp]
  simp
  refine L_links_fault hl ?_
  simp [put_w1, put_w2, put_w3, put_w4]
  exact q

/-! the hand: b draws at most were made -/
def hD (cs : List Int) (i z m n : Int) : List D := [.lst (cs.map .int), .int i, .int z, .int m, .int n]
structure HandN (b : Nat) (cs : List Int) (i z m n : Int) : Prop where
  c : ∀ x ∈ cs, 0 ≤ x ∧ x < 10000000000000000000000000000000000000000
  i0 : 0 ≤ i
  z0 : 0 ≤ z
  z1 : z < 10000000000000000000000000000000000000000
  m0 : 0 ≤ m
  m1 : m < 1000000000000
  n0 : 0 ≤ n
  n1 : n ≤ b
def HandOk (b : Nat) (h : List D) : Prop := ∃ cs i z m n, h = hD cs i z m n ∧ HandN b cs i z m n
theorem HandOk.mono {b b' : Nat} {h : List D} (H : HandOk b h) (l : b ≤ b') : HandOk b' h := by
  obtain ⟨cs, i, z, m, n, e, H⟩ := H
  exact ⟨cs, i, z, m, n, e, H.c, H.i0, H.z0, H.z1, H.m0, H.m1, H.n0, by have := H.n1; omega⟩
theorem L_draw1 {b : Nat} {cs : List Int} {i z m n k : Int} (H : HandN b cs i z m n) {t : FS} {Q : QS} (q : ∀ i' z' m' x, HandN b cs i' z' m' n → @OB _ ⟨Q⟩ (t [some (.ml (hD cs i' z' m' n)), P (.int k), none, x, none])) :
    @OB _ ⟨Q⟩ (fSeq (fIf (fAnd (fB (fBin gEq (fBin gIx (fName 0) (fC (.int 2))) (fC (.int 0)))) (fB (fBin gLt (fBin gIx (fName 0) (fC (.int 1))) (fUn gLen (fBin gIx (fName 0) (fC (.int 0))))))) (fSeq (fSet 3 (fBin gIx (fBin gIx (fName 0) (fC (.int 0))) (fBin gIx (fName 0) (fC (.int 1)))))
  (fSeq (fSetIx 0 (fV (fBin gAdd (fBin gIx (fName 0) (fC (.int 1))) (fC (.int 1)))) (fC (.int 1)))
  (fSeq (fSetIx 0 (fV (fBin gMod (fUn gInt (fBin gAdd (fBin gAdd (fBin gMul (fBin gIx (fName 0) (fC (.int 3))) (fC (.int 69621))) (fBin gMul (fName 3) (fC (.int 40692)))) (fC (.int 61)))) (fC (.int 2147483629)))) (fC (.int 3)))
  (fIf (fB (fBin gGe (fName 3) (fBin gPow (fC (.int 10)) (fC (.int 18))))) (fSetIx 0 (fV (fName 3)) (fC (.int 2))) fSkip)))) fSkip) t [some (.ml (hD cs i z m n)), P (.int k), none, none, none]) := by
  obtain ⟨c, i0, z0, z1, m0, m1, n0, n1⟩ := H
  by_cases hz : z = 0
  · by_cases hi : i < cs.length
    · have e1 : atI (cs.map D.int) i = some (.int (cs[i.toNat]'(by omega))) := by
        rw [at_i i0 (by rw [List.length_map]; exact hi)]
        simp
      have hc := c _ (List.getElem_mem (show i.toNat < cs.length by omega))
      generalize cs[i.toNat]'(by omega) = x at e1 hc
      have s1 : sm m = true := sm_of (by omega) (by omega)
      have s2 : sm x = true := sm_of (by omega) (by omega)
      have s3 : sm 69621 = true := sm_of (by omega) (by omega)
      have s4 : sm 40692 = true := sm_of (by omega) (by omega)
      simp [hD, hz, hi, e1, g_mul s1 s3, g_mul s2 s4, g_mod, ixN_i]
      split
      · exact q _ _ _ _ ⟨c, by omega, hc.1, hc.2, by omega, by omega, n0, n1⟩
      · exact q _ _ _ _ ⟨c, by omega, by omega, by omega, by omega, by omega, n0, n1⟩
    · simp [hD, hz, hi]
      exact q _ _ _ _ ⟨c, i0, by omega, by omega, m0, m1, n0, n1⟩
  · simp [hD, hz]
    exact q _ _ _ _ ⟨c, i0, by omega, by omega, m0, m1, n0, n1⟩
theorem L_draw {b : Nat} {h : List D} {k : Int} (H : HandOk b h) (hb : b < 1000000000) (k0 : 0 < k) (k1 : k < 1000000000) {Q : QR} (q : ∀ h' v, HandOk (b + 1) h' → 0 ≤ v → v < k → Q (.p (.int v), [some (.ml h'), P (.int k)])) :
    @OB _ ⟨Q⟩ (W_l_law_draw [.ml h, .p (.int k)]) := by
  obtain ⟨cs, i, z, m, n, rfl, H⟩ := H
  unfold W_l_law_draw D_l_law_draw B_l_law_draw
  rw [k_run]
  refine L_draw1 H fun i z m x H => ?_
  obtain ⟨c, i0, z0, z1, m0, m1, n0, n1⟩ := H
  have sk : sm k = true := sm_of (by omega) (by omega)
  by_cases hz : 0 < z
  · simp [hD, hz, g_mod, g_fdiv, sk, k0, ixN_i]
    refine q _ _ ⟨_, _, _, _, _, rfl, c, i0, Int.ediv_nonneg z0 (by omega), ?_, m0, m1, n0, by omega⟩ (Int.emod_nonneg _ (by omega)) (Int.emod_lt_of_pos _ k0)
    exact Int.lt_of_le_of_lt (Int.ediv_le_self _ z0) z1
  · have e0 : z = 0 := by omega
    subst e0
    have s1 : sm (n + 1) = true := sm_of (by omega) (by omega)
    have s2 : sm (m + 7919 * (n + 1)) = true := sm_of (by omega) (by omega)
    have s3 : sm 48271 = true := sm_of (by omega) (by omega)
    have s4 : sm 1009 = true := sm_of (by omega) (by omega)
    have s5 : sm 2003 = true := sm_of (by omega) (by omega)
    have s6 : sm 7919 = true := sm_of (by omega) (by omega)
    have s7 : sm 16 = true := sm_of (by omega) (by omega)
    simp [hD, ixN_i, g_mul s6 s1, g_mul s2 s3, g_mod]
    generalize hu : ((m + 7919 * (n + 1)) * 48271) % 2147483647 = u
    have u0 : sm u = true := sm_of (by omega) (by omega)
    have u1 : sm (u / 1009 + 69621) = true := sm_of (by omega) (by omega)
    simp [g_fdiv, s4, g_mul u0 u1, g_mod]
    generalize hv : (u * (u / 1009 + 69621)) % 2147483647 = v
    have v0 : sm v = true := sm_of (by omega) (by omega)
    have v1 : sm (v / 2003 + 40692) = true := sm_of (by omega) (by omega)
    simp [g_fdiv, s5, g_mul v0 v1, g_mod, s7, k0]
    exact q _ _ ⟨_, _, _, _, _, rfl, c, i0, by omega, by omega, m0, m1, by omega, by omega⟩ (Int.emod_nonneg _ (by omega)) (Int.emod_lt_of_pos _ k0)
theorem hand0 {ns : List Int} {m : Int} (m0 : 0 ≤ m) (m1 : m < 1000000000000) : HandOk 0 [D.lst (ns.map fun n => D.int ((if n < 0 then -n else n) % 10000000000000000000000000000000000000000)), .int 0, .int 0, .int m, .int 0] := by
  refine ⟨ns.map (fun n => (if n < 0 then -n else n) % 10000000000000000000000000000000000000000), 0, 0, m, 0, ?_, ?_⟩
  · unfold hD
    rw [List.map_map]; rfl
  · refine ⟨fun x hx => ?_, by omega, by omega, by omega, by omega, by omega, by omega, by omega⟩
    obtain ⟨n, _, rfl⟩ := List.mem_map.mp hx
    exact ⟨Int.emod_nonneg _ (by omega), Int.emod_lt_of_pos _ (by omega)⟩
theorem L_hand {ns : List Int} (hl : ns.length ≤ 63) {Q : QR} (q : ∀ h, HandOk 0 h → Q (.ml h, [P (.lst (ns.map .int))])) :
    @OB _ ⟨Q⟩ (W_l_law_hand [.p (.lst (ns.map .int))]) := by
  unfold W_l_law_hand D_l_law_hand B_l_law_hand
  have e : cutA (ns.map D.int) none (some 63) = ns.map D.int := cutAll (n := 63) (by rw [List.length_map]; exact hl)
  simp [e]
  refine lcMap D.int (fun n => .int ((if n < 0 then -n else n) % 10000000000000000000000000000000000000000)) (Nat.lt_of_le_of_lt hl (by decide)) ?_ ?_
  · have s1 : sm 13 = true := sm_of (by omega) (by omega)
    have s2 : sm ns.length = true := sm_of (by omega) (by omega)
    simp [g_mul s1 s2]
    exact q _ (hand0 (by omega) (by omega))
  · intro a ha
    simp [g_mod]

structure WebOk (c g : Int) (ks : List Int) (ls : List Lk) : Prop where
  c : 3 ≤ c ∧ c ≤ 1000
  g : 0 ≤ g ∧ g ≤ 1000
  k : KeepsOk ks
  l : LinksOk ks.length ls
  two : 2 ≤ ks.length

def oD : Option Int → D
  | none => .non
  | some i => .int i
@[simp] theorem oD_n : oD none = .non := rfl
@[simp] theorem oD_s {i : Int} : oD (some i) = .int i := rfl
abbrev Row := List (Option Int)
def gO (row : Row) (i : Int) : Option Int := (row[i.toNat]?).join
theorem at_o {row : Row} {i : Int} (h : 0 ≤ i) (h' : i < row.length) : atI (row.map oD) i = some (oD (gO row i)) := by
  rw [at_i h (by rw [List.length_map]; exact h')]
  unfold gO
  rw [List.getElem?_eq_getElem (show i.toNat < row.length by omega)]
  simp
def kO (ks : List Int) (i : Int) : Int := ks.getD i.toNat 0
theorem at_k {ks : List Int} {i : Int} (h : 0 ≤ i) (h' : i < ks.length) : atI (ks.map D.int) i = some (.int (kO ks i)) := by
  rw [at_i h (by rw [List.length_map]; exact h')]
  unfold kO
  rw [List.getD_eq_getElem?_getD, List.getElem?_eq_getElem (show i.toNat < ks.length by omega)]
  simp
def RowB (B : Int) (row : Row) : Prop := ∀ i, some i ∈ row → 0 ≤ i ∧ i ≤ B
theorem gO_mem {row : Row} {i x : Int} (h : gO row i = some x) : some x ∈ row := by
  unfold gO at h
  cases e : row[i.toNat]? with
  | none => rw [e] at h; cases h
  | some y =>
    rw [e] at h
    have h : y = some x := h
    subst h
    exact List.mem_of_getElem? e
def rowD (row : Row) : D := .tup (row.map oD)
theorem repr_row {row : Row} {B : Int} (hb : B < 1000000) (h : RowB B row) (l : row.length ≤ 8) : gRepr (.p (.tup (row.map oD))) = some (.p (.str (pyD (rowD row)).shown)) := by
  refine repr_tup (smDs_iff fun d hd => ?_) (Nat.le_trans (szDs_le (c := 1) fun d hd => ?_) (by rw [List.length_map]; omega))
  · obtain ⟨o, ho, rfl⟩ := List.mem_map.mp hd
    cases o with
    | none => rfl
    | some i =>
      have := h i ho
      exact sm_int (Nat.lt_of_lt_of_le (show i.natAbs < 2 ^ 20 by omega) (Nat.pow_le_pow_right (by decide) (by decide)))
  · obtain ⟨o, ho, rfl⟩ := List.mem_map.mp hd
    cases o <;> exact Nat.le_refl _

theorem nodup_len : ∀ (n : Nat) (l : List Int), l.Nodup → (∀ x ∈ l, 0 ≤ x ∧ x < n) → l.length ≤ n
  | 0, l, _, h => by
    cases l with
    | nil => exact Nat.le_refl _
    | cons x r =>
      have := h x (by simp)
      omega
  | n + 1, l, d, h => by
    by_cases m : (n : Int) ∈ l
    · have e := List.length_erase_of_mem m
      have := nodup_len n (l.erase (n : Int)) (d.erase _) fun x hx => by
        have h1 := h x (List.mem_of_mem_erase hx)
        have h2 : x ≠ (n : Int) := fun z => by
          subst z
          exact (List.Nodup.not_mem_erase d) hx
        omega
      have : 0 < l.length := List.length_pos_of_mem m
      omega
    · have := nodup_len n l d fun x hx => by
        have h1 := h x hx
        have h2 : x ≠ (n : Int) := fun z => m (by rw [← z]; exact hx)
        omega
      omega
/-! what the source reaches -/
inductive Reach (ls : List Lk) : Int → Prop
  | src : Reach ls 0
  | step {l : Lk} : l ∈ ls → Reach ls l.2.1 → Reach ls l.1
theorem reach_of {ls : List Lk} {ps : List Int} (h0 : 0 ∈ ps) (h1 : ∀ l ∈ ls, l.2.1 ∈ ps → l.1 ∈ ps) {p : Int} (r : Reach ls p) : p ∈ ps := by
  induction r with
  | src => exact h0
  | step hl _ ih => exact h1 _ hl ih
def ReachL (ls : List Lk) (ps : List Int) : Prop := ∀ p, p ∈ ps ↔ Reach ls p

structure RFI (ls : List Lk) (n : Nat) (k : Nat) (found : List Int) : Prop where
  z : 0 ∈ found
  r : ∀ p ∈ found, Reach ls p
  d : found.Nodup
  b : ∀ p ∈ found, 0 ≤ p ∧ p < n
  c : ∀ i (h : i < k) (h' : i < found.length), ∀ l ∈ ls, l.2.1 = found[i] → l.1 ∈ found
  k : k ≤ found.length
theorem RFI.len {ls : List Lk} {n k : Nat} {found : List Int} (I : RFI ls n k found) : found.length ≤ n := nodup_len n found I.d I.b
def RFin (ls : List Lk) (n : Nat) (k : Nat) (r : List Lk) (en : En) : Prop := ∃ found x, en = [P (linksD ls), some (.ml (found.map .int)), P (.int k), x] ∧ RFI ls n k found ∧ (∀ l ∈ r, l ∈ ls) ∧ ∃ h : k < found.length, ∀ l ∈ ls, l.2.1 = found[k] → l.1 ∈ found ∨ l ∈ r
def RFo (ls : List Lk) (n : Nat) (m : Nat) (en : En) : Prop := ∃ (found : List Int) (k : Nat) (x : Option M), en = [P (linksD ls), some (.ml (found.map .int)), P (.int k), x] ∧ RFI ls n k found ∧ m = n - k
theorem L_reached_from {n : Nat} {ls : List Lk} (L : LinksOk n ls) (hn : 1 ≤ n) (hn' : n ≤ 8) {Q : QR} (q : ∀ ps : List Int, ReachL ls ps → Q (.ml (ps.map .int), [P (linksD ls), none])) : @OB _ ⟨Q⟩ (W_reached_from [.p (linksD ls), .ml [.int 0]]) := by
  unfold W_reached_from D_reached_from B_reached_from
  simp
  refine whI (RFo ls n) ?_ 1000000 n _ ⟨[0], 0, none, rfl, ⟨by simp, fun p hp => ?_, by simp, fun p hp => ?_, fun i h => absurd h (Nat.not_lt_zero i), by simp⟩, rfl⟩ (by omega)
  · rintro m _ ⟨found, k, x, rfl, I, rfl⟩
    have hl := I.len
    by_cases hk : k < found.length
    · have hk' : (k : Int) < found.length := by omega
      simp [hk', linksD]
      refine forI lD (RFin ls n k) ls ⟨found, x, rfl, I, fun l h => h, hk, fun l h e => .inr h⟩ ?_ ?_
      · rintro l r _ ⟨found, x, rfl, I, hr, hk, hc⟩
        have hl := I.len
        have hk' : (k : Int) < found.length := by omega
        have e : atI (found.map D.int) (k : Int) = some (.int found[k]) := by
          rw [at_i (by omega) (by rw [List.length_map]; exact hk')]
          simp
        have LO := L.ok l (hr l (by simp))
        have a0 := LO.a0
        have a1 := LO.a1
        by_cases h1 : l.2.1 = found[k]
        · by_cases h2 : l.1 ∈ found
          · simp [lD, e, h1, h2]
            refine ⟨found, _, rfl, I, fun m h => hr m (by simp [h]), hk, fun m h z => ?_⟩
            rcases hc m h z with c | c
            · exact .inl c
            · rcases List.mem_cons.mp c with c | c
              · rw [c]; exact .inl h2
              · exact .inr c
          · simp [lD, e, h1, h2]
            rw [g_catL (xs := found.map D.int) (ys := [D.int l.1]) rfl rfl (by simp; omega)]
            simp
            refine ⟨found ++ [l.1], _, by simp; rfl, ⟨by simp [I.z], fun p hp => ?_, ?_, fun p hp => ?_, fun i hi hi' m hm z => ?_, by simp; omega⟩, fun m h => hr m (by simp [h]), by simp; omega, fun m h z => ?_⟩
            · rcases List.mem_append.mp hp with hp | hp
              · exact I.r p hp
              · rw [List.mem_singleton.mp hp]
                exact .step (hr l (by simp)) (by rw [h1]; exact I.r _ (List.getElem_mem hk))
            · refine List.nodup_append.mpr ⟨I.d, by simp, fun a ha b hb z => ?_⟩
              rw [List.mem_singleton.mp hb] at z
              exact h2 (z ▸ ha)
            · rcases List.mem_append.mp hp with hp | hp
              · exact I.b p hp
              · rw [List.mem_singleton.mp hp]
                omega
            · have hi2 : i < found.length := by omega
              rw [List.getElem_append_left hi2] at z
              exact List.mem_append_left _ (I.c i hi hi2 m hm z)
            · rw [List.getElem_append_left hk] at z
              rcases hc m h z with c | c
              · exact .inl (List.mem_append_left _ c)
              · rcases List.mem_cons.mp c with c | c
                · rw [c]; exact .inl (by simp)
                · exact .inr c
        · simp [lD, e, h1]
          refine ⟨found, _, rfl, I, fun m h => hr m (by simp [h]), hk, fun m h z => ?_⟩
          rcases hc m h z with c | c
          · exact .inl c
          · rcases List.mem_cons.mp c with c | c
            · rw [c] at z; exact absurd z h1
            · exact .inr c
      · rintro _ ⟨found, x, rfl, I, hr, hk, hc⟩
        have hl := I.len
        simp
        refine ⟨n - (k + 1), by omega, found, k + 1, x, rfl, ⟨I.z, I.r, I.d, I.b, fun i hi hi' m hm z => ?_, hk⟩, rfl⟩
        by_cases e : i < k
        · exact I.c i e hi' m hm z
        · have : i = k := by omega
          subst this
          rcases hc m hm z with c | c
          · exact c
          · cases c
    · have hk' : ¬ (k : Int) < found.length := by omega
      simp [hk']
      refine q _ fun p => ?_
      rw [sortI_mem]
      refine ⟨I.r p, fun r => reach_of I.z (fun l hl h => ?_) r⟩
      obtain ⟨i, hi, e⟩ := List.getElem_of_mem h
      have := I.k
      exact I.c i (by omega) hi l hl e.symm
  · rw [List.mem_singleton.mp hp]; exact .src
  · rw [List.mem_singleton.mp hp]; omega
theorem L_reached_by {n : Nat} {ls : List Lk} (L : LinksOk n ls) (hn : 1 ≤ n) (hn' : n ≤ 8) {Q : QR} (q : ∀ ps : List Int, ReachL ls ps → Q (.ml (ps.map .int), [P (linksD ls)])) : @OB _ ⟨Q⟩ (W_reached_by [.p (linksD ls)]) := by
  unfold W_reached_by D_reached_by B_reached_by
  simp
  refine L_reached_from L hn hn' fun ps h => ?_
  simp
  exact q ps h

def liveP (ls : List Lk) (ps : List Int) : List Lk := ls.filter fun l => decide (l.2.1 ∈ ps)
theorem liveP_eq {ls : List Lk} {ps ps' : List Int} (h : ReachL ls ps) (h' : ReachL ls ps') : liveP ls ps = liveP ls ps' := by
  unfold liveP
  congr 1
  funext l
  exact decide_eq_decide.mpr ((h _).trans (h' _).symm)
theorem liveP_mem {ls : List Lk} {ps : List Int} (h : ReachL ls ps) {l : Lk} : l ∈ liveP ls ps ↔ l ∈ ls ∧ Reach ls l.2.1 := by
  unfold liveP
  rw [List.mem_filter, decide_eq_true_eq, h]
theorem L_live_of {C : Addr} {c g : Int} {ks : List Int} {n : Nat} {ls : List Lk} (L : LinksOk n ls) (hn : 1 ≤ n) (hn' : n ≤ 8) {Q : QR} (q : ∀ ps : List Int, ReachL ls ps → Q (.p (linksD (liveP ls ps)), [P (webD C c g ks ls)])) : @OB _ ⟨Q⟩ (W_live_of C [.p (webD C c g ks ls)]) := by
  unfold W_live_of D_live_of B_live_of
  simp [web_links]
  refine L_reached_by L hn hn' fun ps h => ?_
  simp [web_links, linksD]
  have hi := L.hi
  refine lcFil lD (fun l => decide (l.2.1 ∈ ps)) lD (by show ls.length < 1000000; omega) ?_ ?_
  · simp
    exact q ps h
  · intro l hl
    by_cases hm : l.2.1 ∈ ps
    · simp [lD, hm]
    · simp [lD, hm]

@[simp] theorem g_allB {bs : List Bool} : gAll (.ml (bs.map D.bl)) = some (.p (.bl (bs.all id))) := by
  have e : ∀ bs : List Bool, blsD (bs.map D.bl) = some bs := by
    intro bs
    induction bs with
    | nil => rfl
    | cons b r ih => rw [List.map_cons, blsD, ih]; rfl
  show ((blsD (bs.map D.bl)).map fun ks => pB (ks.all id)) = _
  rw [e]; rfl
theorem g_allT {k : Nat} : gAll (.ml (List.replicate k (D.bl true))) = some (.p (.bl true)) := by
  have := g_allB (bs := List.replicate k true)
  rw [List.map_replicate] at this
  rw [this]
  simp
@[simp] theorem zip_len {xs ys : List D} : (zipD xs ys).length = min xs.length ys.length := by unfold zipD; simp
@[simp] theorem zip_get {xs ys : List D} {k : Nat} (h : k < (zipD xs ys).length) : (zipD xs ys)[k] = .tup [xs[k]'(by simp at h; omega), ys[k]'(by simp at h; omega)] := by simp only [zipD, List.getElem_zipWith]
theorem cutTail {xs : List D} : cutA xs (some 1) none = xs.drop 1 := by
  unfold cutA
  rw [HT.sIx_none]
  have e : HT.sIx xs.length 0 (some 1) = min 1 xs.length := HT.sIx_nat xs.length 0 1
  rw [e]
  cases xs with
  | nil => rfl
  | cons x r =>
    have : min 1 (x :: r).length = 1 := by simp
    rw [this]
    simp
def LotOk (n : Nat) (ps : List Int) : Prop := (∀ p ∈ ps, 1 ≤ p ∧ p < n) ∧ ps.Pairwise (· < ·) ∧ ps.length < 1000
def lotD (ps : List Int) : D := .tup (ps.map .int)
theorem L_do_ascend {ps : List Int} (h : ps.Pairwise (· < ·)) (hl : ps.length < 1000) {Q : QR} (q : Q (.p (.bl true), [P (lotD ps)])) : @OB _ ⟨Q⟩ (W_do_ascend [.p (lotD ps)]) := by
  unfold W_do_ascend D_do_ascend B_do_ascend
  simp [lotD, cutTail]
  refine lcN (fun k en acc => en = [P (lotD ps), none, none] ∧ acc = List.replicate k (.bl true)) ⟨rfl, rfl⟩ ?_ ?_
  · rintro k hk _ _ ⟨rfl, rfl⟩
    simp at hk
    have := List.pairwise_iff_getElem.mp h k (k + 1) (by omega) (by omega) (by omega)
    simp [this]
    exact ⟨by omega, by rw [List.replicate_succ']⟩
  · rintro _ _ ⟨rfl, rfl⟩
    simp [g_allT]
    exact q
theorem L_is_lot {n : Nat} {ps : List Int} (h : LotOk n ps) {Q : QR} (q : Q (.p (.bl true), [P (lotD ps), P (.int n)])) : @OB _ ⟨Q⟩ (W_is_lot_below [.p (lotD ps), .p (.int n)]) := by
  unfold W_is_lot_below D_is_lot_below B_is_lot_below
  obtain ⟨h1, h2, h3⟩ := h
  simp [lotD]
  refine lcI D.int (fun r en acc => en = [P (lotD ps), P (.int n), none] ∧ (∀ p ∈ r, 1 ≤ p ∧ p < n) ∧ (∃ k, acc = List.replicate k (.bl true)) ∧ acc.length + r.length < 1000) ps ⟨rfl, h1, ⟨0, rfl⟩, by simpa using h3⟩ ?_ ?_
  · rintro p r _ _ ⟨rfl, hr, ⟨k, rfl⟩, hl⟩
    obtain ⟨a, b⟩ := hr p (by simp)
    have a' : 0 ≤ p := by omega
    have b' : p ≤ n - 1 := by omega
    simp at hl
    simp [L_is_within, a', b']
    refine ⟨by omega, fun x hx => hr x (by simp [hx]), ⟨k + 1, by rw [List.replicate_succ']⟩, by omega⟩
  · rintro _ _ ⟨rfl, -, ⟨k, rfl⟩, -⟩
    simp [g_allT]
    refine L_do_ascend h2 h3 ?_
    simpa using q
theorem LotOk.zero {n : Nat} {ps : List Int} (h : LotOk n ps) : ¬ (0 : Int) ∈ ps := fun z => by have := (h.1 0 z).1; omega

@[simp] theorem isC_web {C : Addr} {c g : Int} {ks : List Int} {ls : List Lk} : gIsC C (.p (webD C c g ks ls)) = some (.p (.bl true)) := if_pos rfl
theorem L_check_web {C : Addr} {c g : Int} {ks : List Int} {ls : List Lk} {Q : QR} (q : Q (.p .non, [P (webD C c g ks ls)])) : @OB _ ⟨Q⟩ (W_check_web C [.p (webD C c g ks ls)]) := by
  unfold W_check_web D_check_web B_check_web
  simp
  exact q

theorem L_sum_of {C : Addr} {c g : Int} {ks : List Int} {ls : List Lk} {l : Lk} {Q : QR} (L : LkOk ks.length l) (q : Q (.p (.int (l.2.2 + kO ks l.1)), [P (webD C c g ks ls), P (lD l)])) : @OB _ ⟨Q⟩ (W_sum_of C [.p (webD C c g ks ls), .p (lD l)]) := by
  unfold W_sum_of D_sum_of B_sum_of
  have a0 := L.a0
  have a1 := L.a1
  have e := at_k (ks := ks) (i := l.1) (by omega) (by omega)
  simp [web_keeps, keepsD, lD, e]
  exact q
theorem kO_b {ks : List Int} (K : KeepsOk ks) {i : Int} (h0 : 1 ≤ i) (h1 : i < ks.length) : 0 ≤ kO ks i ∧ kO ks i ≤ 100 := by
  have := K.z i.toNat (by omega)
  unfold kO
  rw [List.getD_eq_getElem?_getD, List.getElem?_eq_getElem (show i.toNat < ks.length by omega)]
  rw [if_neg (by omega)] at this
  exact this

/-! growing -/
def worthR (life : Int) (liars : List Int) (row : Row) (p : Int) : Int := if p ∈ liars then life else (gO row p).getD 0
def leastR (ks : List Int) (life : Int) (liars : List Int) (row : Row) (l : Lk) : Int := if l.2.2 + kO ks l.1 + worthR life liars row l.2.1 < life then l.2.2 + kO ks l.1 + worthR life liars row l.2.1 else life
def stepG (ks : List Int) (life : Int) (liars : List Int) (s : Row × Bool) (l : Lk) : Row × Bool := if (gO s.1 l.1).getD 0 < leastR ks life liars s.1 l then (s.1.set l.1.toNat (some (leastR ks life liars s.1 l)), true) else s
def passG (ks : List Int) (life : Int) (liars : List Int) (lv : List Lk) (row : Row) : Row × Bool := lv.foldl (stepG ks life liars) (row, false)
inductive Grown (ks : List Int) (life : Int) (liars : List Int) (lv : List Lk) : Row → Row → Prop
  | stop {row out : Row} : passG ks life liars lv row = (out, false) → Grown ks life liars lv row out
  | go {row mid out : Row} : passG ks life liars lv row = (mid, true) → Grown ks life liars lv mid out → Grown ks life liars lv row out
theorem Grown.det {ks : List Int} {life : Int} {liars : List Int} {lv : List Lk} {row a b : Row} (h : Grown ks life liars lv row a) (h' : Grown ks life liars lv row b) : a = b := by
  induction h with
  | stop e =>
    cases h' with
    | stop e' => rw [e] at e'; cases e'; rfl
    | go e' _ => rw [e] at e'; cases e'
  | go e _ ih =>
    cases h' with
    | stop e' => rw [e] at e'; cases e'
    | go e' g => rw [e] at e'; cases e'; exact ih g
/-- what a row looks like on the way: ints where the source reaches -/
structure RowG (ls : List Lk) (n : Nat) (life : Int) (row : Row) : Prop where
  len : row.length = n
  pat : ∀ i : Int, 0 ≤ i → i < n → ((gO row i).isSome = true ↔ Reach ls i)
  b : RowB life row
theorem RowG.at_ {ls : List Lk} {n : Nat} {life : Int} {row : Row} (R : RowG ls n life row) {i : Int} (h0 : 0 ≤ i) (h1 : i < n) (r : Reach ls i) : ∃ v, gO row i = some v ∧ 0 ≤ v ∧ v ≤ life := by
  have h := (R.pat i h0 h1).mpr r
  cases e : gO row i with
  | none => rw [e] at h; cases h
  | some v => exact ⟨v, rfl, R.b v (gO_mem e)⟩
theorem gO_set {row : Row} {i j : Int} {v : Option Int} (h0 : 0 ≤ i) (hj : 0 ≤ j) (h1 : i < row.length) : gO (row.set i.toNat v) j = if i = j then v else gO row j := by
  unfold gO
  by_cases e : i = j
  · subst e
    rw [if_pos rfl, List.getElem?_set_self (by omega)]; rfl
  · rw [if_neg e, List.getElem?_set_ne (by omega)]
def defi (life : Int) (row : Row) : Nat := (row.map fun o => match o with
  | none => 0
  | some i => (life - i).toNat).sum
theorem sum_set {f : Option Int → Nat} : ∀ {row : Row} {k : Nat} {v : Option Int} (h : k < row.length), ((row.set k v).map f).sum + f row[k] = (row.map f).sum + f v
  | [], k, v, h => absurd h (Nat.not_lt_zero _)
  | x :: r, 0, v, h => by simp; omega
  | x :: r, k + 1, v, h => by
    have := sum_set (f := f) (row := r) (k := k) (v := v) (by simpa using h)
    simp
    simp at this
    omega
theorem defi_set {life : Int} {row : Row} {i a b : Int} (h0 : 0 ≤ i) (h1 : i < row.length) (e : gO row i = some a) (hab : a < b) (hb : b ≤ life) : defi life (row.set i.toNat (some b)) < defi life row := by
  have hk : i.toNat < row.length := by omega
  have e' : row[i.toNat] = some a := by
    unfold gO at e
    rw [List.getElem?_eq_getElem hk] at e
    exact e
  have := sum_set (f := fun o => match o with
    | none => 0
    | some i => (life - i).toNat) (row := row) (k := i.toNat) (v := some b) hk
  rw [e'] at this
  simp only at this
  unfold defi
  omega
theorem defi_le {life : Int} (h0 : 0 ≤ life) : ∀ {row : Row}, RowB life row → defi life row ≤ life.toNat * row.length
  | [], _ => Nat.le_refl _
  | x :: r, h => by
    have ih := defi_le h0 (row := r) fun i hi => h i (by simp [hi])
    unfold defi at ih ⊢
    rw [List.map_cons, List.sum_cons, List.length_cons, Nat.mul_add]
    cases x with
    | none => simp only; omega
    | some i =>
      have := h i (by simp)
      simp only
      omega
/-- one link's step keeps it -/
theorem stepG_ok {ls : List Lk} {ks : List Int} {life : Int} {liars : List Int} {row : Row} {b : Bool} {l : Lk} (K : KeepsOk ks) (L : LkOk ks.length l) (hl : l ∈ ls) (hr : Reach ls l.2.1) (l0 : 0 ≤ life) (R : RowG ls ks.length life row) :
    0 ≤ leastR ks life liars row l ∧ leastR ks life liars row l ≤ life ∧ RowG ls ks.length life (stepG ks life liars (row, b) l).1 ∧ defi life (stepG ks life liars (row, b) l).1 ≤ defi life row ∧ ((stepG ks life liars (row, b) l).2 = true → b = true ∨ defi life (stepG ks life liars (row, b) l).1 < defi life row) ∧ (b = true → (stepG ks life liars (row, b) l).2 = true) := by
  obtain ⟨a0, a1, b0, b1, ne, c0, c1⟩ := L
  have ra : Reach ls l.1 := .step hl hr
  obtain ⟨v, hv, v0, v1⟩ := R.at_ b0 (by omega) hr
  obtain ⟨u, hu, u0, u1⟩ := R.at_ (i := l.1) (by omega) (by omega) ra
  have kb := kO_b K a0 (show l.1 < ks.length by omega)
  have w0 : 0 ≤ worthR life liars row l.2.1 := by
    unfold worthR
    rw [hv]
    split
    · exact l0
    · exact v0
  have m0 : 0 ≤ leastR ks life liars row l ∧ leastR ks life liars row l ≤ life := by
    unfold leastR
    split <;> omega
  refine ⟨m0.1, m0.2, ?_⟩
  unfold stepG
  by_cases h : (gO row l.1).getD 0 < leastR ks life liars row l
  · rw [if_pos h]
    rw [hu] at h
    have h : u < leastR ks life liars row l := h
    have d := defi_set (life := life) (row := row) (i := l.1) (b := leastR ks life liars row l) (by omega) (by rw [R.len]; omega) hu h m0.2
    refine ⟨⟨by simp [R.len], fun i i0 i1 => ?_, fun i hi => ?_⟩, Nat.le_of_lt d, fun _ => .inr d, fun _ => rfl⟩
    · rw [gO_set (by omega) i0 (by rw [R.len]; omega)]
      by_cases e : l.1 = i
      · subst e
        rw [if_pos rfl]
        exact ⟨fun _ => ra, fun _ => rfl⟩
      · rw [if_neg e]
        exact R.pat i i0 i1
    · rcases List.mem_or_eq_of_mem_set hi with hi | hi
      · exact R.b i hi
      · injection hi with hi
        rw [hi]; exact m0
  · rw [if_neg h]
    exact ⟨R, Nat.le_refl _, fun z => .inl z, fun z => z⟩
def row0P (n : Nat) (ps : List Int) : Row := (List.range n).map fun i : Nat => if (i : Int) ∈ ps then some 0 else none
theorem row0_eq {ls : List Lk} {n : Nat} {ps ps' : List Int} (h : ReachL ls ps) (h' : ReachL ls ps') : row0P n ps = row0P n ps' := by
  unfold row0P
  congr 1
  funext i
  by_cases e : (i : Int) ∈ ps
  · rw [if_pos e, if_pos ((h' _).mpr ((h _).mp e))]
  · rw [if_neg e, if_neg fun z => e ((h _).mpr ((h' _).mp z))]
theorem row0_ok {ls : List Lk} {n : Nat} {ps : List Int} {life : Int} (h : ReachL ls ps) (l0 : 0 ≤ life) : RowG ls n life (row0P n ps) := by
  refine ⟨by unfold row0P; simp, fun i i0 i1 => ?_, fun i hi => ?_⟩
  · have e : gO (row0P n ps) i = if i ∈ ps then some 0 else none := by
      unfold gO row0P
      rw [List.getElem?_map, List.getElem?_range (by omega)]
      rw [Option.map_some, Int.toNat_of_nonneg i0]; rfl
    rw [e]
    by_cases m : i ∈ ps
    · rw [if_pos m]
      exact ⟨fun _ => (h i).mp m, fun _ => rfl⟩
    · rw [if_neg m]
      exact ⟨fun z => (nomatch z), fun z => absurd ((h i).mpr z) m⟩
  · obtain ⟨j, _, e⟩ := List.mem_map.mp hi
    split at e
    · cases e; omega
    · cases e

structure FI (ls : List Lk) (ks : List Int) (life : Int) (liars : List Int) (d0 : Nat) (tgt : Row × Bool) (r : List Lk) (row : Row) (b : Bool) : Prop where
  R : RowG ls ks.length life row
  f : r.foldl (stepG ks life liars) (row, b) = tgt
  d : defi life row ≤ d0
  s : b = true → defi life row < d0
  m : ∀ l ∈ r, l ∈ ls ∧ Reach ls l.2.1
theorem FI.step {ls : List Lk} {ks : List Int} {life : Int} {liars : List Int} {d0 : Nat} {tgt : Row × Bool} {r : List Lk} {l : Lk} {row : Row} {b : Bool} (K : KeepsOk ks) (L : LinksOk ks.length ls) (l0 : 0 ≤ life) (I : FI ls ks life liars d0 tgt (l :: r) row b) :
    FI ls ks life liars d0 tgt r (stepG ks life liars (row, b) l).1 (stepG ks life liars (row, b) l).2 := by
  obtain ⟨hl, hr⟩ := I.m l (by simp)
  obtain ⟨_, _, h1, h2, h3, h4⟩ := stepG_ok (b := b) (liars := liars) K (L.ok l hl) hl hr l0 I.R
  refine ⟨h1, I.f, Nat.le_trans h2 I.d, fun z => ?_, fun m hm => I.m m (by simp [hm])⟩
  rcases h3 z with e | e
  · exact Nat.lt_of_le_of_lt h2 (I.s e)
  · exact Nat.lt_of_lt_of_le e I.d
structure WI (ls : List Lk) (ks : List Int) (life : Int) (liars : List Int) (lv : List Lk) (first row : Row) (b : Bool) : Prop where
  R : RowG ls ks.length life row
  t : b = true → ∀ out, Grown ks life liars lv row out → Grown ks life liars lv first out
  f : b = false → Grown ks life liars lv first row
def wiM (life : Int) (row : Row) (b : Bool) : Nat := defi life row + if b then 1 else 0
theorem WI.into {ls : List Lk} {ks : List Int} {life : Int} {liars : List Int} {lv : List Lk} {first row : Row} (h : ∀ l ∈ lv, l ∈ ls ∧ Reach ls l.2.1) (I : WI ls ks life liars lv first row true) : FI ls ks life liars (defi life row) (passG ks life liars lv row) lv row false := ⟨I.R, rfl, Nat.le_refl _, fun z => (nomatch z), h⟩
theorem WI.next {ls : List Lk} {ks : List Int} {life : Int} {liars : List Int} {lv : List Lk} {first row row' : Row} {b' : Bool} (I : WI ls ks life liars lv first row true) (J : FI ls ks life liars (defi life row) (passG ks life liars lv row) [] row' b') :
    WI ls ks life liars lv first row' b' ∧ wiM life row' b' < wiM life row true := by
  have e : (row', b') = passG ks life liars lv row := J.f
  refine ⟨⟨J.R, fun z out g => I.t rfl out (.go (by rw [← e, z]) g), fun z => I.t rfl row' (.stop (by rw [← e, z]))⟩, ?_⟩
  unfold wiM
  have := J.d
  cases b' with
  | false => simp; omega
  | true => have := J.s rfl; simp; omega
theorem WI.small {ls : List Lk} {ks : List Int} {life : Int} {liars : List Int} {lv : List Lk} {first row : Row} {b : Bool} (K : KeepsOk ks) (l0 : 0 ≤ life) (l1 : life ≤ 300) (I : WI ls ks life liars lv first row b) : wiM life row b < 1000000 := by
  have h := defi_le l0 I.R.b
  rw [I.R.len] at h
  have k8 := K.hi
  have : life.toNat * ks.length ≤ 300 * 8 := Nat.mul_le_mul (by omega) k8
  unfold wiM
  split <;> omega
def SignedOut (ks : List Int) (ls : List Lk) (life : Int) (liars : List Int) (out : Row) : Prop := ∃ ps, ReachL ls ps ∧ RowG ls ks.length life out ∧ Grown ks life liars (liveP ls ps) (row0P ks.length ps) out
theorem SignedOut.det {ks : List Int} {ls : List Lk} {life : Int} {liars : List Int} {a b : Row} (h : SignedOut ks ls life liars a) (h' : SignedOut ks ls life liars b) : a = b := by
  obtain ⟨ps, r, _, g⟩ := h
  obtain ⟨qs, r', _, g'⟩ := h'
  rw [liveP_eq r' r, row0_eq r' r] at g'
  exact g.det g'
section
variable {C : Addr} {c g : Int} {ks : List Int} {ls : List Lk} {Q : QR} {life : Int} {liars : List Int}
theorem L_check_life (l0 : 0 ≤ life) (l1 : life ≤ 300) (q : Q (.p .non, [P (.int life)])) : @OB _ ⟨Q⟩ (W_check_life [.p (.int life)]) := by
  unfold W_check_life D_check_life B_check_life
  simp [L_is_within, l0, l1]
  exact q
theorem L_check_liars (h : LotOk ks.length liars) (q : Q (.p .non, [P (webD C c g ks ls), P (lotD liars)])) : @OB _ ⟨Q⟩ (W_check_liars C [.p (webD C c g ks ls), .p (lotD liars)]) := by
  unfold W_check_liars D_check_liars B_check_liars
  simp [web_keeps]
  rw [show gLen (.p (keepsD ks)) = some (.p (.int ks.length)) from by unfold keepsD; simp]
  simp
  refine L_is_lot h ?_
  have z := h.zero
  simp [lotD, z]
  exact q
theorem L_check_signed (l0 : 0 ≤ life) (l1 : life ≤ 300) (h : LotOk ks.length liars) (q : Q (.p .non, [P (webD C c g ks ls), P (.int life), P (lotD liars)])) : @OB _ ⟨Q⟩ (W_check_signed C [.p (webD C c g ks ls), .p (.int life), .p (lotD liars)]) := by
  unfold W_check_signed D_check_signed B_check_signed
  simp
  refine L_check_web ?_
  simp
  refine L_check_life l0 l1 ?_
  simp
  refine L_check_liars h ?_
  simp
  exact q
theorem L_worth_of {row : Row} {p : Int} {X : M} (hX : X = .ml (row.map oD) ∨ X = .p (.lst (row.map oD)) ∨ X = .p (.tup (row.map oD))) (p0 : 0 ≤ p) (p1 : p < row.length) (hv : ∃ v, gO row p = some v) (q : Q (.p (.int (worthR life liars row p)), [P (.int life), P (lotD liars), some X, P (.int p)])) :
    @OB _ ⟨Q⟩ (W_worth_of [.p (.int life), .p (lotD liars), X, .p (.int p)]) := by
  unfold W_worth_of D_worth_of B_worth_of
  have e := at_o (row := row) p0 p1
  obtain ⟨v, hv⟩ := hv
  rcases hX with rfl | rfl | rfl
  all_goals
    by_cases m : p ∈ liars
    · simp [lotD, m]
      simp [worthR, m, lotD] at q
      exact q
    · simp [lotD, m, e, hv]
      simp [worthR, m, hv, lotD] at q
      exact q
theorem L_least {row : Row} {l : Lk} {X : M} (hX : X = .ml (row.map oD) ∨ X = .p (.lst (row.map oD)) ∨ X = .p (.tup (row.map oD))) (L : LkOk ks.length l) (hn : row.length = ks.length) (hv : ∃ v, gO row l.2.1 = some v) (q : Q (.p (.int (leastR ks life liars row l)), [P (webD C c g ks ls), P (.int life), P (lotD liars), some X, P (lD l)])) :
    @OB _ ⟨Q⟩ (W_least_entry C [.p (webD C c g ks ls), .p (.int life), .p (lotD liars), X, .p (lD l)]) := by
  unfold W_least_entry D_least_entry B_least_entry
  have b0 := L.b0
  have b1 := L.b1
  have hp : isP (some X) = true ∨ isP (some X) = false := by cases isP (some X) <;> simp
  have hX' := hX
  rcases hX with rfl | rfl | rfl
  all_goals
    simp
    refine L_sum_of L ?_
    simp [lD]
    refine L_worth_of hX' b0 (by omega) hv ?_
    simp
    simp [leastR, lD] at q
    exact q
/-! the while loop of signed_ages_of -/
def GF (C : Addr) (c g : Int) (ks : List Int) (ls : List Lk) (life : Int) (liars ps : List Int) (d0 : Nat) (tgt : Row × Bool) (r : List Lk) (en : En) : Prop := ∃ row b x y, en = [P (webD C c g ks ls), P (.int life), P (lotD liars), some (.ml (ps.map .int)), some (.ml (row.map oD)), P (linksD (liveP ls ps)), P (.bl b), x, none, y] ∧ FI ls ks life liars d0 tgt r row b
def GW (C : Addr) (c g : Int) (ks : List Int) (ls : List Lk) (life : Int) (liars ps : List Int) (m : Nat) (en : En) : Prop := ∃ row b x y, en = [P (webD C c g ks ls), P (.int life), P (lotD liars), some (.ml (ps.map .int)), some (.ml (row.map oD)), P (linksD (liveP ls ps)), P (.bl b), x, none, y] ∧ WI ls ks life liars (liveP ls ps) (row0P ks.length ps) row b ∧ m = wiM life row b
theorem L_signed_ages_of (K : KeepsOk ks) (L : LinksOk ks.length ls) (l0 : 0 ≤ life) (l1 : life ≤ 300) (q : ∀ out, SignedOut ks ls life liars out → Q (.p (.tup (out.map oD)), [P (webD C c g ks ls), P (.int life), P (lotD liars)])) :
    @OB _ ⟨Q⟩ (W_signed_ages_of C [.p (webD C c g ks ls), .p (.int life), .p (lotD liars)]) := by
  unfold W_signed_ages_of D_signed_ages_of B_signed_ages_of
  have lo := K.lo
  have hi := K.hi
  simp [web_links]
  refine L_reached_by L lo hi fun ps h => ?_
  simp [web_keeps]
  rw [show gLen (.p (keepsD ks)) = some (.p (.int ks.length)) from by unfold keepsD; simp]
  simp
  refine ⟨okR_of (by omega) (by omega), ?_⟩
  unfold rangeD
  refine lcMap (fun i : Nat => .int (0 + (i : Nat))) (fun i : Nat => oD (if (i : Int) ∈ ps then some 0 else none)) (by simp; omega) ?_ ?_
  · simp
    refine L_live_of L lo hi fun ps' h' => ?_
    simp
    rw [liveP_eq h' h]
    have hlen := L.hi
    rw [show (List.range ks.length).map (fun i : Nat => oD (if (i : Int) ∈ ps then some 0 else none)) = (row0P ks.length ps).map oD from by unfold row0P; rw [List.map_map]; rfl]
    have I0 : WI ls ks life liars (liveP ls ps) (row0P ks.length ps) (row0P ks.length ps) true := ⟨row0_ok h l0, fun _ _ g => g, fun z => (nomatch z)⟩
    refine whI (GW C c g ks ls life liars ps) ?_ 1000000 _ _ ⟨_, true, _, _, rfl, I0, rfl⟩ (I0.small K l0 l1)
    rintro m _ ⟨row, b, x, y, rfl, I, rfl⟩
    cases b with
    | false =>
      simp
      exact q _ ⟨ps, h, I.R, I.f rfl⟩
    | true =>
      simp [linksD]
      refine forI lD (GF C c g ks ls life liars ps (defi life row) (passG ks life liars (liveP ls ps) row)) (liveP ls ps) ⟨row, false, x, y, rfl, I.into fun l hl => (liveP_mem h).mp hl⟩ ?_ ?_
      · rintro l r _ ⟨row, b, x, y, rfl, J⟩
        obtain ⟨hl, hr⟩ := J.m l (by simp)
        have LO := L.ok l hl
        have S := J.step K L l0
        obtain ⟨a0, a1, b0, b1, -, c0, c1⟩ := id LO
        obtain ⟨v, hv, -⟩ := J.R.at_ b0 (by omega) hr
        obtain ⟨u, hu, -⟩ := J.R.at_ (i := l.1) (by omega) (by omega) (.step hl hr)
        have hn := J.R.len
        have e := at_o (row := row) (i := l.1) (by omega) (by omega)
        simp
        refine L_least (.inl rfl) LO hn ⟨v, hv⟩ ?_
        simp [lD, e, hu]
        unfold stepG at S
        simp only [hu, Option.getD_some] at S
        by_cases hlt : u < leastR ks life liars row l
        · have ix : ixN row.length l.1 = some l.1.toNat := ixN_i (by omega) (by omega)
          simp [hlt, ix]
          rw [if_pos hlt] at S
          exact ⟨_, _, _, _, by rw [List.map_set]; rfl, S⟩
        · simp [hlt]
          rw [if_neg hlt] at S
          exact ⟨_, _, _, _, rfl, S⟩
      · rintro _ ⟨row', b', x, y, rfl, J⟩
        simp
        obtain ⟨I', hm⟩ := I.next J
        exact ⟨_, hm, row', b', x, y, rfl, I', rfl⟩
  · intro i hi
    by_cases m : (i : Int) ∈ ps
    · simp [m]
    · simp [m]
theorem L_signed_ages (K : KeepsOk ks) (L : LinksOk ks.length ls) (l0 : 0 ≤ life) (l1 : life ≤ 300) (hL : LotOk ks.length liars) (q : ∀ out, SignedOut ks ls life liars out → Q (.p (.tup (out.map oD)), [P (webD C c g ks ls), P (.int life), P (lotD liars)])) :
    @OB _ ⟨Q⟩ (W_signed_ages C [.p (webD C c g ks ls), .p (.int life), .p (lotD liars)]) := by
  unfold W_signed_ages D_signed_ages B_signed_ages
  simp
  refine L_check_signed l0 l1 hL ?_
  simp
  refine L_signed_ages_of K L l0 l1 fun out h => ?_
  simp
  exact q out h
end

/-! the grown row is the least closed one -/
def valR (row : Row) (p : Int) : Int := (gO row p).getD 0
theorem leastR_min {ks : List Int} {life : Int} {liars : List Int} {row : Row} {l : Lk} : leastR ks life liars row l = min life (l.2.2 + kO ks l.1 + if l.2.1 ∈ liars then life else valR row l.2.1) := by
  unfold leastR worthR valR
  omega
theorem pass_closed {ks : List Int} {life : Int} {liars : List Int} : ∀ {lv : List Lk} {row out : Row} {b : Bool}, lv.foldl (stepG ks life liars) (row, b) = (out, false) → b = false ∧ out = row ∧ ∀ l ∈ lv, leastR ks life liars row l ≤ valR row l.1
  | [], row, out, b, h => by
    cases h
    exact ⟨rfl, rfl, fun l h => nomatch h⟩
  | l :: lv, row, out, b, h => by
    rw [List.foldl_cons] at h
    unfold stepG at h
    by_cases c : (gO row l.1).getD 0 < leastR ks life liars row l
    · rw [if_pos c] at h
      exact nomatch (pass_closed h).1
    · rw [if_neg c] at h
      obtain ⟨h1, h2, h3⟩ := pass_closed h
      refine ⟨h1, h2, fun m hm => ?_⟩
      rcases List.mem_cons.mp hm with rfl | hm
      · exact Int.not_lt.mp c
      · exact h3 m hm
theorem Grown.closed {ks : List Int} {life : Int} {liars : List Int} {lv : List Lk} {row out : Row} (g : Grown ks life liars lv row out) : ∀ l ∈ lv, leastR ks life liars out l ≤ valR out l.1 := by
  induction g with
  | stop e =>
    obtain ⟨_, h2, h3⟩ := pass_closed e
    rw [h2]; exact h3
  | go _ _ ih => exact ih
theorem SignedOut.closed {ks : List Int} {ls : List Lk} {life : Int} {liars : List Int} {out : Row} (h : SignedOut ks ls life liars out) {l : Lk} (hl : l ∈ ls) (hr : Reach ls l.2.1) : min life (l.2.2 + kO ks l.1 + if l.2.1 ∈ liars then life else valR out l.2.1) ≤ valR out l.1 := by
  obtain ⟨ps, r, _, g⟩ := h
  rw [← leastR_min]
  exact g.closed l ((liveP_mem r).mpr ⟨hl, hr⟩)
structure UpTo (ks : List Int) (ls : List Lk) (life : Int) (liars : List Int) (F : Int → Int) : Prop where
  z : ∀ p, 0 ≤ F p
  c : ∀ l ∈ ls, Reach ls l.2.1 → min life (l.2.2 + kO ks l.1 + if l.2.1 ∈ liars then life else F l.2.1) ≤ F l.1
theorem pass_upto {ks : List Int} {ls : List Lk} {life : Int} {liars : List Int} {F : Int → Int} (U : UpTo ks ls life liars F) (L : LinksOk ks.length ls) : ∀ {lv : List Lk} {row out : Row} {b c : Bool}, (∀ l ∈ lv, l ∈ ls ∧ Reach ls l.2.1) → row.length = ks.length → (∀ p, 0 ≤ p → valR row p ≤ F p) → lv.foldl (stepG ks life liars) (row, b) = (out, c) → out.length = ks.length ∧ ∀ p, 0 ≤ p → valR out p ≤ F p
  | [], row, out, b, c, _, hn, h, e => by
    cases e
    exact ⟨hn, h⟩
  | l :: lv, row, out, b, c, hl, hn, h, e => by
    rw [List.foldl_cons] at e
    unfold stepG at e
    by_cases c : (gO row l.1).getD 0 < leastR ks life liars row l
    · rw [if_pos c] at e
      obtain ⟨h1, h2⟩ := hl l (by simp)
      have LO := L.ok l h1
      have a0 := LO.a0
      have a1 := LO.a1
      refine pass_upto U L (fun m hm => hl m (by simp [hm])) (by simp [hn]) (fun p p0 => ?_) e
      unfold valR
      rw [gO_set (by omega) p0 (by simp only [hn]; omega)]
      by_cases q : l.1 = p
      · subst q
        rw [if_pos rfl]
        show leastR ks life liars row l ≤ F l.1
        refine Int.le_trans ?_ (U.c l h1 h2)
        rw [leastR_min]
        have := h l.2.1 LO.b0
        split <;> omega
      · rw [if_neg q]
        exact h p p0
    · rw [if_neg c] at e
      exact pass_upto U L (fun m hm => hl m (by simp [hm])) hn h e
theorem Grown.upto {ks : List Int} {ls : List Lk} {life : Int} {liars : List Int} {F : Int → Int} (U : UpTo ks ls life liars F) (L : LinksOk ks.length ls) {lv : List Lk} {row out : Row} (hl : ∀ l ∈ lv, l ∈ ls ∧ Reach ls l.2.1) (g : Grown ks life liars lv row out) : row.length = ks.length → (∀ p, 0 ≤ p → valR row p ≤ F p) → ∀ p, 0 ≤ p → valR out p ≤ F p := by
  induction g with
  | stop e => exact fun hn h => (pass_upto U L hl hn h e).2
  | go e _ ih => exact fun hn h => ih (pass_upto U L hl hn h e).1 (pass_upto U L hl hn h e).2
theorem SignedOut.upto {ks : List Int} {ls : List Lk} {life : Int} {liars : List Int} {F : Int → Int} {out : Row} (h : SignedOut ks ls life liars out) (L : LinksOk ks.length ls) (U : UpTo ks ls life liars F) {p : Int} (p0 : 0 ≤ p) : valR out p ≤ F p := by
  obtain ⟨ps, r, _, g⟩ := h
  refine g.upto U L (fun l hl => (liveP_mem r).mp hl) (by unfold row0P; simp) (fun q q0 => ?_) p p0
  have : valR (row0P ks.length ps) q = 0 := by
    unfold valR gO row0P
    rw [List.getElem?_map]
    cases e : (List.range ks.length)[q.toNat]? with
    | none => rfl
    | some i =>
      show ((if (i : Int) ∈ ps then some (0 : Int) else none)).getD 0 = 0
      split <;> rfl
  rw [this]
  exact U.z q
theorem SignedOut.b {ks : List Int} {ls : List Lk} {life : Int} {liars : List Int} {out : Row} (h : SignedOut ks ls life liars out) (l0 : 0 ≤ life) (p : Int) : 0 ≤ valR out p ∧ valR out p ≤ life := by
  obtain ⟨ps, _, R, _⟩ := h
  unfold valR
  cases e : gO out p with
  | none => exact ⟨Int.le_refl 0, l0⟩
  | some v => exact R.b v (gO_mem e)
theorem SignedOut.get {ks : List Int} {ls : List Lk} {life : Int} {liars : List Int} {out : Row} (h : SignedOut ks ls life liars out) {i : Nat} (hi : i < ks.length) (hr : Reach ls i) : out[i]? = some (some (valR out i)) := by
  obtain ⟨ps, _, R, _⟩ := h
  obtain ⟨v, hv, -⟩ := R.at_ (i := (i : Int)) (by omega) (by omega) hr
  unfold valR
  rw [hv]
  unfold gO at hv
  rw [Int.toNat_natCast] at hv
  cases e : out[i]? with
  | none => rw [e] at hv; cases hv
  | some o =>
    rw [e] at hv
    have hv : o = some v := hv
    rw [hv]; rfl
theorem SignedOut.len {ks : List Int} {ls : List Lk} {life : Int} {liars : List Int} {out : Row} (h : SignedOut ks ls life liars out) : out.length = ks.length := by
  obtain ⟨ps, _, R, _⟩ := h
  exact R.len
/-- the source's own entry -/
theorem SignedOut.src {ks : List Int} {ls : List Lk} {life : Int} {liars : List Int} {out : Row} (h : SignedOut ks ls life liars out) (l0 : 0 ≤ life) (L : LinksOk ks.length ls) : valR out 0 = 0 := by
  have u := h.upto (F := fun p => if p = 0 then 0 else life) L ⟨fun p => by show 0 ≤ if p = 0 then 0 else life; split <;> omega, fun l hl _ => by
    have := (L.ok l hl).a0
    have e : (if l.1 = 0 then (0 : Int) else life) = life := if_neg (by omega)
    show min life _ ≤ (if l.1 = 0 then (0 : Int) else life)
    rw [e]
    exact Int.min_le_left _ _⟩ (Int.le_refl 0)
  have := (h.b l0 0).1
  have e : (if (0 : Int) = 0 then 0 else life) = 0 := if_pos rfl
  rw [e] at u
  omega

/-! sorted links -/
def leL (a b : Lk) : Bool := leD (lD a) (lD b)
theorem leL_eq (a b : Lk) : leL a b = decide (a.1 < b.1 ∨ (a.1 = b.1 ∧ (a.2.1 < b.2.1 ∨ (a.2.1 = b.2.1 ∧ a.2.2 ≤ b.2.2)))) := by
  show (!PySem.W.dataLt (.tuple [.int b.1, .int b.2.1, .int b.2.2]) (.tuple [.int a.1, .int a.2.1, .int a.2.2])) = _
  have e := PySem.W.dataLt_ints [b.1, b.2.1, b.2.2] [a.1, a.2.1, a.2.2]
  have e' : PySem.W.dataLt (.tuple [.int b.1, .int b.2.1, .int b.2.2]) (.tuple [.int a.1, .int a.2.1, .int a.2.2]) = decide ([b.1, b.2.1, b.2.2] < [a.1, a.2.1, a.2.2]) := by
    rw [PySem.W.dataLt_tuple]
    exact e
  rw [e']
  simp only [List.cons_lt_cons_iff, List.not_lt_nil, and_false, or_false]
  rw [← decide_not]
  refine decide_eq_decide.mpr ?_
  omega
theorem g_sortL {xs ys : List Lk} (p : xs.Perm ys) (s : ys.Pairwise lx) : gSorted (.ml (xs.map lD)) = some (.ml (ys.map lD)) := by
  have ok : okSort (xs.map lD) = true := by
    unfold okSort
    simp only [Bool.and_eq_true, Bool.or_eq_true, List.all_eq_true, decide_eq_true_eq, okDs_all]
    refine ⟨fun x hx => ?_, fun x hx y hy => ?_, .inl fun x hx => ?_, fun x hx => ?_⟩
    · obtain ⟨i, _, rfl⟩ := List.mem_map.mp hx; rfl
    · obtain ⟨i, _, rfl⟩ := List.mem_map.mp hx
      obtain ⟨j, _, rfl⟩ := List.mem_map.mp hy
      rfl
    · obtain ⟨i, _, rfl⟩ := List.mem_map.mp hx; rfl
    · obtain ⟨i, _, rfl⟩ := List.mem_map.mp hx
      show 1 ≤ 60
      decide
  have e : xs.mergeSort leL = ys := by
    have s1 : (xs.mergeSort leL).Pairwise (fun a b => leL a b = true) := List.pairwise_mergeSort (fun a b c h1 h2 => by
      rw [leL_eq, decide_eq_true_eq] at h1 h2 ⊢
      omega) (fun a b => by
      rw [leL_eq, leL_eq, Bool.or_eq_true, decide_eq_true_eq, decide_eq_true_eq]
      omega) xs
    have s2 : ys.Pairwise (fun a b => leL a b = true) := s.imp fun {a b} h => by
      rw [leL_eq, decide_eq_true_eq]
      unfold lx at h
      omega
    refine List.Perm.eq_of_pairwise (fun a b _ _ h1 h2 => ?_) s1 s2 ((List.mergeSort_perm xs leL).trans p)
    rw [leL_eq, decide_eq_true_eq] at h1 h2
    obtain ⟨a1, a2, a3⟩ := a
    obtain ⟨b1, b2, b3⟩ := b
    simp only at h1 h2
    have e1 : a1 = b1 := by omega
    have e2 : a2 = b2 := by omega
    have e3 : a3 = b3 := by omega
    rw [e1, e2, e3]
  unfold gSorted
  show (if okSort (xs.map lD) = true then some (M.ml ((xs.map lD).mergeSort leD)) else none) = _
  rw [if_pos ok, ← e, List.map_mergeSort (f := lD) (r := leL) (s := leD) (fun _ _ _ _ => rfl)]

theorem keeps_ok {ks : List Int} (hl : ks.length ≤ 7) (h : ∀ x ∈ ks, 0 ≤ x ∧ x ≤ 100) : KeepsOk (0 :: ks) := by
  refine ⟨by simp, by simp; omega, fun k hk => ?_⟩
  cases k with
  | zero => simp
  | succ k =>
    have := h _ (List.getElem_mem (show k < ks.length by simpa using hk))
    simpa using this
theorem links_more {n k j : Nat} {ls : List Lk} {z : Int} (O : LinksOk n ls) (hls : ∀ l ∈ ls, l.1 < k + 1 ∨ (l.1 = k + 1 ∧ l.2.1 < j)) (hl : ls.length < 40) (hk : k < n - 1) (hj : j < n) (ne : ¬ (1 + k : Int) = j) (z0 : 0 ≤ z) (z1 : z ≤ 100) :
    LinksOk n (ls ++ [((1 + k : Int), (j : Int), z)]) ∧ ∀ l ∈ ls ++ [((1 + k : Int), (j : Int), z)], l.1 < k + 1 ∨ (l.1 = k + 1 ∧ l.2.1 < (j + 1 : Nat)) := by
  refine ⟨⟨by simp; omega, fun l hl => ?_, ?_⟩, fun l hl => ?_⟩
  · rcases List.mem_append.mp hl with hl | hl
    · exact O.ok l hl
    · rw [List.mem_singleton.mp hl]
      refine ⟨?_, ?_, ?_, ?_, ?_, ?_, ?_⟩ <;> simp <;> omega
  · refine List.pairwise_append.mpr ⟨O.up, by simp, fun l hl m hm => ?_⟩
    rw [List.mem_singleton.mp hm]
    have := hls l hl
    show l.1 < 1 + (k : Int) ∨ (l.1 = 1 + (k : Int) ∧ l.2.1 < (j : Int))
    omega
  · rcases List.mem_append.mp hl with hl | hl
    · have := hls l hl
      omega
    · rw [List.mem_singleton.mp hl]
      exact .inr ⟨by show 1 + (k : Int) = k + 1; omega, by show (j : Int) < (j + 1 : Nat); omega⟩

theorem ring_full {m : Nat} {o S : Nat → Int} {life : Int} (m2 : 2 ≤ m) (m5 : m ≤ 5) (h : ∀ i, i < m → min life (S i + o ((i + 1) % m)) ≤ o i) (b : ∀ i, i < m → o i ≤ life) (s : ∀ i, i < m → 0 ≤ S i) (pos : ∃ i, i < m ∧ 0 < S i) : ∀ i, i < m → o i = life := by
  obtain ⟨j, hj, hp⟩ := pos
  have hm : m = 2 ∨ m = 3 ∨ m = 4 ∨ m = 5 := by omega
  rcases hm with rfl | rfl | rfl | rfl
  · have h0 := h 0 (by omega)
    have h1 := h 1 (by omega)
    have b0 := b 0 (by omega)
    have b1 := b 1 (by omega)
    have s0 := s 0 (by omega)
    have s1 := s 1 (by omega)
    simp at h0 h1
    have k : o 0 = life ∧ o 1 = life := by
      match j, hj with
      | 0, _ => omega
      | 1, _ => omega
    intro i hi
    match i, hi with
    | 0, _ => omega
    | 1, _ => omega
  · have h0 := h 0 (by omega)
    have h1 := h 1 (by omega)
    have h2 := h 2 (by omega)
    have b0 := b 0 (by omega)
    have b1 := b 1 (by omega)
    have b2 := b 2 (by omega)
    have s0 := s 0 (by omega)
    have s1 := s 1 (by omega)
    have s2 := s 2 (by omega)
    simp at h0 h1 h2
    have k : o 0 = life ∧ o 1 = life ∧ o 2 = life := by
      match j, hj with
      | 0, _ => omega
      | 1, _ => omega
      | 2, _ => omega
    intro i hi
    match i, hi with
    | 0, _ => omega
    | 1, _ => omega
    | 2, _ => omega
  · have h0 := h 0 (by omega)
    have h1 := h 1 (by omega)
    have h2 := h 2 (by omega)
    have h3 := h 3 (by omega)
    have b0 := b 0 (by omega)
    have b1 := b 1 (by omega)
    have b2 := b 2 (by omega)
    have b3 := b 3 (by omega)
    have s0 := s 0 (by omega)
    have s1 := s 1 (by omega)
    have s2 := s 2 (by omega)
    have s3 := s 3 (by omega)
    simp at h0 h1 h2 h3
    have k : o 0 = life ∧ o 1 = life ∧ o 2 = life ∧ o 3 = life := by
      match j, hj with
      | 0, _ => omega
      | 1, _ => omega
      | 2, _ => omega
      | 3, _ => omega
    intro i hi
    match i, hi with
    | 0, _ => omega
    | 1, _ => omega
    | 2, _ => omega
    | 3, _ => omega
  · have h0 := h 0 (by omega)
    have h1 := h 1 (by omega)
    have h2 := h 2 (by omega)
    have h3 := h 3 (by omega)
    have h4 := h 4 (by omega)
    have b0 := b 0 (by omega)
    have b1 := b 1 (by omega)
    have b2 := b 2 (by omega)
    have b3 := b 3 (by omega)
    have b4 := b 4 (by omega)
    have s0 := s 0 (by omega)
    have s1 := s 1 (by omega)
    have s2 := s 2 (by omega)
    have s3 := s 3 (by omega)
    have s4 := s 4 (by omega)
    simp at h0 h1 h2 h3 h4
    have k : o 0 = life ∧ o 1 = life ∧ o 2 = life ∧ o 3 = life ∧ o 4 = life := by
      match j, hj with
      | 0, _ => omega
      | 1, _ => omega
      | 2, _ => omega
      | 3, _ => omega
      | 4, _ => omega
    intro i hi
    match i, hi with
    | 0, _ => omega
    | 1, _ => omega
    | 2, _ => omega
    | 3, _ => omega
    | 4, _ => omega
theorem ring_low {m : Nat} {o : Nat → Int} {life f : Int} (m2 : 2 ≤ m) (h : ∀ i, i < m → min life (o ((i + 1) % m)) ≤ o i) (h0 : min life f ≤ o 0) : ∀ i, i < m → min life f ≤ o i := by
  have key : ∀ j i, i + j = m → 0 < j → min life f ≤ o i := by
    intro j
    induction j with
    | zero => exact fun i _ h => absurd h (Nat.lt_irrefl 0)
    | succ j ih =>
      intro i hi _
      have hc := h i (by omega)
      by_cases z : j = 0
      · have e : (i + 1) % m = 0 := by
          have : i + 1 = m := by omega
          rw [this, Nat.mod_self]
        rw [e] at hc
        omega
      · have e : (i + 1) % m = i + 1 := Nat.mod_eq_of_lt (by omega)
        have := ih (i + 1) (by omega) (by omega)
        rw [e] at hc
        omega
  exact fun i hi => key (m - i) i (by omega) (by omega)
theorem modc {i m : Nat} (h : i < m) : (1 + (i : Int)) % (m : Int) = ((i + 1) % m : Nat) := by
  rw [Int.natCast_emod]
  congr 1
  omega
def lkR (m : Nat) (lr : List Int) (i : Nat) : Lk := (1 + (i : Int), 1 + (1 + (i : Int)) % (m : Int), kO lr i)
def ringL (m : Nat) (lr : List Int) : List Lk := (List.range m).map (lkR m lr)
structure RingOk (m : Nat) (kr lr : List Int) (d1 e d2 x : Int) : Prop where
  m2 : 2 ≤ m
  m5 : m ≤ 5
  kl : kr.length = m
  ll : lr.length = m
  kb : ∀ v ∈ kr, 0 ≤ v ∧ v ≤ 100
  lb : ∀ v ∈ lr, 0 ≤ v ∧ v ≤ 100
  d1b : 0 ≤ d1 ∧ d1 ≤ 100
  eb : 0 ≤ e ∧ e < m
  d2b : 0 ≤ d2 ∧ d2 ≤ 100
  xb : 0 ≤ x ∧ x ≤ 100
def ksR (kr : List Int) (x : Int) : List Int := 0 :: (kr ++ [x])
def lsR (m : Nat) (lr : List Int) (d1 e d2 : Int) : List Lk := (1, 0, d1) :: (ringL m lr ++ [((m : Int) + 1, 1 + e, d2)])
theorem kO_nat {ks : List Int} {i : Nat} (h : i < ks.length) : kO ks i = ks[i] := by
  unfold kO
  rw [Int.toNat_natCast, List.getD_eq_getElem?_getD, List.getElem?_eq_getElem h]; rfl
section
variable {m : Nat} {kr lr : List Int} {d1 e d2 x : Int} (R : RingOk m kr lr d1 e d2 x)
include R
theorem ring_ks : KeepsOk (ksR kr x) ∧ (ksR kr x).length = m + 2 := by
  have h1 := R.kl
  have h2 := R.m5
  have h3 := R.xb
  refine ⟨keeps_ok (by simp; omega) fun v hv => ?_, by unfold ksR; simp; omega⟩
  rcases List.mem_append.mp hv with hv | hv
  · exact R.kb v hv
  · rw [List.mem_singleton.mp hv]
    exact h3
theorem ring_k1 {i : Nat} (hi : i < m) : kO (ksR kr x) (1 + i) = kO kr i := by
  have h1 := R.kl
  have e : (1 + (i : Int)) = ((i + 1 : Nat) : Int) := by omega
  rw [e, kO_nat (by unfold ksR; simp; omega), kO_nat (by omega)]
  unfold ksR
  rw [List.getElem_cons_succ, List.getElem_append_left (by omega)]
theorem ring_kx : kO (ksR kr x) ((m : Int) + 1) = x := by
  have h1 := R.kl
  have e : ((m : Int) + 1) = ((m + 1 : Nat) : Int) := by omega
  rw [e, kO_nat (by unfold ksR; simp; omega)]
  unfold ksR
  rw [List.getElem_cons_succ, List.getElem_append_right (by omega)]
  simp
theorem ring_lb {i : Nat} (hi : i < m) : 0 ≤ kO lr i ∧ kO lr i ≤ 100 := by
  rw [kO_nat (by rw [R.ll]; exact hi)]
  exact R.lb _ (List.getElem_mem _)
theorem ring_kb {i : Nat} (hi : i < m) : 0 ≤ kO kr i ∧ kO kr i ≤ 100 := by
  rw [kO_nat (by rw [R.kl]; exact hi)]
  exact R.kb _ (List.getElem_mem _)
theorem ring_next {i : Nat} (hi : i < m) : (1 + (i : Int)) % (m : Int) = if i + 1 = m then 0 else (i : Int) + 1 := by
  rw [modc hi]
  split
  · next h => rw [h, Nat.mod_self]; rfl
  · rw [Nat.mod_eq_of_lt (by omega)]; omega
theorem ring_ls : LinksOk (m + 2) (lsR m lr d1 e d2) := by
  obtain ⟨m2, m5, kl, ll, kb, lb, d1b, eb, d2b, xb⟩ := id R
  refine ⟨by unfold lsR ringL; simp; omega, fun l hl => ?_, ?_⟩
  · rcases List.mem_cons.mp hl with rfl | hl
    · exact ⟨by simp, by simp; omega, by simp, by simp; omega, by simp, by simp; omega, by simp; omega⟩
    · rcases List.mem_append.mp hl with hl | hl
      · obtain ⟨i, hi, rfl⟩ := List.mem_map.mp hl
        have hi := List.mem_range.mp hi
        have hb := ring_lb R hi
        have hn := ring_next R hi
        refine ⟨?_, ?_, ?_, ?_, ?_, ?_, ?_⟩ <;> simp only [lkR, hn]
        · omega
        · omega
        · split <;> omega
        · split <;> omega
        · split <;> omega
        · exact hb.1
        · exact hb.2
      · rw [List.mem_singleton.mp hl]
        refine ⟨?_, ?_, ?_, ?_, ?_, ?_, ?_⟩ <;> simp <;> omega
  · unfold lsR
    refine List.pairwise_cons.mpr ⟨fun l hl => ?_, List.pairwise_append.mpr ⟨?_, by simp, fun l hl k hk => ?_⟩⟩
    · rcases List.mem_append.mp hl with hl | hl
      · obtain ⟨i, hi, rfl⟩ := List.mem_map.mp hl
        have hi := List.mem_range.mp hi
        have hn := ring_next R hi
        show (1 : Int) < 1 + (i : Int) ∨ ((1 : Int) = 1 + (i : Int) ∧ (0 : Int) < 1 + (1 + (i : Int)) % (m : Int))
        rw [hn]
        split <;> omega
      · rw [List.mem_singleton.mp hl]
        show (1 : Int) < (m : Int) + 1 ∨ _
        omega
    · refine List.pairwise_map.mpr (List.pairwise_lt_range.imp fun {i j} h => ?_)
      show 1 + (i : Int) < 1 + (j : Int) ∨ _
      omega
    · obtain ⟨i, hi, rfl⟩ := List.mem_map.mp hl
      have hi := List.mem_range.mp hi
      rw [List.mem_singleton.mp hk]
      show 1 + (i : Int) < (m : Int) + 1 ∨ _
      omega
theorem ring_mem {i : Nat} (hi : i < m) : lkR m lr i ∈ lsR m lr d1 e d2 := by
  unfold lsR ringL
  refine List.mem_cons_of_mem _ (List.mem_append_left _ (List.mem_map.mpr ⟨i, List.mem_range.mpr hi, rfl⟩))
theorem ring_reach {i : Nat} (hi : i < m) : Reach (lsR m lr d1 e d2) (1 + i) := by
  have r1 : Reach (lsR m lr d1 e d2) 1 := .step (l := (1, 0, d1)) (by unfold lsR; simp) .src
  have key : ∀ j i, i + j = m → 0 < j → Reach (lsR m lr d1 e d2) (1 + i) := by
    intro j
    induction j with
    | zero => exact fun i _ h => absurd h (Nat.lt_irrefl 0)
    | succ j ih =>
      intro i hi _
      have hn := ring_next R (i := i) (by omega)
      have hm := ring_mem R (i := i) (by omega)
      refine .step (l := lkR m lr i) hm ?_
      show Reach _ (1 + (1 + (i : Int)) % (m : Int))
      rw [hn]
      by_cases z : j = 0
      · rw [if_pos (by omega)]
        exact r1
      · rw [if_neg (by omega)]
        have := ih (i + 1) (by omega) (by omega)
        have e : (1 : Int) + ((i + 1 : Nat) : Int) = 1 + ((i : Int) + 1) := by omega
        rw [e] at this
        exact this
  exact key (m - i) i (by omega) (by omega)
theorem ring_tail : Reach (lsR m lr d1 e d2) ((m : Int) + 1) := by
  have h := R.eb
  refine .step (l := ((m : Int) + 1, 1 + e, d2)) (by unfold lsR; simp) ?_
  have := ring_reach R (i := e.toNat) (by omega)
  have e' : ((e.toNat : Nat) : Int) = e := by omega
  rw [e'] at this
  exact this
end

theorem cutMid {a z : D} {mid : List D} : cutA (a :: (mid ++ [z])) (some 1) (some (-1)) = mid := by
  unfold cutA
  have e1 : HT.sIx (a :: (mid ++ [z])).length 0 (some 1) = min 1 (a :: (mid ++ [z])).length := HT.sIx_nat _ 0 1
  have e2 : HT.sIx (a :: (mid ++ [z])).length (a :: (mid ++ [z])).length (some (-1)) = ((-1 : Int) + ((a :: (mid ++ [z])).length : Int)).toNat := by
    show (if (-1 : Int) < 0 then ((-1 : Int) + ((a :: (mid ++ [z])).length : Int)).toNat else min (-1 : Int).toNat (a :: (mid ++ [z])).length) = _
    rw [if_pos (by decide)]
  rw [e1, e2]
  have e3 : min 1 (a :: (mid ++ [z])).length = 1 := by simp
  have e4 : ((-1 : Int) + ((a :: (mid ++ [z])).length : Int)).toNat - 1 = mid.length := by simp; omega
  rw [e3, e4, List.drop_one, List.tail_cons, List.take_left]
theorem nn_sum : ∀ {l : List Int}, (∀ x ∈ l, 0 ≤ x) → 0 ≤ l.sum ∧ (l.sum ≤ 0 → ∀ x ∈ l, x = 0)
  | [], _ => ⟨Int.le_refl 0, fun _ x h => nomatch h⟩
  | a :: r, h => by
    obtain ⟨h1, h2⟩ := nn_sum (l := r) fun x hx => h x (by simp [hx])
    have h0 := h a (by simp)
    rw [List.sum_cons]
    refine ⟨by omega, fun z x hx => ?_⟩
    rcases List.mem_cons.mp hx with rfl | hx
    · omega
    · exact h2 (by omega) x hx
theorem zero_sum : ∀ {l : List Int}, (∀ x ∈ l, x = 0) → l.sum = 0
  | [], _ => rfl
  | a :: r, h => by
    rw [List.sum_cons, h a (by simp), zero_sum fun x hx => h x (by simp [hx])]; rfl
section
variable {m : Nat} {kr lr : List Int} {d1 e d2 x : Int} (R : RingOk m kr lr d1 e d2 x)
include R
def ringV (life : Int) (kr lr : List Int) (d1 : Int) : Int := if 0 < kr.sum + lr.sum then life else if d1 + kO kr 0 < life then d1 + kO kr 0 else life
theorem ring_out {life : Int} {out : Row} (l0 : 0 ≤ life) (h : SignedOut (ksR kr x) (lsR m lr d1 e d2) life [] out) : (∀ i : Nat, i < m → valR out (1 + i) = ringV life kr lr d1) ∧ valR out ((m : Int) + 1) = min life (ringV life kr lr d1 + (d2 + x)) := by
  obtain ⟨m2, m5, kl, ll, kb, lb, d1b, eb, d2b, xb⟩ := id R
  obtain ⟨K, kn⟩ := ring_ks R
  have L := ring_ls R
  have L' : LinksOk (ksR kr x).length (lsR m lr d1 e d2) := by rw [kn]; exact L
  have src := h.src l0 L'
  have c1 := h.closed (l := (1, 0, d1)) (by unfold lsR; simp) .src
  have k1 := ring_k1 R (i := 0) (by omega)
  have c0 : min life (d1 + kO kr 0) ≤ valR out (1 + (0 : Nat)) := by
    simp only [List.not_mem_nil, if_false, src] at c1
    have e1 : kO (ksR kr x) 1 = kO kr 0 := k1
    rw [e1] at c1
    have e2 : (1 : Int) + ((0 : Nat) : Int) = 1 := rfl
    rw [e2]
    omega
  have cr : ∀ i, i < m → min life (kO lr i + kO kr i + valR out (1 + ((i + 1) % m : Nat))) ≤ valR out (1 + i) := fun i hi => by
    have hn := ring_next R hi
    have r : Reach (lsR m lr d1 e d2) (1 + ((i + 1) % m : Nat)) := ring_reach R (Nat.mod_lt _ (by omega))
    have e1 : (lkR m lr i).2.1 = 1 + ((i + 1) % m : Nat) := by
      show 1 + (1 + (i : Int)) % (m : Int) = _
      rw [modc hi]
    have c := h.closed (ring_mem R hi) (by rw [e1]; exact r)
    rw [e1] at c
    simp only [List.not_mem_nil, if_false] at c
    have e2 : kO (ksR kr x) (lkR m lr i).1 = kO kr i := ring_k1 R hi
    rw [e2] at c
    exact c
  have ct := h.closed (l := ((m : Int) + 1, 1 + e, d2)) (by unfold lsR; simp) (by
    have := ring_reach R (i := e.toNat) (by omega)
    have e' : ((e.toNat : Nat) : Int) = e := by omega
    rw [e'] at this
    exact this)
  simp only [List.not_mem_nil, if_false, ring_kx R] at ct
  have sb := fun i (hi : i < m) => And.intro (ring_lb R hi) (ring_kb R hi)
  have k0 := (sb 0 (by omega)).2.1
  have rv : 0 ≤ ringV life kr lr d1 ∧ ringV life kr lr d1 ≤ life := by
    unfold ringV
    have : 0 ≤ kO kr 0 := k0
    split
    · omega
    · split <;> omega
  have low : ∀ i, i < m → ringV life kr lr d1 ≤ valR out (1 + i) := by
    unfold ringV
    by_cases fed : 0 < kr.sum + lr.sum
    · rw [if_pos fed]
      have pos : ∃ i, i < m ∧ 0 < kO lr i + kO kr i := by
        by_cases z : ∃ i, i < m ∧ 0 < kO lr i + kO kr i
        · exact z
        · have z1 : ∀ i, i < m → kO lr i = 0 ∧ kO kr i = 0 := fun i hi => by
            have a := (sb i hi).1.1
            have b := (sb i hi).2.1
            have c : ¬ 0 < kO lr i + kO kr i := fun q => z ⟨i, hi, q⟩
            omega
          have z2 : kr.sum = 0 := zero_sum fun v hv => by
            obtain ⟨i, hi, rfl⟩ := List.getElem_of_mem hv
            rw [← kO_nat hi]
            exact (z1 i (by omega)).2
          have z3 : lr.sum = 0 := zero_sum fun v hv => by
            obtain ⟨i, hi, rfl⟩ := List.getElem_of_mem hv
            rw [← kO_nat hi]
            exact (z1 i (by omega)).1
          omega
      have := ring_full (o := fun i => valR out (1 + i)) (S := fun i => kO lr i + kO kr i) m2 m5 cr (fun i _ => (h.b l0 _).2) (fun i hi => by have := sb i hi; show 0 ≤ kO lr i + kO kr i; omega) pos
      exact fun i hi => by
        have h2 : valR out (1 + (i : Int)) = life := this i hi
        omega
    · rw [if_neg fed]
      have hz := ring_low (o := fun i => valR out (1 + i)) (f := d1 + kO kr 0) (life := life) m2 (fun i hi => by
        have a := cr i hi
        have b := (sb i hi).1.1
        have c := (sb i hi).2.1
        show min life (valR out (1 + ((i + 1) % m : Nat))) ≤ valR out (1 + i)
        omega) c0
      exact fun i hi => by
        have h2 : min life (d1 + kO kr 0) ≤ valR out (1 + (i : Int)) := hz i hi
        split <;> omega
  have up : UpTo (ksR kr x) (lsR m lr d1 e d2) life [] (fun p => if p = 0 then 0 else if p = (m : Int) + 1 then min life (ringV life kr lr d1 + (d2 + x)) else ringV life kr lr d1) := by
    refine ⟨fun p => ?_, fun l hl _ => ?_⟩
    · show 0 ≤ if p = 0 then 0 else if p = (m : Int) + 1 then min life (ringV life kr lr d1 + (d2 + x)) else ringV life kr lr d1
      split
      · omega
      · split <;> omega
    · simp only [List.not_mem_nil, if_false]
      rcases List.mem_cons.mp hl with rfl | hl
      · have e1 : kO (ksR kr x) 1 = kO kr 0 := k1
        simp only [e1]
        rw [if_neg (show ¬ (1 : Int) = 0 by omega), if_neg (show ¬ (1 : Int) = (m : Int) + 1 by omega), if_pos True.intro]
        unfold ringV
        split
        · omega
        · split <;> omega
      · rcases List.mem_append.mp hl with hl | hl
        · obtain ⟨i, hi, rfl⟩ := List.mem_map.mp hl
          have hi := List.mem_range.mp hi
          have e2 : kO (ksR kr x) (lkR m lr i).1 = kO kr i := ring_k1 R hi
          have hn := ring_next R hi
          rw [e2]
          show min life (kO lr i + kO kr i + if 1 + (1 + (i : Int)) % (m : Int) = 0 then 0 else if 1 + (1 + (i : Int)) % (m : Int) = (m : Int) + 1 then min life (ringV life kr lr d1 + (d2 + x)) else ringV life kr lr d1) ≤ if 1 + (i : Int) = 0 then 0 else if 1 + (i : Int) = (m : Int) + 1 then min life (ringV life kr lr d1 + (d2 + x)) else ringV life kr lr d1
          rw [if_neg (show ¬ 1 + (i : Int) = 0 by omega), if_neg (show ¬ 1 + (i : Int) = (m : Int) + 1 by omega), hn]
          have hne : ¬ (1 + if i + 1 = m then (0 : Int) else (i : Int) + 1) = 0 := by split <;> omega
          have hne2 : ¬ (1 + if i + 1 = m then (0 : Int) else (i : Int) + 1) = (m : Int) + 1 := by split <;> omega
          rw [if_neg hne, if_neg hne2]
          by_cases fed : 0 < kr.sum + lr.sum
          · have : ringV life kr lr d1 = life := if_pos fed
            omega
          · have z1 := (nn_sum (l := kr) fun v hv => (kb v hv).1)
            have z2 := (nn_sum (l := lr) fun v hv => (lb v hv).1)
            have a : kO kr i = 0 := by
              rw [kO_nat (by omega)]
              exact z1.2 (by omega) _ (List.getElem_mem _)
            have b : kO lr i = 0 := by
              rw [kO_nat (by omega)]
              exact z2.2 (by omega) _ (List.getElem_mem _)
            omega
        · rw [List.mem_singleton.mp hl]
          simp only [ring_kx R]
          rw [if_neg (show ¬ (1 + e) = 0 by omega), if_neg (show ¬ (1 + e) = (m : Int) + 1 by omega), if_neg (show ¬ (m : Int) + 1 = 0 by omega)]
          simp only [if_true]
          omega
  have uo : ∀ i : Nat, i < m → valR out (1 + i) = ringV life kr lr d1 := fun i hi => by
    have u := h.upto L' up (p := 1 + (i : Int)) (by omega)
    rw [if_neg (show ¬ 1 + (i : Int) = 0 by omega), if_neg (show ¬ 1 + (i : Int) = (m : Int) + 1 by omega)] at u
    have := low i hi
    omega
  refine ⟨uo, ?_⟩
  have u := h.upto L' up (p := (m : Int) + 1) (by omega)
  rw [if_neg (show ¬ (m : Int) + 1 = 0 by omega)] at u
  simp only [if_true] at u
  have ue := uo e.toNat (by omega)
  have e' : ((e.toNat : Nat) : Int) = e := by omega
  rw [e'] at ue
  rw [ue] at ct
  omega
theorem ring_row {life : Int} {out : Row} (l0 : 0 ≤ life) (h : SignedOut (ksR kr x) (lsR m lr d1 e d2) life [] out) : out.map oD = .int 0 :: (List.replicate m (D.int (ringV life kr lr d1)) ++ [.int (min life (ringV life kr lr d1 + (d2 + x)))]) := by
  obtain ⟨h1, h2⟩ := ring_out R l0 h
  obtain ⟨K, kn⟩ := ring_ks R
  have L := ring_ls R
  have L' : LinksOk (ksR kr x).length (lsR m lr d1 e d2) := by rw [kn]; exact L
  have hl := h.len
  refine List.ext_getElem? fun i => ?_
  rw [List.getElem?_map]
  cases i with
  | zero =>
    rw [h.get (i := 0) (by omega) .src]
    show some (oD (some (valR out ((0 : Nat) : Int)))) = some (.int 0)
    have := h.src l0 L'
    simp [this]
  | succ i =>
    rw [List.getElem?_cons_succ]
    by_cases c : i < m
    · have r := ring_reach R c
      have e1 : (1 : Int) + (i : Int) = ((i + 1 : Nat) : Int) := by omega
      rw [e1] at r
      rw [h.get (i := i + 1) (by omega) r, List.getElem?_append_left (by simp; exact c), List.getElem?_replicate, if_pos c, ← e1, h1 i c]
      rfl
    · by_cases c' : i = m
      · subst c'
        have r := ring_tail R
        have e1 : (i : Int) + 1 = ((i + 1 : Nat) : Int) := by omega
        rw [e1] at r
        rw [h.get (i := i + 1) (by omega) r, List.getElem?_append_right (by simp), ← e1, h2]
        simp
      · rw [List.getElem?_eq_none (by omega), List.getElem?_eq_none (by simp; omega)]
        rfl
end

def RI1 (C : Addr) (b : Nat) (most : Int) (m : Nat) (k : Nat) (en : En) : Prop := ∃ (h : List D) (kr lr : List Int) (p : Option M), en = [some (.ml h), P (.int most), P (.int m), p, none, some (.ml (.int 0 :: kr.map .int)), some (.ml (lr.map .int))] ∧ HandOk (b + 1 + 2 * k) h ∧ kr.length = k ∧ lr.length = k ∧ (∀ v ∈ kr, 0 ≤ v ∧ v ≤ most) ∧ (∀ v ∈ lr, 0 ≤ v ∧ v ≤ most)
set_option maxHeartbeats 4000000 in
theorem L_ringed {C : Addr} {b : Nat} {h : List D} {most : Int} (H : HandOk b h) (hb : b < 100000000) (m0 : 0 ≤ most) (m1 : most ≤ 100) {Q : QR}
    (q : ∀ h' c m kr lr d1 e d2 x, HandOk (b + 20) h' → 3 ≤ c ∧ c ≤ 1000 → RingOk m kr lr d1 e d2 x → Q (.p (webD C c 1 (ksR kr x) (lsR m lr d1 e d2)), [some (.ml h'), P (.int most)])) :
    @OB _ ⟨Q⟩ (W_l_law_ringed C [.ml h, .p (.int most)]) := by
  unfold W_l_law_ringed D_l_law_ringed B_l_law_ringed
  simp
  refine L_draw H (by omega) (by omega) (by omega) fun h v H v0 v1 => ?_
  simp
  generalize hn : (2 + v).toNat = m
  have hn' : 2 + v = m := by omega
  rw [hn']
  have m2 : 2 ≤ m := by omega
  have m5 : m ≤ 5 := by omega
  clear hn hn' v0 v1
  refine ⟨okR_of (by omega) (by omega), ?_⟩
  refine forN (RI1 C b most m) ⟨h, [], [], none, rfl, H, rfl, rfl, by simp, by simp⟩ ?_ ?_
  · rintro k hk _ ⟨h, kr, lr, p, rfl, H, hk1, hk2, kb, lb⟩
    simp at hk
    simp
    refine L_draw H (by omega) (by omega) (by omega) fun h v H v0 v1 => ?_
    simp
    refine ⟨by omega, ?_⟩
    refine L_draw H (by omega) (by omega) (by omega) fun h w H w0 w1 => ?_
    simp
    refine ⟨by omega, h, kr ++ [v], lr ++ [w], _, by rw [List.map_append, List.map_append]; rfl, H.mono (by omega), by simp [hk1], by simp [hk2], fun y hy => ?_, fun y hy => ?_⟩
    · rcases List.mem_append.mp hy with hy | hy
      · exact kb y hy
      · rw [List.mem_singleton.mp hy]; omega
    · rcases List.mem_append.mp hy with hy | hy
      · exact lb y hy
      · rw [List.mem_singleton.mp hy]; omega
  · rintro _ ⟨h, kr, lr, p, rfl, H, hk1, hk2, kb, lb⟩
    simp at H hk1 hk2
    simp
    refine L_draw H (by omega) (by omega) (by omega) fun h d1 H d10 d11 => ?_
    simp
    refine L_draw H (by omega) (by omega) (by omega) fun h e H e0 e1 => ?_
    simp
    refine L_draw H (by omega) (by omega) (by omega) fun h d2 H d20 d21 => ?_
    simp
    refine ⟨⟨okR_of (by omega) (by omega), okR_of (by omega) (by omega)⟩, ?_⟩
    unfold rangeD
    have hm : ((m : Int) + 1 - 1).toNat = m := by omega
    rw [hm]
    refine lcMap (fun i : Nat => .int (1 + (i : Nat))) (fun i => lD (lkR m lr i)) (by simp; omega) ?_ ?_
    · have hz : m + 1 + 1 ≤ 1000000 := by omega
      simp
      refine ⟨by omega, ?_⟩
      refine L_draw H (by omega) (by omega) (by omega) fun h c H c0 c1 => ?_
      simp
      refine L_draw H (by omega) (by omega) (by omega) fun h x H x0 x1 => ?_
      simp
      rw [g_catT (by simp; omega)]
      simp
      have R : RingOk m kr lr d1 e d2 x := ⟨m2, m5, hk1, hk2, fun v hv => by have := kb v hv; omega, fun v hv => by have := lb v hv; omega, by omega, by omega, by omega, by omega⟩
      obtain ⟨K, kn⟩ := ring_ks R
      have L := ring_ls R
      have es := g_sortL (xs := (1, 0, d1) :: ((m : Int) + 1, 1 + e, d2) :: ringL m lr) (ys := lsR m lr d1 e d2) (List.Perm.cons _ (List.perm_append_comm (l₁ := [((m : Int) + 1, 1 + e, d2)]) (l₂ := ringL m lr))) L.up
      rw [show (D.tup [.int 1, .int 0, .int d1] :: D.tup [.int ((m : Int) + 1), .int (1 + e), .int d2] :: (List.range m).map fun i => lD (lkR m lr i)) = (((1, 0, d1) :: ((m : Int) + 1, 1 + e, d2) :: ringL m lr : List Lk)).map lD from by unfold ringL; rw [List.map_cons, List.map_cons, List.map_map]; rfl]
      rw [es]
      simp
      rw [show D.tup (D.int 0 :: (kr.map D.int ++ [D.int x])) = keepsD (ksR kr x) from by unfold keepsD ksR; rw [List.map_cons, List.map_append]; rfl]
      rw [show D.tup ((lsR m lr d1 e d2).map lD) = linksD (lsR m lr d1 e d2) from rfl]
      refine L_Web (by omega) (by omega) K (by rw [kn]; exact L) ?_
      simp [frz_web]
      exact q _ _ _ _ _ _ _ _ _ (H.mono (by omega)) (by omega) R
    · intro i hi
      have hi := List.mem_range.mp hi
      have e1 : atI (lr.map D.int) (1 + (i : Int) - 1) = some (.int (kO lr i)) := by
        have : (1 : Int) + (i : Int) - 1 = (i : Int) := by omega
        rw [this]
        exact at_k (by omega) (by omega)
      have m0 : (0 : Int) < m := by omega
      simp [g_mod m0, e1]
      rfl
theorem repr_row11 {ks : List Int} {ls : List Lk} {life : Int} {liars : List Int} {out : Row} (K : KeepsOk ks) (l1 : life ≤ 300) (h : SignedOut ks ls life liars out) : gRepr (.p (.tup (out.map oD))) = some (.p (.str (pyD (.tup (out.map oD))).shown)) := by
  obtain ⟨ps, _, R, _⟩ := h
  exact repr_row (B := life) (by omega) R.b (by rw [R.len]; exact K.hi)
def JI (C : Addr) (c : Int) (ks : List Int) (ls : List Lk) (b : Nat) (fed : Bool) (last : Int) (many : Nat) (first : Int) (en : En) : Prop := ∃ h x y z, en = [some (.ml h), P (webD C c 1 ks ls), P (.bl fed), P (.int last), x, P (.int many), P (.int first), y, z, none] ∧ HandOk b h
set_option maxHeartbeats 4000000 in
theorem L_is_right {C : Addr} {b : Nat} {h : List D} {c : Int} {m : Nat} {kr lr : List Int} {d1 e d2 x : Int} (H : HandOk b h) (hb : b < 10000000) (R : RingOk m kr lr d1 e d2 x) {Q : QR}
    (q : ∀ h', HandOk (b + 1) h' → Q (.p (.bl true), [some (.ml h'), P (webD C c 1 (ksR kr x) (lsR m lr d1 e d2))])) : @OB _ ⟨Q⟩ (W_l_law_is_right C [.ml h, .p (webD C c 1 (ksR kr x) (lsR m lr d1 e d2))]) := by
  unfold W_l_law_is_right D_l_law_is_right B_l_law_is_right
  obtain ⟨K, kn⟩ := ring_ks R
  have L := ring_ls R
  obtain ⟨m2, m5, kl, ll, kb, lb, d1b, eb, d2b, xb⟩ := id R
  have ek : keepsD (ksR kr x) = .tup (.int 0 :: (kr.map .int ++ [.int x])) := by
    unfold keepsD ksR
    rw [List.map_cons, List.map_append]; rfl
  have el : linksD (lsR m lr d1 e d2) = .tup (lD (1, 0, d1) :: ((ringL m lr).map lD ++ [lD ((m : Int) + 1, 1 + e, d2)])) := by
    unfold linksD lsR
    rw [List.map_cons, List.map_append]; rfl
  have k1 : atI (D.int 0 :: (kr.map D.int ++ [D.int x])) 1 = some (.int (kO kr 0)) := by
    cases kr with
    | nil => simp at kl; omega
    | cons a r => exact at1
  have kz : atI (D.int 0 :: (kr.map D.int ++ [D.int x])) (-1) = some (.int x) := atI_last (D.int 0 :: kr.map D.int) (D.int x)
  have lz : atI (D.tup [.int 1, .int 0, .int d1] :: ((ringL m lr).map lD ++ [D.tup [.int ((m : Int) + 1), .int (1 + e), .int d2]])) (-1) = some (D.tup [.int ((m : Int) + 1), .int (1 + e), .int d2]) := atI_last (lD (1, 0, d1) :: (ringL m lr).map lD) (lD ((m : Int) + 1, 1 + e, d2))
  have hlen : (ringL m lr).length = m := by unfold ringL; simp
  have sk : gSumA (.p (.tup (kr.map D.int))) = some (.p (.int kr.sum)) := g_sumA rfl
  have sl : gSumA (.ml ((ringL m lr).map fun l => D.int l.2.2)) = some (.p (.int lr.sum)) := by
    rw [show (ringL m lr).map (fun l => D.int l.2.2) = lr.map D.int from by
      unfold ringL
      rw [List.map_map]
      refine List.ext_getElem (by simp [ll]) fun i h1 h2 => ?_
      simp only [List.getElem_map, List.getElem_range, Function.comp]
      show D.int (kO lr i) = _
      rw [kO_nat (by simpa using h2)]]
    exact g_sumA rfl
  have l2 : ∀ l : Lk, atI [D.int l.1, D.int l.2.1, D.int l.2.2] 2 = some (.int l.2.2) := fun l => at2
  simp [web_keeps, web_links, ek, el, k1, kz, lz, cutMid, sk]
  simp [lD, web_keeps, web_links, ek, el, k1, kz, lz, cutMid, sk]
  refine lcMap lD (fun l => D.int l.2.2) (by rw [hlen]; show m < 1000000; omega) ?_ ?_
  · simp [sl, web_keeps, web_links, ek, el, kz, lz, lD]
    refine L_draw H (by omega) (by omega) (by omega) fun h v H v0 v1 => ?_
    simp
    have em : ((kr.length : Int) + 1 + 1 - 2) = (m : Int) := by omega
    rw [em]
    refine forI D.int (fun r en => JI C c (ksR kr x) (lsR m lr d1 e d2) (b + 1) (decide (0 < kr.sum + lr.sum)) (d2 + x) m (d1 + kO kr 0) en ∧ ∀ life ∈ r, 0 ≤ life ∧ life ≤ 300) [0, 1, v, 300] ⟨⟨h, _, _, _, rfl, H⟩, fun l hl => by simp at hl; omega⟩ ?_ ?_
    · rintro life r _ ⟨⟨h, y1, y2, y3, rfl, H⟩, hr⟩
      obtain ⟨l0, l1⟩ := hr life (by simp)
      have er : (if 0 < kr.sum + lr.sum then life else if d1 + kO kr 0 < life then d1 + kO kr 0 else life) = ringV life kr lr d1 := rfl
      have fin : ∀ z : Option M, JI C c (ksR kr x) (lsR m lr d1 e d2) (b + 1) (decide (0 < kr.sum + lr.sum)) (d2 + x) m (d1 + kO kr 0) [some (.ml h), P (webD C c 1 (ksR kr x) (lsR m lr d1 e d2)), P (.bl (decide (0 < kr.sum + lr.sum))), P (.int (d2 + x)), P (.int life), P (.int m), P (.int (d1 + kO kr 0)), P (.int (ringV life kr lr d1)), z, none] := fun z => ⟨h, _, _, _, rfl, H⟩
      have tl : (if ringV life kr lr d1 + (d2 + x) < life then ringV life kr lr d1 + (d2 + x) else life) = min life (ringV life kr lr d1 + (d2 + x)) := by split <;> omega
      have Lx : LinksOk (ksR kr x).length (lsR m lr d1 e d2) := by rw [kn]; exact L
      have lot : LotOk (ksR kr x).length [] := ⟨by simp, by simp, by simp⟩
      by_cases fed : 0 < kr.sum + lr.sum
      · have hv : ringV life kr lr d1 = life := if_pos fed
        rw [hv] at tl
        simp [fed]
        rw [g_repT (by omega) (by omega)]
        simp
        rw [g_catT (by simp; omega)]
        simp
        rw [g_catT (by simp; omega)]
        simp
        refine L_signed_ages (liars := []) K Lx l0 l1 lot fun out ho => ?_
        have hr2 := ring_row R l0 ho
        rw [hv] at hr2
        simp [repr_row11 K l1 ho]
        rw [tl, ← hr2, repr_row11 K l1 ho]
        simp
        refine ⟨?_, fun l hl => hr l (by simp [hl])⟩
        have := fin
        simp [fed, hv] at this
        exact this _
      · have hv : (if d1 + kO kr 0 < life then d1 + kO kr 0 else life) = ringV life kr lr d1 := (if_neg fed).symm
        simp [fed]
        rw [hv, g_repT (by omega) (by omega)]
        simp
        rw [g_catT (by simp; omega)]
        simp
        rw [g_catT (by simp; omega)]
        simp
        refine L_signed_ages (liars := []) K Lx l0 l1 lot fun out ho => ?_
        have hr2 := ring_row R l0 ho
        simp [repr_row11 K l1 ho]
        rw [tl, ← hr2, repr_row11 K l1 ho]
        simp
        refine ⟨?_, fun l hl => hr l (by simp [hl])⟩
        have := fin
        simp [fed] at this
        exact this _
    · rintro _ ⟨⟨h, y1, y2, y3, rfl, H⟩, -⟩
      simp
      exact q h H
  · intro l hl
    simp [lD]

def ks1 : List Int := [0, 0, 0, 0]
def ls1 : List Lk := [(1, 0, 0), (1, 3, 0), (2, 1, 0), (3, 2, 1)]
theorem web1 : KeepsOk ks1 ∧ LinksOk ks1.length ls1 := by
  refine ⟨keeps_ok (ks := [0, 0, 0]) (by decide) (by simp), ⟨by decide, ?_, ?_⟩⟩
  · intro l hl
    simp [ls1] at hl
    rcases hl with rfl | rfl | rfl | rfl <;> exact ⟨by decide, by decide, by decide, by decide, by decide, by decide, by decide⟩
  · simp [lx, ls1]
theorem web1_r : Reach ls1 1 ∧ Reach ls1 2 ∧ Reach ls1 3 := by
  have r1 : Reach ls1 1 := .step (l := (1, 0, 0)) (by simp [ls1]) .src
  have r2 : Reach ls1 2 := .step (l := (2, 1, 0)) (by simp [ls1]) r1
  exact ⟨r1, r2, .step (l := (3, 2, 1)) (by simp [ls1]) r2⟩
theorem web1_out {life : Int} {liars : List Int} {out : Row} (l0 : 0 ≤ life) (h : SignedOut ks1 ls1 life liars out) (hl : liars = [] ∨ liars = [2]) : out = [some 0, some life, some life, some life] := by
  obtain ⟨r1, r2, r3⟩ := web1_r
  obtain ⟨K, L⟩ := web1
  have s0 := h.src l0 L
  have c2 := h.closed (l := (1, 3, 0)) (by simp [ls1]) r3
  have c3 := h.closed (l := (2, 1, 0)) (by simp [ls1]) r1
  have c4 := h.closed (l := (3, 2, 1)) (by simp [ls1]) r2
  have k1 : kO ks1 1 = 0 := rfl
  have k2 : kO ks1 2 = 0 := rfl
  have k3 : kO ks1 3 = 0 := rfl
  simp only [k1, k2, k3] at c2 c3 c4
  have b1 := h.b l0 1
  have b2 := h.b l0 2
  have b3 := h.b l0 3
  have v : valR out 1 = life ∧ valR out 2 = life ∧ valR out 3 = life := by
    rcases hl with rfl | rfl
    · simp at c2 c3 c4
      omega
    · simp at c2 c3 c4
      omega
  have hn := h.len
  have g0 := h.get (i := 0) (by decide) .src
  have g1 := h.get (i := 1) (by decide) r1
  have g2 := h.get (i := 2) (by decide) r2
  have g3 := h.get (i := 3) (by decide) r3
  have e0 : valR out ((0 : Nat) : Int) = 0 := s0
  have e1 : valR out ((1 : Nat) : Int) = life := v.1
  have e2 : valR out ((2 : Nat) : Int) = life := v.2.1
  have e3 : valR out ((3 : Nat) : Int) = life := v.2.2
  rw [e0] at g0
  rw [e1] at g1
  rw [e2] at g2
  rw [e3] at g3
  refine List.ext_getElem? fun i => ?_
  match i with
  | 0 => exact g0
  | 1 => exact g1
  | 2 => exact g2
  | 3 => exact g3
  | i + 4 =>
    have : ks1.length = 4 := rfl
    rw [List.getElem?_eq_none (by omega), List.getElem?_eq_none (by simp)]
theorem ne300 : gNe (.p (.tup [.int 0, .int 300, .int 300, .int 300])) (.p (.tup [.int 0, .int 300, .int 300, .int 300])) = some (.p (.bl false)) := rfl
theorem ne299 : gNe (.p (.tup [.int 0, .int 299, .int 299, .int 299])) (.p (.tup [.int 0, .int 299, .int 299, .int 299])) = some (.p (.bl false)) := rfl
def LI (ns : List Int) (wd : D) (b : Nat) (en : En) : Prop := ∃ h x, en = [P (.lst (ns.map .int)), some (.ml h), P wd, x] ∧ HandOk b h
theorem law_true {C : Addr} {ns : List Int} (hl : ns.length ≤ 63) {Q : QR} (q : Q (.p (.bl true), [P (.lst (ns.map .int))])) : @OB _ ⟨Q⟩ (W_law C [.p (.lst (ns.map .int))]) := by
  unfold W_law D_law B_law
  obtain ⟨K, L⟩ := web1
  simp
  refine L_hand hl fun h H => ?_
  simp
  refine L_Web (ks := ks1) (ls := ls1) (by omega) (by omega) K L ?_
  simp [frz_web]
  refine L_signed_ages (ks := ks1) (ls := ls1) (liars := []) K L (by omega) (by omega) ⟨by simp, by simp, by simp⟩ fun out ho => ?_
  have e := web1_out (by omega) ho (.inl rfl)
  subst e
  simp [ne300]
  refine L_signed_ages (ks := ks1) (ls := ls1) (liars := [2]) K L (by omega) (by omega) ⟨by simp [ks1], by simp, by simp⟩ fun out ho => ?_
  have e := web1_out (by omega) ho (.inr rfl)
  subst e
  simp [ne299]
  refine ⟨okR_of (by omega) (by omega), ?_⟩
  generalize D.ins C (frzF (webF 900 1 ks1 ls1)) = wd
  refine forN (fun k => LI ns wd (100 * k)) ⟨h, _, rfl, H⟩ ?_ ?_
  · rintro k hk _ ⟨h, x, rfl, H⟩
    have hk : k < 5 := hk
    simp
    refine L_ringed H (by omega) (by omega) (by omega) fun h c m kr lr d1 e d2 x H hc R => ?_
    simp
    refine L_is_right H (by omega) R fun h H => ?_
    simp
    refine L_ringed H (by omega) (by omega) (by omega) fun h c m kr lr d1 e d2 x H hc R => ?_
    simp
    refine L_is_right H (by omega) R fun h H => ?_
    simp
    exact ⟨h, _, rfl, H.mono (by omega)⟩
  · rintro _ ⟨h, x, rfl, H⟩
    simp
    exact q

end NS
open PySem PySem.W PyProof.Rows in
set_option maxRecDepth 100000 in
set_option maxHeartbeats 0 in
theorem PySem.Challenge.cw_namescopied_k11_whole_rings_capped_by_li_holds : PySem.Challenge.rw_namescopied_k11_whole_rings_capped_by_li.Holds := by
  w_on; o_law; k_head; (case hw => w_witness2)
  k_fill
  refine Dn.walk_g (l := PySem.Challenge.rw_namescopied_k11_whole_rings_capped_by_li) (n := 63) (k := 8) (x := "script") (sp := fun w => Dn.spLaw _) rfl (by decide) rfl ⟨rfl, by decide, by decide⟩ (fun w h Y => PySem.W.kIn_of Y) ?F (fun w H a ns hl hO hS => Dn.law_sp hl hS)
  case F =>
    intro w mg fa h KX G hmg
    refine' Dn.all_fin (Dn.law_of fun ns hl => NS.law_true hl rfl) (NS.all_mk KX G hmg ?aC_Web ?a_0 ?l_0 ?k_0 ?p_0 ?a_1 ?l_1 ?k_1 ?p_1 ?a_2 ?l_2 ?k_2 ?p_2 ?a_3 ?l_3 ?k_3 ?p_3 ?a_4 ?l_4 ?k_4 ?p_4 ?a_5 ?l_5 ?k_5 ?p_5 ?a_6 ?l_6 ?k_6 ?p_6 ?a_7 ?l_7 ?k_7 ?p_7 ?a_8 ?i_8 ?l_8 ?k_8 ?p_8 ?a_9 ?l_9 ?k_9 ?p_9 ?a_10 ?l_10 ?k_10 ?p_10 ?a_11 ?l_11 ?k_11 ?p_11 ?a_12 ?l_12 ?k_12 ?p_12 ?a_13 ?l_13 ?k_13 ?p_13 ?a_14 ?l_14 ?k_14 ?p_14 ?a_15 ?l_15 ?k_15 ?p_15 ?a_16 ?l_16 ?k_16 ?p_16 ?a_17 ?l_17 ?k_17 ?p_17 ?a_18 ?l_18 ?k_18 ?p_18 ?a_19 ?l_19 ?k_19 ?p_19 ?a_20 ?l_20 ?k_20 ?p_20 ?a_21 ?l_21 ?k_21 ?p_21 ?a_22 ?l_22 ?k_22 ?p_22 ?a_23 ?l_23 ?k_23 ?p_23 ?a_24 ?l_24 ?k_24 ?p_24 ?a_25 ?l_25 ?k_25 ?p_25 ?pg_Web ?hd_Web ?po_Web ?sa_Web ?mk_Web ?kc_Web ?ha_Web ?hn_Web ?ht_Web ?hm_Web ?n_Web_circle ?n_Web_growth ?n_Web_keeps ?n_Web_links ?m_abs ?m_all ?m_bool ?m_enumerate ?m_int ?m_isinstance ?m_len ?m_min ?m_range ?m_repr ?m_sorted ?m_sum ?m_tuple ?m_zip ?c_LEAST_CIRCLE ?c_MOST_CIRCLE ?c_MOST_GROWTH ?c_MOST_KEEP ?c_MOST_LATE ?c_MOST_LIFE ?c_MOST_LINKS ?c_MOST_PLACES ?c_SOURCE)
    (case aC_Web => k_is)
    (case a_0 => k_is)
    (case l_0 => k_is)
    (case k_0 => k_is)
    (case p_0 => k_is)
    (case a_1 => k_is)
    (case l_1 => k_is)
    (case k_1 => k_is)
    (case p_1 => k_is)
    (case a_2 => k_is)
    (case l_2 => k_is)
    (case k_2 => k_is)
    (case p_2 => k_is)
    (case a_3 => k_is)
    (case l_3 => k_is)
    (case k_3 => k_is)
    (case p_3 => k_is)
    (case a_4 => k_is)
    (case l_4 => k_is)
    (case k_4 => k_is)
    (case p_4 => k_is)
    (case a_5 => k_is)
    (case l_5 => k_is)
    (case k_5 => k_is)
    (case p_5 => k_is)
    (case a_6 => k_is)
    (case l_6 => k_is)
    (case k_6 => k_is)
    (case p_6 => k_is)
    (case a_7 => k_is)
    (case l_7 => k_is)
    (case k_7 => k_is)
    (case p_7 => k_is)
    (case a_8 => k_is)
    (case i_8 => k_is)
    (case l_8 => k_is)
    (case k_8 => k_is)
    (case p_8 => k_is)
    (case a_9 => k_is)
    (case l_9 => k_is)
    (case k_9 => k_is)
    (case p_9 => k_is)
    (case a_10 => k_is)
    (case l_10 => k_is)
    (case k_10 => k_is)
    (case p_10 => k_is)
    (case a_11 => k_is)
    (case l_11 => k_is)
    (case k_11 => k_is)
    (case p_11 => k_is)
    (case a_12 => k_is)
    (case l_12 => k_is)
    (case k_12 => k_is)
    (case p_12 => k_is)
    (case a_13 => k_is)
    (case l_13 => k_is)
    (case k_13 => k_is)
    (case p_13 => k_is)
    (case a_14 => k_is)
    (case l_14 => k_is)
    (case k_14 => k_is)
    (case p_14 => k_is)
    (case a_15 => k_is)
    (case l_15 => k_is)
    (case k_15 => k_is)
    (case p_15 => k_is)
    (case a_16 => k_is)
    (case l_16 => k_is)
    (case k_16 => k_is)
    (case p_16 => k_is)
    (case a_17 => k_is)
    (case l_17 => k_is)
    (case k_17 => k_is)
    (case p_17 => k_is)
    (case a_18 => k_is)
    (case l_18 => k_is)
    (case k_18 => k_is)
    (case p_18 => k_is)
    (case a_19 => k_is)
    (case l_19 => k_is)
    (case k_19 => k_is)
    (case p_19 => k_is)
    (case a_20 => k_is)
    (case l_20 => k_is)
    (case k_20 => k_is)
    (case p_20 => k_is)
    (case a_21 => k_is)
    (case l_21 => k_is)
    (case k_21 => k_is)
    (case p_21 => k_is)
    (case a_22 => k_is)
    (case l_22 => k_is)
    (case k_22 => k_is)
    (case p_22 => k_is)
    (case a_23 => k_is)
    (case l_23 => k_is)
    (case k_23 => k_is)
    (case p_23 => k_is)
    (case a_24 => k_is)
    (case l_24 => k_is)
    (case k_24 => k_is)
    (case p_24 => k_is)
    (case a_25 => k_is)
    (case l_25 => k_is)
    (case k_25 => k_is)
    (case p_25 => k_is)
    (case pg_Web => k_is)
    (case hd_Web => k_is)
    (case po_Web => k_is)
    (case sa_Web => k_is)
    (case mk_Web => k_is)
    (case kc_Web => k_is)
    (case ha_Web => k_is)
    (case hn_Web => k_is)
    (case ht_Web => k_is)
    (case hm_Web => k_is)
    (case n_Web_circle => k_is)
    (case n_Web_growth => k_is)
    (case n_Web_keeps => k_is)
    (case n_Web_links => k_is)
    (case m_abs => k_is)
    (case m_all => k_is)
    (case m_bool => k_is)
    (case m_enumerate => k_is)
    (case m_int => k_is)
    (case m_isinstance => k_is)
    (case m_len => k_is)
    (case m_min => k_is)
    (case m_range => k_is)
    (case m_repr => k_is)
    (case m_sorted => k_is)
    (case m_sum => k_is)
    (case m_tuple => k_is)
    (case m_zip => k_is)
    (case c_LEAST_CIRCLE => k_is)
    (case c_MOST_CIRCLE => k_is)
    (case c_MOST_GROWTH => k_is)
    (case c_MOST_KEEP => k_is)
    (case c_MOST_LATE => k_is)
    (case c_MOST_LIFE => k_is)
    (case c_MOST_LINKS => k_is)
    (case c_MOST_PLACES => k_is)
    (case c_SOURCE => k_is)
