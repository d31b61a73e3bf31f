import PyProof.Rows.All
import Wide.All
import OpenK.AllK
import Wide.FinOn
import HandS.ForMost
import HandS.Exc
import HandS.ExcOwn
import HandS.Lambda
import HandS.Comp
import HandS.Iter
import HandS.List
import HandS.TupAny
import HandS.TupMul
import HandS.TupLe
import HandS.Text
import HandS.Wide
import HandS.IsInst
import HandS.Deep
import HandS.Steps
import HandS.Style
import HandS.Flow
import HandS.Replace
import HandS.TryOnly
import HandS.NoneIn
import KE.DataCmp
import HandS.RaiseMore
import KE.SortData
import KE.DataAny
import PyProof.ListStr
import PyProof.CallFns
import HandS.Star
import HandS.Property
import HandS.Nested
import HandS.MethStar
import KE.KSuper
import HandS.Zip
import KE.GoesEnum
import PyProof.EnumMake
import KE.KUnpackStar
import KE.DataMinKey
import HandS.Defaults
import HandS.Head0
import HandS.Head1
import HandS.Head2
import HandS.HeadEnd
import HandS.HeadHook1
import HandS.HeadHook2
import HandS.HeadHook3
import HandS.HeadHook4
import HandS.HeadWalk
import HandS.EndTab
import HandS.Codes
import PyProof.StrLawsIn
import KE.KStateDown
import PySem.Challenge.RW_elderorder_k23_flips_by_both_orders
set_option Elab.async false
set_option linter.all false
set_option maxRecDepth 100000
set_option maxHeartbeats 4000000
namespace DL
open PySem PySem.Spec PyProof.Rows L2
abbrev St := L2.St
inductive D where
  | non
  | bl (b : Bool)
  | int (i : Int)
  | str (s : Str)
  | lst (xs : List D)
  | scr (ns : List Int)
  | tup (xs : List D)
  | ins (c : Nat) (ks : List Str) (vs : List D)
  | cls (c : Nat)
/-- where the classes stand; the tables of code objects -/
structure CT where
  at_ : Nat → Addr
  T : List (Addr × Str)
instance : CoeFun CT (fun _ => Nat → Addr) := ⟨CT.at_⟩
/-- the written part, and where the classes stand -/
structure Gm where
  K : PySem.W.Frag
  cm : CT
mutual
def Rep (Γ : Gm) (H : Hp) : D → V → Prop
  | .non, v => v = .non
  | .bl b, v => v = .bl b
  | .int i, v => v = .int i
  | .str s, v => v = .str s
  | .lst ds, v => ∃ a vs, v = .ref a ∧ H a = some (.lst vs) ∧ Reps Γ H ds vs
  | .scr ns, v => ∃ a, v = .ref a ∧ SqL Γ.K H a (ns.map V.int)
  | .tup ds, v => ∃ a vs, v = .ref a ∧ SqT Γ.K H a vs ∧ Reps Γ H ds vs
  | .ins c ks ds, v => ∃ a dx vs, v = .ref a ∧ H a = some (.ins (Γ.cm c) dx (ks.zip vs)) ∧ ks.length = ds.length ∧ Reps Γ H ds vs
  | .cls c, v => v = .ref (Γ.cm c)
def Reps (Γ : Gm) (H : Hp) : List D → List V → Prop
  | [], vs => vs = []
  | d :: ds, vs => ∃ v r, vs = v :: r ∧ Rep Γ H d v ∧ Reps Γ H ds r
end
theorem same_rd {H H' : Hp} {a : Addr} {u : HO} (s : Same H H') (h : Rd H a u) : Rd H' a u := by
  rcases h with h | ⟨o, h⟩
  · exact .inl (s _ _ h)
  · exact .inr ⟨o, s _ _ h⟩
theorem same_l {K : PySem.W.Frag} {H H' : Hp} {a : Addr} {xs : List V} (s : Same H H') (h : SqL K H a xs) : SqL K H' a xs := s.seq h
theorem same_t {K : PySem.W.Frag} {H H' : Hp} {a : Addr} {xs : List V} (s : Same H H') (h : SqT K H a xs) : SqT K H' a xs := by
  rcases h with h | h
  · exact .inl (same_rd s h)
  · exact .inr h
mutual
theorem Rep.mono {Γ : Gm} {H H' : Hp} (s : Same H H') : ∀ (d : D) (v : V), Rep Γ H d v → Rep Γ H' d v
  | .non, v, h => h
  | .bl b, v, h => h
  | .int i, v, h => h
  | .str s, v, h => h
  | .lst ds, v, ⟨a, vs, e, q, r⟩ => ⟨a, vs, e, s _ _ q, Reps.mono s ds vs r⟩
  | .scr ns, v, ⟨a, e, q⟩ => ⟨a, e, same_l s q⟩
  | .tup ds, v, ⟨a, vs, e, q, r⟩ => ⟨a, vs, e, same_t s q, Reps.mono s ds vs r⟩
  | .ins c ks ds, v, ⟨a, dx, vs, e, q, l, r⟩ => ⟨a, dx, vs, e, s _ _ q, l, Reps.mono s ds vs r⟩
  | .cls c, v, h => h
theorem Reps.mono {Γ : Gm} {H H' : Hp} (s : Same H H') : ∀ (ds : List D) (vs : List V), Reps Γ H ds vs → Reps Γ H' ds vs
  | [], vs, h => h
  | d :: ds, vs, ⟨v, r, e, h1, h2⟩ => ⟨v, r, e, Rep.mono s d v h1, Reps.mono s ds r h2⟩
end
theorem Reps.length {Γ : Gm} {H : Hp} : ∀ {ds : List D} {vs : List V}, Reps Γ H ds vs → vs.length = ds.length
  | [], vs, h => by cases (show vs = [] from h); rfl
  | d :: ds, vs, h => by
    obtain ⟨v, r, rfl, _, h2⟩ := h
    simp [Reps.length h2]
theorem Reps.get {Γ : Gm} {H : Hp} : ∀ {ds : List D} {vs : List V} {i : Nat} {d : D}, Reps Γ H ds vs → ds[i]? = some d → ∃ v, vs[i]? = some v ∧ Rep Γ H d v
  | [], vs, i, d, h, e => by simp at e
  | d0 :: ds, vs, 0, d, h, e => by
    obtain ⟨v, r, rfl, h1, _⟩ := h
    simp at e; subst e
    exact ⟨v, rfl, h1⟩
  | d0 :: ds, vs, i + 1, d, h, e => by
    obtain ⟨v, r, rfl, _, h2⟩ := h
    obtain ⟨u, e1, e2⟩ := Reps.get (i := i) (d := d) h2 (by simpa using e)
    exact ⟨u, by simpa using e1, e2⟩
theorem Reps.getV {Γ : Gm} {H : Hp} : ∀ {ds : List D} {vs : List V} {i : Nat} {v : V}, Reps Γ H ds vs → vs[i]? = some v → ∃ d, ds[i]? = some d ∧ Rep Γ H d v
  | [], vs, i, v, h, e => by cases (show vs = [] from h); simp at e
  | d0 :: ds, vs, 0, v, h, e => by
    obtain ⟨w, r, rfl, h1, _⟩ := h
    simp at e; subst e
    exact ⟨d0, rfl, h1⟩
  | d0 :: ds, vs, i + 1, v, h, e => by
    obtain ⟨w, r, rfl, _, h2⟩ := h
    obtain ⟨u, e1, e2⟩ := Reps.getV (i := i) (v := v) h2 (by simpa using e)
    exact ⟨u, by simpa using e1, e2⟩
theorem Reps.nil {Γ : Gm} {H : Hp} : Reps Γ H [] [] := rfl
theorem Reps.cons {Γ : Gm} {H : Hp} {d : D} {ds : List D} {v : V} {vs : List V} (h : Rep Γ H d v) (r : Reps Γ H ds vs) : Reps Γ H (d :: ds) (v :: vs) := ⟨v, vs, rfl, h, r⟩
theorem Reps.append {Γ : Gm} {H : Hp} : ∀ {ds es : List D} {vs ws : List V}, Reps Γ H ds vs → Reps Γ H es ws → Reps Γ H (ds ++ es) (vs ++ ws)
  | [], es, vs, ws, h, q => by cases (show vs = [] from h); exact q
  | d :: ds, es, vs, ws, h, q => by
    obtain ⟨v, r, rfl, h1, h2⟩ := h
    exact ⟨v, r ++ ws, rfl, h1, Reps.append h2 q⟩
theorem Reps.take {Γ : Gm} {H : Hp} : ∀ {ds : List D} {vs : List V} (n : Nat), Reps Γ H ds vs → Reps Γ H (ds.take n) (vs.take n)
  | ds, vs, 0, h => by simp [List.take_zero]; exact Reps.nil
  | [], vs, n + 1, h => by cases (show vs = [] from h); exact Reps.nil
  | d :: ds, vs, n + 1, h => by
    obtain ⟨v, r, rfl, h1, h2⟩ := h
    exact ⟨v, r.take n, rfl, h1, Reps.take n h2⟩
theorem Reps.drop {Γ : Gm} {H : Hp} : ∀ {ds : List D} {vs : List V} (n : Nat), Reps Γ H ds vs → Reps Γ H (ds.drop n) (vs.drop n)
  | ds, vs, 0, h => h
  | [], vs, n + 1, h => by cases (show vs = [] from h); exact Reps.nil
  | d :: ds, vs, n + 1, h => by
    obtain ⟨v, r, rfl, h1, h2⟩ := h
    exact Reps.drop n h2
theorem Reps.set {Γ : Gm} {H : Hp} : ∀ {ds : List D} {vs : List V} {d : D} {v : V} (n : Nat), Reps Γ H ds vs → Rep Γ H d v → Reps Γ H (ds.set n d) (vs.set n v)
  | [], vs, d, v, n, h, q => by cases (show vs = [] from h); exact Reps.nil
  | d0 :: ds, vs, d, v, 0, h, q => by
    obtain ⟨w, r, rfl, h1, h2⟩ := h
    exact ⟨v, r, rfl, q, h2⟩
  | d0 :: ds, vs, d, v, n + 1, h, q => by
    obtain ⟨w, r, rfl, h1, h2⟩ := h
    exact ⟨w, r.set n v, rfl, h1, Reps.set n h2 q⟩
theorem Reps.rev {Γ : Gm} {H : Hp} : ∀ {ds : List D} {vs : List V}, Reps Γ H ds vs → Reps Γ H ds.reverse vs.reverse
  | [], vs, h => by cases (show vs = [] from h); exact Reps.nil
  | d :: ds, vs, h => by
    obtain ⟨v, r, rfl, h1, h2⟩ := h
    rw [List.reverse_cons, List.reverse_cons]
    exact Reps.append (Reps.rev h2) (Reps.cons h1 Reps.nil)
inductive Sl where
  | no
  | fro (d : D)
  | own (d : D)
  | bor (d : D)
abbrev DS := List Sl
inductive Rv where
  | fro (d : D)
  | own (d : D)
  | slot (i : Nat)
inductive R (α : Type) where
  | ok (a : α)
  | err (c : Nat) (ks : List Str) (es : List D) (ds : DS)
  | stuck
namespace R
def bind {α β : Type} (x : R α) (f : α → R β) : R β := match x with
  | .ok a => f a
  | .err c ks es ds => .err c ks es ds
  | .stuck => .stuck
/-- it ends well, in K, or in an error, in E -/
def wp {α : Type} (x : R α) (K : α → Prop) (E : Nat → List Str → List D → DS → Prop) : Prop := match x with
  | .ok a => K a
  | .err c ks es ds => E c ks es ds
  | .stuck => False
theorem wp_bind {α β : Type} {x : R α} {f : α → R β} {K : β → Prop} {E : Nat → List Str → List D → DS → Prop} : (x.bind f).wp K E = x.wp (fun a => (f a).wp K E) E := by
  cases x <;> rfl
theorem wp_mono {α : Type} {x : R α} {K K' : α → Prop} {E E' : Nat → List Str → List D → DS → Prop} (h : x.wp K E) (hk : ∀ a, x = .ok a → K a → K' a) (he : ∀ c ks es ds, E c ks es ds → E' c ks es ds) : x.wp K' E' := by
  cases x with
  | ok a => exact hk a rfl h
  | err c ks es ds => exact he _ _ _ _ h
  | stuck => exact h
theorem wp_pure {α : Type} {x : R α} {K : α → Prop} {E : Nat → List Str → List D → DS → Prop} (np : ∀ c ks es ds, x ≠ .err c ks es ds) (h : x.wp K E) : ∃ a, x = .ok a ∧ K a := by
  cases x with
  | ok a => exact ⟨a, rfl, h⟩
  | err c ks es ds => exact absurd rfl (np c ks es ds)
  | stuck => exact h.elim
end R
/-- an object of one's own: shallow in H, its parts frozen -/
def ObjAt (Γ : Gm) (F H : Hp) (a : Addr) : D → Prop
  | .lst ds => ∃ vs, H a = some (.lst vs) ∧ Reps Γ F ds vs
  | .ins c ks ds => ∃ dx vs, H a = some (.ins (Γ.cm c) dx (ks.zip vs)) ∧ ks.length = ds.length ∧ Reps Γ F ds vs
  | _ => False
theorem ObjAt.ex {Γ : Gm} {F H : Hp} {a : Addr} : ∀ {d : D}, ObjAt Γ F H a d → ∃ o, H a = some o
  | .lst ds, ⟨vs, h, _⟩ => ⟨_, h⟩
  | .ins c ks ds, ⟨dx, vs, h, _⟩ => ⟨_, h⟩
  | .non, h => h.elim
  | .bl _, h => h.elim
  | .int _, h => h.elim
  | .str _, h => h.elim
  | .tup _, h => h.elim
  | .scr _, h => h.elim
  | .cls _, h => h.elim
theorem ObjAt.mono {Γ : Gm} {F F' H H' : Hp} {a : Addr} (s : Same F F') (k : ∀ o, H a = Option.some o → H' a = Option.some o) : ∀ {d : D}, ObjAt Γ F H a d → ObjAt Γ F' H' a d
  | .lst ds, ⟨vs, h, r⟩ => ⟨vs, k _ h, Reps.mono s ds vs r⟩
  | .ins c ks ds, ⟨dx, vs, h, l, r⟩ => ⟨dx, vs, k _ h, l, Reps.mono s ds vs r⟩
  | .non, h => h.elim
  | .bl _, h => h.elim
  | .int _, h => h.elim
  | .str _, h => h.elim
  | .tup _, h => h.elim
  | .scr _, h => h.elim
  | .cls _, h => h.elim
theorem ObjAt.nt {Γ : Gm} {F H : Hp} {a : Addr} {o : HO} (e : H a = some o) : ∀ {d : D}, ObjAt Γ F H a d → (∀ ps, o ≠ .tbl ps) ∧ ∀ q, o ≠ LamX.CodeO a q
  | .lst ds, ⟨vs, h, _⟩ => by rw [e] at h; cases h; exact ⟨fun ps z => (by cases z), fun q z => (by unfold LamX.CodeO at z; cases z)⟩
  | .ins c ks ds, ⟨dx, vs, h, _⟩ => by rw [e] at h; cases h; exact ⟨fun ps z => (by cases z), fun q z => (by unfold LamX.CodeO at z; cases z)⟩
  | .non, h => h.elim
  | .bl _, h => h.elim
  | .int _, h => h.elim
  | .str _, h => h.elim
  | .tup _, h => h.elim
  | .scr _, h => h.elim
  | .cls _, h => h.elim
/-- frozen: it joins F -/
theorem ObjAt.freeze {Γ : Gm} {F H : Hp} {a : Addr} (sub : Same F H) (n : F a = none) {F' : Hp} (hF : ∀ o, H a = some o → F' a = Option.some o) (hs : Same F F') : ∀ {d : D}, ObjAt Γ F H a d → Rep Γ F' d (.ref a)
  | .lst ds, ⟨vs, h, r⟩ => ⟨a, vs, rfl, hF _ h, Reps.mono hs ds vs r⟩
  | .ins c ks ds, ⟨dx, vs, h, l, r⟩ => ⟨a, dx, vs, rfl, hF _ h, l, Reps.mono hs ds vs r⟩
  | .non, h => h.elim
  | .bl _, h => h.elim
  | .int _, h => h.elim
  | .str _, h => h.elim
  | .tup _, h => h.elim
  | .scr _, h => h.elim
  | .cls _, h => h.elim
theorem ObjAt.rep {Γ : Gm} {F H : Hp} {a : Addr} (sub : Same F H) : ∀ {d : D}, ObjAt Γ F H a d → Rep Γ H d (.ref a)
  | .lst ds, ⟨vs, h, r⟩ => ⟨a, vs, rfl, h, Reps.mono sub ds vs r⟩
  | .ins c ks ds, ⟨dx, vs, h, l, r⟩ => ⟨a, dx, vs, rfl, h, l, Reps.mono sub ds vs r⟩
  | .non, h => h.elim
  | .bl _, h => h.elim
  | .int _, h => h.elim
  | .str _, h => h.elim
  | .tup _, h => h.elim
  | .scr _, h => h.elim
  | .cls _, h => h.elim
/-- slot i is mine (own or lent), with the data d -/
def Mine (ds : DS) (i : Nat) (d : D) : Prop := ds[i]? = some (Sl.own d) ∨ ds[i]? = some (Sl.bor d)
/-- the addresses that may be written -/
def Own (ds : DS) (σ : St) (b : Addr) : Prop := ∃ (i : Nat) (d : D), Mine ds i d ∧ σ[i]? = some (some (.ref b))
/-- no table of code objects -/
def Nt (o : HO) : Prop := ∀ ps, o ≠ .tbl ps
/-- the tables stand, nothing frozen among them -/
structure TbOk (Γ : Gm) (H F : Hp) : Prop where
  tabs : LamX.Tabs Γ.cm.T H
  out : ∀ p ∈ Γ.cm.T, F p.1 = none
theorem TbOk.of {Γ : Gm} {H F H' F' : Hp} (t : TbOk Γ H F) (s : ∀ b o, H b = some o → H' b = some o) (n : ∀ b o, F' b = some o → F b = some o ∨ H b = none) : TbOk Γ H' F' :=
  ⟨t.tabs.ext s, fun p hp => by
    cases q : F' p.1 with
    | none => rfl
    | some o =>
      rcases n _ o q with z | z
      · rw [t.out p hp] at z; cases z
      · obtain ⟨ps, h1, _⟩ := t.tabs p hp
        rw [z] at h1; cases h1⟩
theorem TbOk.freeze {Γ : Gm} {H F : Hp} (t : TbOk Γ H F) {a : Addr} {o : HO} (ha : H a = some o) (n : Nt o) : TbOk Γ H (upd F a o) :=
  ⟨t.tabs, fun p hp => by
    have : p.1 ≠ a := fun e => by
      obtain ⟨ps, h1, _⟩ := t.tabs p hp
      rw [e, ha] at h1; cases h1
      exact n ps rfl
    rw [upd_ne this]
    exact t.out p hp⟩
/-- an object that is no table is written -/
theorem TbOk.write {Γ : Gm} {H F : Hp} (t : TbOk Γ H F) {a : Addr} {o o' : HO} (ha : H a = some o) (n : Nt o) (n2 : ∀ q, o ≠ LamX.CodeO a q) : TbOk Γ (upd H a o') F :=
  ⟨fun p hp => by
    obtain ⟨ps, h1, h2, h3⟩ := t.tabs p hp
    have : p.1 ≠ a := fun e => by rw [e, ha] at h1; cases h1; exact n ps rfl
    refine ⟨ps, by rw [upd_ne this]; exact h1, h2, fun pos cv hc => ?_⟩
    obtain ⟨c, e1, e2⟩ := h3 pos cv hc
    have : c ≠ a := fun e => by rw [e, ha] at e2; cases e2; exact n2 p.2 rfl
    exact ⟨c, e1, by rw [upd_ne this]; exact e2⟩, t.out⟩
structure Rl (Γ : Gm) (ds : DS) (σ : St) (H F : Hp) : Prop where
  sub : Same F H
  len : ds.length = σ.length
  fro : ∀ (i : Nat) (d : D), ds[i]? = some (Sl.fro d) → ∃ v, σ[i]? = some (some v) ∧ Rep Γ F d v
  own : ∀ (i : Nat) (d : D), Mine ds i d → ∃ a, σ[i]? = some (some (.ref a)) ∧ F a = none ∧ ObjAt Γ F H a d
  apart : ∀ (i j : Nat) (d e : D) (a : Addr), Mine ds i d → Mine ds j e → σ[i]? = some (some (.ref a)) → σ[j]? = some (some (.ref a)) → i = j
  tb : TbOk Γ H F
structure Step (Γ : Gm) (ds : DS) (σ : St) (H F : Hp) (ds' : DS) (σ' : St) (H' F' : Hp) : Prop where
  rl : Rl Γ ds' σ' H' F'
  fs : Same F F'
  keep : ∀ b o, H b = some o → Nt o → ¬ Own ds σ b → H' b = some o
  new : ∀ b o, F' b = some o → F b = some o ∨ H b = none ∨ Own ds σ b
  ow : ∀ b, Own ds' σ' b → Own ds σ b ∨ H b = none
  bor : ∀ (i : Nat) (d : D), ds[i]? = some (Sl.bor d) → (∃ d', ds'[i]? = some (Sl.bor d')) ∧ σ'[i]? = σ[i]?
  ln : ds'.length = ds.length
  there : ∀ b o, H b = some o → ∃ o', H' b = some o'
section
variable {Γ : Gm} {ds ds1 ds2 : DS} {σ σ1 σ2 : St} {H H1 H2 F F1 F2 : Hp}
theorem Step.refl (r : Rl Γ ds σ H F) : Step Γ ds σ H F ds σ H F :=
  ⟨r, Same.refl _, fun _ _ h _ _ => h, fun _ _ h => .inl h, fun _ h => .inl h, fun i d h => ⟨⟨d, h⟩, rfl⟩, rfl, fun _ o h => ⟨o, h⟩⟩
theorem Step.trans (a : Step Γ ds σ H F ds1 σ1 H1 F1) (b : Step Γ ds1 σ1 H1 F1 ds2 σ2 H2 F2) : Step Γ ds σ H F ds2 σ2 H2 F2 := by
  have back : ∀ c, H1 c = none → H c = none := fun c h => by
    cases e : H c with
    | none => rfl
    | some o => obtain ⟨o', q⟩ := a.there c o e; rw [h] at q; cases q
  refine ⟨b.rl, a.fs.trans b.fs, fun c o h nt n => ?_, fun c o h => ?_, fun c h => ?_, fun i d h => ?_, b.ln.trans a.ln, fun c o h => ?_⟩
  · refine b.keep c o (a.keep c o h nt n) nt fun q => ?_
    rcases a.ow c q with z | z
    · exact n z
    · rw [h] at z; cases z
  · rcases b.new c o h with z | z | z
    · exact a.new c o z
    · exact .inr (.inl (back c z))
    · exact (a.ow c z).elim (fun z => .inr (.inr z)) fun z => .inr (.inl z)
  · rcases b.ow c h with z | z
    · exact a.ow c z
    · exact .inr (back c z)
  · obtain ⟨⟨d1, e1⟩, e2⟩ := a.bor i d h
    obtain ⟨⟨d2, e3⟩, e4⟩ := b.bor i d1 e1
    exact ⟨⟨d2, e3⟩, e4.trans e2⟩
  · obtain ⟨o', q⟩ := a.there c o h
    exact b.there c o' q
def RvOk (Γ : Gm) (rv : Rv) (v : V) (ds : DS) (σ : St) (H F : Hp) : Prop := match rv with
  | .fro d => Rep Γ F d v
  | .own d => ∃ a, v = .ref a ∧ F a = none ∧ ObjAt Γ F H a d ∧ ¬ Own ds σ a
  | .slot i => σ[i]? = some (some v)
/-- a new object of one's own was not there before -/
def Fresh (rv : Rv) (v : V) (H : Hp) : Prop := match rv with
  | .own _ => ∀ a, v = .ref a → H a = none
  | _ => True
/-- a value that waits stays what it is -/
theorem RvOk.stay {rv : Rv} {v : V} (h : RvOk Γ rv v ds σ H F) (s : Step Γ ds σ H F ds1 σ H1 F1) : RvOk Γ rv v ds1 σ H1 F1 := by
  cases rv with
  | fro d => exact Rep.mono s.fs d v h
  | own d =>
    obtain ⟨a, e, n, ob, no⟩ := h
    obtain ⟨o, ho⟩ := ob.ex
    refine ⟨a, e, ?_, ob.mono s.fs (fun o q => s.keep a o q (ob.nt q).1 no), fun q => ?_⟩
    · cases q : F1 a with
      | none => rfl
      | some u =>
        rcases s.new a u q with z | z | z
        · rw [n] at z; cases z
        · rw [ho] at z; cases z
        · exact (no z).elim
    · rcases s.ow a q with z | z
      · exact no z
      · rw [ho] at z; cases z
  | slot i => exact h
/-- what a value is, looked at: its data, with its parts frozen -/
def Pk (Γ : Gm) (F H : Hp) (d : D) (v : V) : Prop := Rep Γ F d v ∨ ∃ a, v = .ref a ∧ ObjAt Γ F H a d
theorem Pk.rep {d : D} {v : V} (sub : Same F H) (h : Pk Γ F H d v) : Rep Γ H d v := by
  rcases h with h | ⟨a, rfl, h⟩
  · exact Rep.mono sub d v h
  · exact h.rep sub
theorem Pk.list {xs : List D} {v : V} (sub : Same F H) (h : Pk Γ F H (.lst xs) v) : ∃ a vs, v = .ref a ∧ H a = some (.lst vs) ∧ Reps Γ F xs vs := by
  rcases h with ⟨a, vs, e, q, r⟩ | ⟨a, rfl, vs, q, r⟩
  · exact ⟨a, vs, e, sub _ _ q, r⟩
  · exact ⟨a, vs, rfl, q, r⟩
theorem Pk.scr {ns : List Int} {v : V} (sub : Same F H) (h : Pk Γ F H (.scr ns) v) : ∃ a, v = .ref a ∧ SqL Γ.K H a (ns.map V.int) := by
  rcases h with ⟨a, e, q⟩ | ⟨a, rfl, h⟩
  · exact ⟨a, e, same_l sub q⟩
  · exact h.elim
theorem Pk.tup {xs : List D} {v : V} (sub : Same F H) (h : Pk Γ F H (.tup xs) v) : ∃ a vs, v = .ref a ∧ SqT Γ.K H a vs ∧ Reps Γ F xs vs := by
  rcases h with ⟨a, vs, e, q, r⟩ | ⟨a, rfl, h⟩
  · exact ⟨a, vs, e, same_t sub q, r⟩
  · exact h.elim
theorem Pk.ins {c : Nat} {ks : List Str} {xs : List D} {v : V} (sub : Same F H) (h : Pk Γ F H (.ins c ks xs) v) : ∃ a dx vs, v = .ref a ∧ H a = some (.ins (Γ.cm c) dx (ks.zip vs)) ∧ ks.length = xs.length ∧ Reps Γ F xs vs := by
  rcases h with ⟨a, dx, vs, e, q, l, r⟩ | ⟨a, rfl, dx, vs, q, l, r⟩
  · exact ⟨a, dx, vs, e, sub _ _ q, l, r⟩
  · exact ⟨a, dx, vs, rfl, q, l, r⟩
end
/-- the data behind a value -/
def peek (ds : DS) : Rv → R D
  | .fro d => .ok d
  | .own d => .ok d
  | .slot i => match ds[i]? with
    | some (Sl.fro d) => .ok d
    | some (Sl.own d) => .ok d
    | some (Sl.bor d) => .ok d
    | _ => .stuck
theorem peek_ok {Γ : Gm} {ds : DS} {σ : St} {H F : Hp} {rv : Rv} {v : V} {d : D} (r : Rl Γ ds σ H F) (h : RvOk Γ rv v ds σ H F) (e : peek ds rv = .ok d) : Pk Γ F H d v := by
  cases rv with
  | fro d' => cases e; exact .inl h
  | own d' =>
    cases e
    obtain ⟨a, e, n, ob, _⟩ := h
    exact .inr ⟨a, e, ob⟩
  | slot i =>
    have hv : σ[i]? = some (some v) := h
    dsimp only [peek] at e
    split at e
    · rename_i d' q
      cases e
      obtain ⟨v', h1, h2⟩ := r.fro i _ q
      rw [hv] at h1; cases h1
      exact .inl h2
    · rename_i d' q
      cases e
      obtain ⟨a, h1, _, h2⟩ := r.own i _ (.inl q)
      rw [hv] at h1; cases h1
      exact .inr ⟨a, rfl, h2⟩
    · rename_i d' q
      cases e
      obtain ⟨a, h1, _, h2⟩ := r.own i _ (.inr q)
      rw [hv] at h1; cases h1
      exact .inr ⟨a, rfl, h2⟩
    · cases e
/-- the data, frozen -/
def take (ds : DS) : Rv → R (D × DS)
  | .fro d => .ok (d, ds)
  | .own d => .ok (d, ds)
  | .slot i => match ds[i]? with
    | some (Sl.fro d) => .ok (d, ds)
    | some (Sl.own d) => .ok (d, ds.set i (.fro d))
    | _ => .stuck
theorem upd_at {F H : Hp} {a : Addr} {o : HO} (sub : Same F H) (h : H a = some o) : Same (upd F a o) H := fun b u q => by
  by_cases e : b = a
  · subst e; rw [upd_same] at q; cases q; exact h
  · rw [upd_ne e] at q; exact sub b u q
theorem same_upd {F : Hp} {a : Addr} {o : HO} (n : F a = none) : Same F (upd F a o) := fun b u q => by
  rw [upd_ne]
  · exact q
  · rintro rfl; rw [n] at q; cases q
theorem mine_set {ds : DS} {i j : Nat} {d e : D} (h : Mine (ds.set i (Sl.fro e)) j d) : j ≠ i ∧ Mine ds j d := by
  have ne : j ≠ i := by
    rintro rfl
    unfold Mine at h
    rw [List.getElem?_set_self'] at h
    cases q : ds[j]? with
    | none => rw [q] at h; simp at h
    | some x => rw [q] at h; simp at h
  refine ⟨ne, ?_⟩
  unfold Mine at h ⊢
  rw [List.getElem?_set_ne (Ne.symm ne)] at h
  exact h
theorem take_ok {Γ : Gm} {ds ds' : DS} {σ : St} {H F : Hp} {rv : Rv} {v : V} {d : D} (r : Rl Γ ds σ H F) (h : RvOk Γ rv v ds σ H F) (e : take ds rv = .ok (d, ds')) :
    ∃ F', (∀ b o, F' b = some o → F b = some o ∨ (∃ d, rv = .own d ∧ v = .ref b) ∨ Own ds σ b) ∧ Same F F' ∧ Same F' H ∧ Rep Γ F' d v ∧ Rl Γ ds' σ H F' ∧ (∀ b, Own ds' σ b → Own ds σ b) ∧
      (∀ (i : Nat) (d : D), ds[i]? = some (Sl.bor d) → ds'[i]? = some (Sl.bor d)) ∧ ds'.length = ds.length := by
  cases rv with
  | fro d' =>
    cases e
    exact ⟨F, fun b o h => .inl h, Same.refl F, r.sub, h, r, fun _ h => h, fun _ _ h => h, rfl⟩
  | own d' =>
    cases e
    obtain ⟨a, rfl, n, ob, no⟩ := h
    obtain ⟨o, ho⟩ := ob.ex
    have s1 : Same F (upd F a o) := same_upd n
    have s2 : Same (upd F a o) H := upd_at r.sub ho
    refine ⟨upd F a o, fun b u q => ?_, s1, s2, ob.freeze r.sub n (fun u q => ?_) s1, ⟨s2, r.len, fun i d q => ?_, fun i d q => ?_, r.apart, r.tb.freeze ho (ob.nt ho).1⟩, fun _ h => h, fun _ _ h => h, rfl⟩
    · by_cases e : b = a
      · subst e; exact .inr (.inl ⟨d, rfl, rfl⟩)
      · rw [upd_ne e] at q; exact .inl q
    · rw [ho] at q; cases q; exact upd_same
    · obtain ⟨v', h1, h2⟩ := r.fro i d q
      exact ⟨v', h1, Rep.mono s1 d v' h2⟩
    · obtain ⟨b, h1, h2, h3⟩ := r.own i d q
      have nb : b ≠ a := by rintro rfl; exact no ⟨i, d, q, h1⟩
      exact ⟨b, h1, by rw [upd_ne nb]; exact h2, h3.mono s1 fun _ q => q⟩
  | slot i =>
    have hv : σ[i]? = some (some v) := h
    dsimp only [take] at e
    split at e
    · rename_i d' q
      cases e
      obtain ⟨v', h1, h2⟩ := r.fro i _ q
      rw [hv] at h1; cases h1
      exact ⟨F, fun b o h => .inl h, Same.refl F, r.sub, h2, r, fun _ h => h, fun _ _ h => h, rfl⟩
    · rename_i d' q
      cases e
      obtain ⟨a, h1, n, ob⟩ := r.own i _ (.inl q)
      rw [hv] at h1; cases h1
      obtain ⟨o, ho⟩ := ob.ex
      have s1 : Same F (upd F a o) := same_upd n
      have s2 : Same (upd F a o) H := upd_at r.sub ho
      have rp : Rep Γ (upd F a o) d (.ref a) := ob.freeze r.sub n (fun u q => by rw [ho] at q; cases q; exact upd_same) s1
      refine ⟨upd F a o, fun b u q' => ?_, s1, s2, rp, ⟨s2, by rw [List.length_set]; exact r.len, fun j d' q' => ?_, fun j d' q' => ?_, fun j k d' e' b h1 h2 h3 h4 => ?_, r.tb.freeze ho (ob.nt ho).1⟩, fun b ⟨j, d', h1, h2⟩ => ?_, fun j d' q' => ?_, by rw [List.length_set]⟩
      · by_cases e : b = a
        · subst e; exact .inr (.inr ⟨i, d, .inl q, hv⟩)
        · rw [upd_ne e] at q'; exact .inl q'
      · by_cases e : j = i
        · subst e
          rw [List.getElem?_set_self (List.getElem?_eq_some_iff.mp q).1] at q'
          cases q'
          exact ⟨_, hv, rp⟩
        · rw [List.getElem?_set_ne (Ne.symm e)] at q'
          obtain ⟨v', h1, h2⟩ := r.fro j d' q'
          exact ⟨v', h1, Rep.mono s1 d' v' h2⟩
      · obtain ⟨ne, m⟩ := mine_set q'
        obtain ⟨b, h1, h2, h3⟩ := r.own j d' m
        have nb : b ≠ a := by
          rintro rfl
          exact ne (r.apart j i d' d b m (.inl q) h1 hv)
        exact ⟨b, h1, by rw [upd_ne nb]; exact h2, h3.mono s1 fun _ q => q⟩
      · exact r.apart j k d' e' b (mine_set h1).2 (mine_set h2).2 h3 h4
      · exact ⟨j, d', (mine_set h1).2, h2⟩
      · have ne : j ≠ i := by rintro rfl; rw [q] at q'; cases q'
        rw [List.getElem?_set_ne (Ne.symm ne)]
        exact q'
    · cases e
end DL
namespace DL
open PySem PySem.Spec PyProof.Rows L2
abbrev gm (X : Cx) (cm : CT) : Gm := ⟨X.K, cm⟩
abbrev EF := DS → R (Rv × DS)
abbrev TF := DS → R (Bool × DS)
abbrev AF := DS → R (List Rv × DS)
/-- what is wanted of an error -/
def ErrK (Γ : Gm) (W : WX) (ds : DS) (σ : St) (H F : Hp) : Nat → List Str → List D → DS → Prop := fun c ks es ds' =>
  ∀ (d : Addr) (vs : List V) (H' F' : Hp), Step Γ ds σ H F ds' σ H' F' → H' d = some (.xd (ks.zip vs)) → ks.length = es.length → Reps Γ F' es vs → W (.ref (Γ.cm c)) (some d) σ H'
def tE (Γ : Gm) (W : WX) (f : EF) : TE := fun σ H Q => ∃ F ds, Rl Γ ds σ H F ∧ (f ds).wp (fun p => ∀ v H' F', Step Γ ds σ H F p.2 σ H' F' → RvOk Γ p.1 v p.2 σ H' F' → Fresh p.1 v H → Q v H') (ErrK Γ W ds σ H F)
def tT (Γ : Gm) (W : WX) (f : TF) : TT := fun σ H Q => ∃ F ds, Rl Γ ds σ H F ∧ (f ds).wp (fun p => ∀ H' F', Step Γ ds σ H F p.2 σ H' F' → Q p.1 H') (ErrK Γ W ds σ H F)
structure RvsOk (Γ : Gm) (rvs : List Rv) (vs : List V) (ds : DS) (σ : St) (H F : Hp) : Prop where
  len : vs.length = rvs.length
  ok : ∀ (i : Nat) (rv : Rv), rvs[i]? = some rv → ∃ v, vs[i]? = some v ∧ RvOk Γ rv v ds σ H F
  apart : ∀ (i j : Nat) (d e : D) (a : Addr), rvs[i]? = some (.own d) → rvs[j]? = some (.own e) → vs[i]? = some (.ref a) → vs[j]? = some (.ref a) → i = j
def Freshs (rvs : List Rv) (vs : List V) (H : Hp) : Prop := ∀ (i : Nat) (d : D) (a : Addr), rvs[i]? = some (.own d) → vs[i]? = some (.ref a) → H a = none
def tA (Γ : Gm) (W : WX) (f : AF) : TA := fun σ H Q => ∃ F ds, Rl Γ ds σ H F ∧ (f ds).wp (fun p => ∀ vs H' F', Step Γ ds σ H F p.2 σ H' F' → RvsOk Γ p.1 vs p.2 σ H' F' → Freshs p.1 vs H → Q vs H') (ErrK Γ W ds σ H F)
def EJ (cm : CT) (X : Cx) (e : Expr) (f : EF) : Prop := ∀ W, Takes X W → PE X e (tE (gm X cm) W f)
def TJ (cm : CT) (X : Cx) (e : Expr) (f : TF) : Prop := ∀ W, Takes X W → PT X e (tT (gm X cm) W f)
def WJ (cm : CT) (X : Cx) (e : Expr) (f : TF) : Prop := ∀ W, Takes X W → PW X e (tT (gm X cm) W f)
def AJ (cm : CT) (X : Cx) (es : List Expr) (f : AF) : Prop := ∀ W, Takes X W → PA X es (tA (gm X cm) W f)
section
variable {X : Cx} {e : Expr} {es : List Expr}
theorem pe_imp {t t' : TE} (h : PE X e t) (q : ∀ σ H Q, t' σ H Q → t σ H Q) : PE X e t' := ⟨fun pins s σ H Q I w => h.run pins s σ H Q I (q σ H Q w)⟩
theorem pt_imp {t t' : TT} (h : PT X e t) (q : ∀ σ H Q, t' σ H Q → t σ H Q) : PT X e t' := ⟨fun pins s σ H Q I w => h.run pins s σ H Q I (q σ H Q w)⟩
theorem pw_imp {t t' : TT} (h : PW X e t) (q : ∀ σ H Q, t' σ H Q → t σ H Q) : PW X e t' := ⟨fun wh pins s σ H Q I w => h.run wh pins s σ H Q I (q σ H Q w)⟩
theorem pa_imp {t t' : TA} (h : PA X es t) (q : ∀ σ H Q, t' σ H Q → t σ H Q) : PA X es t' := ⟨fun pos pins s σ H Q I w => h.run pos pins s σ H Q I (q σ H Q w)⟩
end
/-- a result is made: new objects alone -/
structure Made (Γ : Gm) (F H : Hp) (rv : Rv) (v : V) (F' H' : Hp) : Prop where
  same : Same H H'
  fs : Same F F'
  sub : Same F' H'
  new : ∀ b o, F' b = some o → F b = some o ∨ H b = none
  rv : match rv with
    | .fro d => Rep Γ F' d v
    | .own d => ∃ a, v = .ref a ∧ H a = none ∧ F' a = none ∧ ObjAt Γ F' H' a d
    | .slot _ => False
section
variable {Γ : Gm} {ds : DS} {σ : St} {F H F' H' : Hp} {rv : Rv} {v : V}
theorem step_new (r : Rl Γ ds σ H F) (same : Same H H') (fs : Same F F') (sub : Same F' H') (new : ∀ b o, F' b = some o → F b = some o ∨ H b = none) : Step Γ ds σ H F ds σ H' F' := by
  refine ⟨⟨sub, r.len, fun i d h => ?_, fun i d h => ?_, r.apart, r.tb.of same new⟩, fs, fun b o h _ _ => same b o h, fun b o h => ?_, fun b h => .inl h, fun i d h => ⟨⟨d, h⟩, rfl⟩, rfl, fun b o h => ⟨o, same b o h⟩⟩
  · obtain ⟨v, h1, h2⟩ := r.fro i d h
    exact ⟨v, h1, Rep.mono fs d v h2⟩
  · obtain ⟨a, h1, h2, h3⟩ := r.own i d h
    refine ⟨a, h1, ?_, h3.mono fs fun o q => same a o q⟩
    cases q : F' a with
    | none => rfl
    | some o =>
      rcases new a o q with z | z
      · rw [h2] at z; cases z
      · obtain ⟨u, hu⟩ := h3.ex
        rw [z] at hu; cases hu
  · rcases new b o h with z | z
    · exact .inl z
    · exact .inr (.inl z)
theorem Made.step (m : Made Γ F H rv v F' H') (r : Rl Γ ds σ H F) : Step Γ ds σ H F ds σ H' F' := step_new r m.same m.fs m.sub m.new
theorem Made.ok (m : Made Γ F H rv v F' H') (r : Rl Γ ds σ H F) : RvOk Γ rv v ds σ H' F' := by
  have h := m.rv
  cases rv with
  | fro d => exact h
  | own d =>
    obtain ⟨a, e, n, n', ob⟩ := h
    refine ⟨a, e, n', ob, fun ⟨i, d', m', z⟩ => ?_⟩
    obtain ⟨b, h1, _, h3⟩ := r.own i d' m'
    rw [z] at h1; cases h1
    obtain ⟨u, hu⟩ := h3.ex
    rw [n] at hu; cases hu
  | slot i => exact h.elim
theorem Made.fresh (m : Made Γ F H rv v F' H') : Fresh rv v H := by
  have h := m.rv
  cases rv with
  | fro d => trivial
  | own d =>
    obtain ⟨a, e, n, _⟩ := h
    intro b q
    rw [e] at q; cases q; exact n
  | slot i => trivial
theorem Made.flat {d : D} (sub : Same F H) (h : Rep Γ F d v) : Made Γ F H (.fro d) v F H := ⟨Same.refl H, Same.refl F, sub, fun _ _ h => .inl h, h⟩
/-- an object laid at p, one's own -/
theorem Made.own {d : D} {p : Addr} {o : HO} (sub : Same F H) (hp : H p = none) (h : ObjAt Γ F (upd H p o) p d) : Made Γ F H (.own d) (.ref p) F (upd H p o) := by
  have np : ∀ b u, H b = some u → b ≠ p := fun b u q e => by rw [e, hp] at q; cases q
  have fp : F p = none := by
    cases q : F p with
    | none => rfl
    | some u => rw [sub p u q] at hp; cases hp
  exact ⟨fun b u q => by rw [upd_ne (np b u q)]; exact q, Same.refl F, fun b u q => by rw [upd_ne (np b u (sub b u q))]; exact sub b u q, fun _ _ h => .inl h, p, rfl, hp, fp, h⟩
/-- an object laid at p, frozen -/
theorem Made.fro {d : D} {p : Addr} {o : HO} (sub : Same F H) (hp : H p = none) (h : Rep Γ (upd F p o) d (.ref p)) : Made Γ F H (.fro d) (.ref p) (upd F p o) (upd H p o) := by
  have np : ∀ b u, H b = some u → b ≠ p := fun b u q e => by rw [e, hp] at q; cases q
  refine ⟨fun b u q => by rw [upd_ne (np b u q)]; exact q, fun b u q => by rw [upd_ne (np b u (sub b u q))]; exact q, fun b u q => ?_, fun b u q => ?_, h⟩
  · by_cases e : b = p
    · subst e; rw [upd_same] at q ⊢; exact q
    · rw [upd_ne e] at q ⊢; exact sub b u q
  · by_cases e : b = p
    · exact .inr (e ▸ hp)
    · rw [upd_ne e] at q; exact .inl q
theorem same_fro {F H : Hp} {p : Addr} {o : HO} (sub : Same F H) (hp : H p = none) : Same F (upd F p o) := same_upd (by
  cases q : F p with
  | none => rfl
  | some u => rw [sub p u q] at hp; cases hp)
end
def Gives (Γ : Gm) (F H : Hp) (rv : Rv) (r : Hp → VK → Prop) : Prop := ∀ Q : VK, (∀ v F' H', Made Γ F H rv v F' H' → Q v H') → r H Q
theorem Gives.flat {Γ : Gm} {F H : Hp} {d : D} {v : V} {r : Hp → VK → Prop} (sub : Same F H) (h : Rep Γ F d v) (hr : ∀ Q : VK, Q v H → r H Q) : Gives Γ F H (.fro d) r := fun Q q => hr Q (q v F H (Made.flat sub h))
section
variable {Γ : Gm} {W : WX} {ds0 ds : DS} {σ : St} {H0 F0 H F : Hp}
theorem ErrK.from (s : Step Γ ds0 σ H0 F0 ds σ H F) : ∀ c ks es ds', ErrK Γ W ds0 σ H0 F0 c ks es ds' → ErrK Γ W ds σ H F c ks es ds' :=
  fun c ks es ds' h d vs H' F' s' => h d vs H' F' (s.trans s')
theorem tE_go {f : EF} {K : Rv × DS → Prop} {Q : VK} (s : Step Γ ds0 σ H0 F0 ds σ H F) (h : (f ds).wp K (ErrK Γ W ds0 σ H0 F0))
    (k : ∀ p v H' F', K p → Step Γ ds σ H F p.2 σ H' F' → RvOk Γ p.1 v p.2 σ H' F' → Fresh p.1 v H → Q v H') : tE Γ W f σ H Q :=
  ⟨F, ds, s.rl, R.wp_mono h (fun p _ hp v H' F' s' ok fr => k p v H' F' hp s' ok fr) (ErrK.from s)⟩
theorem tT_go {f : TF} {K : Bool × DS → Prop} {Q : Bool → Hp → Prop} (s : Step Γ ds0 σ H0 F0 ds σ H F) (h : (f ds).wp K (ErrK Γ W ds0 σ H0 F0))
    (k : ∀ p H' F', K p → Step Γ ds σ H F p.2 σ H' F' → Q p.1 H') : tT Γ W f σ H Q :=
  ⟨F, ds, s.rl, R.wp_mono h (fun p _ hp H' F' s' => k p H' F' hp s') (ErrK.from s)⟩
theorem tA_go {f : AF} {K : List Rv × DS → Prop} {Q : List V → Hp → Prop} (s : Step Γ ds0 σ H0 F0 ds σ H F) (h : (f ds).wp K (ErrK Γ W ds0 σ H0 F0))
    (k : ∀ p vs H' F', K p → Step Γ ds σ H F p.2 σ H' F' → RvsOk Γ p.1 vs p.2 σ H' F' → Freshs p.1 vs H → Q vs H') : tA Γ W f σ H Q :=
  ⟨F, ds, s.rl, R.wp_mono h (fun p _ hp vs H' F' s' ok fr => k p vs H' F' hp s' ok fr) (ErrK.from s)⟩
theorem Step.back {ds1 : DS} {σ1 : St} {H1 F1 : Hp} (s : Step Γ ds0 σ H0 F0 ds1 σ1 H1 F1) {a : Addr} (h : H1 a = none) : H0 a = none := by
  cases e : H0 a with
  | none => rfl
  | some o => obtain ⟨o', q⟩ := s.there a o e; rw [h] at q; cases q
theorem Fresh.back {ds1 : DS} {σ1 : St} {H1 F1 : Hp} {rv : Rv} {v : V} (s : Step Γ ds0 σ H0 F0 ds1 σ1 H1 F1) (h : Fresh rv v H1) : Fresh rv v H0 := by
  cases rv with
  | fro d => trivial
  | own d => exact fun a e => s.back (h a e)
  | slot i => trivial
/-- a made result ends a way from the origin -/
theorem fin_made {rv : Rv} {v : V} {F' H' : Hp} (s : Step Γ ds0 σ H0 F0 ds σ H F) (m : Made Γ F H rv v F' H') : Step Γ ds0 σ H0 F0 ds σ H' F' ∧ RvOk Γ rv v ds σ H' F' ∧ Fresh rv v H0 :=
  ⟨s.trans (m.step s.rl), m.ok s.rl, m.fresh.back s⟩
theorem peek_noerr {ds : DS} {rv : Rv} : ∀ c ks es ds', peek ds rv ≠ .err c ks es ds' := by
  intro c ks es ds'
  cases rv with
  | fro d => intro h; cases h
  | own d => intro h; cases h
  | slot i =>
    dsimp only [peek]
    split <;> intro h <;> cases h
end
def eVar (i : Nat) : EF := fun ds => match ds[i]? with
  | some (Sl.fro d) => .ok (.fro d, ds)
  | some (Sl.own _) => .ok (.slot i, ds)
  | some (Sl.bor _) => .ok (.slot i, ds)
  | _ => .stuck
def eC (d : D) : EF := fun ds => .ok (.fro d, ds)
section
variable {cm : CT} {X : Cx} {pos : Pos}
theorem ej_var {x : Str} {i : Nat} (h : PE X (.Name x pos) (tVar i)) : EJ cm X (.Name x pos) (eVar i) := fun W tk => by
  refine pe_imp h fun σ H Q ⟨F, ds, r, w⟩ => ?_
  dsimp only [eVar] at w
  split at w
  · rename_i d hd
    obtain ⟨v, h1, h2⟩ := r.fro i d hd
    exact ⟨v, h1, w v H F (Step.refl r) h2 trivial⟩
  · rename_i d hd
    obtain ⟨a, h1, _, _⟩ := r.own i d (.inl hd)
    exact ⟨_, h1, w _ H F (Step.refl r) h1 trivial⟩
  · rename_i d hd
    obtain ⟨a, h1, _, _⟩ := r.own i d (.inr hd)
    exact ⟨_, h1, w _ H F (Step.refl r) h1 trivial⟩
  · exact False.elim w
theorem ej_c {e : Expr} {d : D} {v : V} (h : PE X e (tC v)) (hr : ∀ F, Rep (gm X cm) F d v) : EJ cm X e (eC d) := fun W tk =>
  pe_imp h fun σ H Q ⟨F, ds, r, w⟩ => w v H F (Step.refl r) (hr F) trivial
theorem ej_int {i : Int} {j : Nat} : EJ cm X (.Constant (.int i) j pos) (eC (.int i)) := ej_c pe_int fun _ => rfl
theorem ej_str {s : Str} {j : Nat} : EJ cm X (.Constant (.str s) j pos) (eC (.str s)) := ej_c pe_str fun _ => rfl
theorem ej_bl {b : Bool} {j : Nat} : EJ cm X (.Constant (.bool b) j pos) (eC (.bl b)) := ej_c pe_bl fun _ => rfl
theorem ej_non {j : Nat} : EJ cm X (.Constant .none j pos) (eC .non) := ej_c pe_non fun _ => rfl
/-- the values of two parts, looked at -/
def e2 (g : D → D → R Rv) (fa fb : EF) : EF := fun ds => (fa ds).bind fun (p : Rv × DS) => (fb p.2).bind fun (q : Rv × DS) => (peek q.2 p.1).bind fun x => (peek q.2 q.1).bind fun y => (g x y).bind fun rv => .ok (rv, q.2)
def NoErr2 (g : D → D → R Rv) : Prop := ∀ x y c ks es ds, g x y ≠ .err c ks es ds
structure OpD (Γ : Gm) (r : R2) (g : D → D → R Rv) : Prop where
  ne : NoErr2 g
  run : ∀ F H x y v u rv, Same F H → Pk Γ F H x v → Pk Γ F H y u → g x y = .ok rv → Gives Γ F H rv (r v u)
theorem ej_2 {e a b : Expr} {g : D → D → R Rv} {fa fb : EF} {r : R2} (ho : OpD (gm X cm) r g) (hp : ∀ {ta tb : TE}, PE X a ta → PE X b tb → PE X e (tOp r ta tb)) (ha : EJ cm X a fa) (hb : EJ cm X b fb) : EJ cm X e (e2 g fa fb) := fun W tk => by
  refine pe_imp (hp (ha W tk) (hb W tk)) fun σ H Q ⟨F, ds, r, w⟩ => ?_
  unfold e2 at w
  rw [R.wp_bind] at w
  refine tE_go (Step.refl r) w fun p va H1 F1 w1 s1 oka _ => ?_
  rw [R.wp_bind] at w1
  refine tE_go s1 w1 fun q vb H2 F2 w2 s2 okb _ => ?_
  have s12 := s1.trans s2
  rw [R.wp_bind] at w2
  obtain ⟨x, ex, w2⟩ := R.wp_pure peek_noerr w2
  rw [R.wp_bind] at w2
  obtain ⟨y, ey, w2⟩ := R.wp_pure peek_noerr w2
  rw [R.wp_bind] at w2
  obtain ⟨rv, er, w2⟩ := R.wp_pure (ho.ne x y) w2
  refine ho.run F2 H2 x y va vb rv s2.rl.sub (peek_ok s2.rl (oka.stay s2) ex) (peek_ok s2.rl okb ey) er Q fun v F' H' m => ?_
  obtain ⟨z1, z2, z3⟩ := fin_made s12 m
  exact w2 v H' F' z1 z2 z3
def aNil : AF := fun ds => .ok ([], ds)
def aCons (f : EF) (g : AF) : AF := fun ds => (f ds).bind fun (p : Rv × DS) => (g p.2).bind fun (q : List Rv × DS) => .ok (p.1 :: q.1, q.2)
theorem aj_nil : AJ cm X [] aNil := fun W tk => pa_imp pa_nil fun σ H Q ⟨F, ds, r, w⟩ =>
  w [] H F (Step.refl r) ⟨rfl, fun i rv h => by simp at h, fun i j d e a h => by simp at h⟩ fun i d a h => by simp at h
theorem aj_cons {e : Expr} {es : List Expr} {f : EF} {g : AF} (ha : EJ cm X e f) (hr : AJ cm X es g) (hs : starEach (e :: es) X.env = (false, eval e X.env) :: starEach es X.env := by rfl) : AJ cm X (e :: es) (aCons f g) := fun W tk => by
  refine pa_imp (pa_cons (ha W tk) (hr W tk) hs) fun σ H Q ⟨F, ds, r, w⟩ => ?_
  unfold aCons at w
  rw [R.wp_bind] at w
  refine tE_go (Step.refl r) w fun p v H1 F1 w1 s1 ok1 fr1 => ?_
  rw [R.wp_bind] at w1
  refine tA_go s1 w1 fun q vs H2 F2 w2 s2 ok2 fr2 => ?_
  have ok1' := ok1.stay s2
  refine w2 (v :: vs) H2 F2 (s1.trans s2) ⟨by simp [ok2.len], fun i rv h => ?_, fun i j d e a h1 h2 h3 h4 => ?_⟩ fun i d a h1 h2 => ?_
  · cases i with
    | zero => simp at h; subst h; exact ⟨v, rfl, ok1'⟩
    | succ i => exact ok2.ok i rv (by simpa using h)
  · have cross : ∀ (j : Nat) (d e : D) (a : Addr), p.1 = .own d → q.1[j]? = some (.own e) → v = .ref a → vs[j]? = some (.ref a) → False := fun j d e a h1 h2 h3 h4 => by
      have n := fr2 j e a h2 h4
      rw [h1] at ok1
      obtain ⟨b, e1, _, ob, _⟩ := ok1
      rw [h3] at e1; cases e1
      obtain ⟨o, ho⟩ := ob.ex
      rw [n] at ho; cases ho
    cases i with
    | zero =>
      cases j with
      | zero => rfl
      | succ j =>
        simp at h1 h3
        exact (cross j d e a h1 (by simpa using h2) h3 (by simpa using h4)).elim
    | succ i =>
      cases j with
      | zero =>
        simp at h2 h4
        exact (cross i e d a h2 (by simpa using h1) h4 (by simpa using h3)).elim
      | succ j => rw [ok2.apart i j d e a (by simpa using h1) (by simpa using h2) (by simpa using h3) (by simpa using h4)]
  · cases i with
    | zero =>
      simp at h1 h2
      rw [h1] at fr1
      exact fr1 a h2
    | succ i => exact s1.back (fr2 i d a (by simpa using h1) (by simpa using h2))
def peeks (ds : DS) : List Rv → R (List D)
  | [] => .ok []
  | rv :: r => (peek ds rv).bind fun d => (peeks ds r).bind fun es => .ok (d :: es)
theorem peeks_noerr {ds : DS} : ∀ {rvs : List Rv} (c : Nat) (ks : List Str) (es : List D) (ds' : DS), peeks ds rvs ≠ .err c ks es ds'
  | [], c, ks, es, ds', h => by cases h
  | rv :: r, c, ks, es, ds', h => by
    unfold peeks at h
    cases e : peek ds rv with
    | ok d =>
      rw [e] at h
      dsimp only [R.bind] at h
      cases e2 : peeks ds r with
      | ok es => rw [e2] at h; cases h
      | err c ks es ds' => exact peeks_noerr _ _ _ _ e2
      | stuck => rw [e2] at h; cases h
    | err c ks es ds' => exact peek_noerr _ _ _ _ e
    | stuck => rw [e] at h; cases h
inductive Pks (Γ : Gm) (F H : Hp) : List D → List V → Prop
  | nil : Pks Γ F H [] []
  | cons {d : D} {ds : List D} {v : V} {vs : List V} : Pk Γ F H d v → Pks Γ F H ds vs → Pks Γ F H (d :: ds) (v :: vs)
theorem RvsOk.tail {Γ : Gm} {rv : Rv} {rvs : List Rv} {v : V} {vs : List V} {ds : DS} {σ : St} {H F : Hp} (h : RvsOk Γ (rv :: rvs) (v :: vs) ds σ H F) : RvsOk Γ rvs vs ds σ H F :=
  ⟨by simpa using h.len, fun i rv q => h.ok (i + 1) rv (by simpa using q), fun i j d e a h1 h2 h3 h4 => by
    have := h.apart (i + 1) (j + 1) d e a (by simpa using h1) (by simpa using h2) (by simpa using h3) (by simpa using h4)
    omega⟩
theorem RvsOk.head {Γ : Gm} {rv : Rv} {rvs : List Rv} {v : V} {vs : List V} {ds : DS} {σ : St} {H F : Hp} (h : RvsOk Γ (rv :: rvs) (v :: vs) ds σ H F) : RvOk Γ rv v ds σ H F := by
  obtain ⟨w, e, q⟩ := h.ok 0 rv rfl
  simp at e; subst e; exact q
theorem RvsOk.stay {Γ : Gm} {rvs : List Rv} {vs : List V} {ds ds1 : DS} {σ : St} {H F H1 F1 : Hp} (h : RvsOk Γ rvs vs ds σ H F) (s : Step Γ ds σ H F ds1 σ H1 F1) : RvsOk Γ rvs vs ds1 σ H1 F1 :=
  ⟨h.len, fun i rv q => let ⟨v, e, k⟩ := h.ok i rv q; ⟨v, e, k.stay s⟩, h.apart⟩
theorem peeks_ok {Γ : Gm} {ds : DS} {σ : St} {H F : Hp} (r : Rl Γ ds σ H F) : ∀ {rvs : List Rv} {vs : List V} {es : List D}, RvsOk Γ rvs vs ds σ H F → peeks ds rvs = .ok es → Pks Γ F H es vs
  | [], vs, es, h, e => by
    cases e
    have := h.len
    cases vs with
    | nil => exact .nil
    | cons v vs => simp at this
  | rv :: rvs, [], es, h, e => by have := h.len; simp at this
  | rv :: rvs, v :: vs, es, h, e => by
    unfold peeks at e
    cases e1 : peek ds rv with
    | ok d =>
      rw [e1] at e
      dsimp only [R.bind] at e
      cases e2 : peeks ds rvs with
      | ok es' =>
        rw [e2] at e
        cases e
        exact .cons (peek_ok r h.head e1) (peeks_ok r h.tail e2)
      | err _ _ _ _ => rw [e2] at e; cases e
      | stuck => rw [e2] at e; cases e
    | err _ _ _ _ => rw [e1] at e; cases e
    | stuck => rw [e1] at e; cases e
def takes (ds : DS) : List Rv → R (List D × DS)
  | [] => .ok ([], ds)
  | rv :: r => (take ds rv).bind fun (p : D × DS) => (takes p.2 r).bind fun (q : List D × DS) => .ok (p.1 :: q.1, q.2)
theorem take_noerr {ds : DS} {rv : Rv} : ∀ c ks es ds', take ds rv ≠ .err c ks es ds' := by
  intro c ks es ds'
  cases rv with
  | fro d => intro h; cases h
  | own d => intro h; cases h
  | slot i =>
    dsimp only [take]
    split <;> intro h <;> cases h
theorem takes_noerr : ∀ {rvs : List Rv} {ds : DS} (c : Nat) (ks : List Str) (es : List D) (ds' : DS), takes ds rvs ≠ .err c ks es ds'
  | [], ds, c, ks, es, ds', h => by cases h
  | rv :: r, ds, c, ks, es, ds', h => by
    unfold takes at h
    cases e : take ds rv with
    | ok p =>
      rw [e] at h
      dsimp only [R.bind] at h
      cases e2 : takes p.2 r with
      | ok es => rw [e2] at h; cases h
      | err c ks es ds' => exact takes_noerr _ _ _ _ e2
      | stuck => rw [e2] at h; cases h
    | err c ks es ds' => exact take_noerr _ _ _ _ e
    | stuck => rw [e] at h; cases h
section
variable {Γ : Gm} {ds0 : DS} {σ : St} {H0 F0 H : Hp}
theorem take_step {ds ds' : DS} {F : Hp} {rv : Rv} {v : V} {d : D} (s : Step Γ ds0 σ H0 F0 ds σ H F) (h : RvOk Γ rv v ds σ H F) (fr : Fresh rv v H0) (e : take ds rv = .ok (d, ds')) :
    ∃ F', Step Γ ds0 σ H0 F0 ds' σ H F' ∧ Rep Γ F' d v ∧ Same F F' ∧ (∀ b o, F' b = some o → F b = some o ∨ (∃ d, rv = .own d ∧ v = .ref b) ∨ Own ds σ b) ∧ ∀ b, Own ds' σ b → Own ds σ b := by
  obtain ⟨F', n, fs, sub, rp, rl, ow, bo, ln⟩ := take_ok s.rl h e
  refine ⟨F', ⟨rl, s.fs.trans fs, s.keep, fun b o q => ?_, fun b q => s.ow b (ow b q), fun i d q => ?_, ln.trans s.ln, s.there⟩, rp, fs, n, ow⟩
  · rcases n b o q with z | ⟨d', z1, z2⟩ | z
    · exact s.new b o z
    · rw [z1] at fr
      exact .inr (.inl (fr b z2))
    · rcases s.ow b z with z | z
      · exact .inr (.inr z)
      · exact .inr (.inl z)
  · obtain ⟨⟨d', z⟩, z2⟩ := s.bor i d q
    exact ⟨⟨d', bo i d' z⟩, z2⟩
theorem takes_step : ∀ {rvs : List Rv} {vs : List V} {ds ds' : DS} {F : Hp} {es : List D}, Step Γ ds0 σ H0 F0 ds σ H F → RvsOk Γ rvs vs ds σ H F → Freshs rvs vs H0 → takes ds rvs = .ok (es, ds') →
    ∃ F', Step Γ ds0 σ H0 F0 ds' σ H F' ∧ Reps Γ F' es vs ∧ Same F F'
  | [], vs, ds, ds', F, es, s, h, fr, e => by
    cases e
    have := h.len
    cases vs with
    | nil => exact ⟨F, s, rfl, Same.refl F⟩
    | cons v vs => simp at this
  | rv :: rvs, [], ds, ds', F, es, s, h, fr, e => by have := h.len; simp at this
  | rv :: rvs, v :: vs, ds, ds', F, es, s, h, fr, e => by
    unfold takes at e
    cases e1 : take ds rv with
    | ok p =>
      rw [e1] at e
      dsimp only [R.bind] at e
      cases e2 : takes p.2 rvs with
      | ok q =>
        rw [e2] at e
        cases e
        obtain ⟨F1, s1, rp, fs, n, ow⟩ := take_step s h.head (by
          cases rv with
          | fro d => trivial
          | own d => exact fun a q => fr 0 d a rfl (by rw [q]; rfl)
          | slot i => trivial) e1
        have ht := h.tail
        have h1 : RvsOk Γ rvs vs p.2 σ H F1 := ⟨ht.len, fun i rv' q' => by
          obtain ⟨w, e3, k⟩ := ht.ok i rv' q'
          refine ⟨w, e3, ?_⟩
          cases rv' with
          | fro d => exact Rep.mono fs d w k
          | own d =>
            obtain ⟨a, ea, na, ob, no⟩ := k
            refine ⟨a, ea, ?_, ob.mono fs fun _ q => q, fun z => no (ow a z)⟩
            cases q3 : F1 a with
            | none => rfl
            | some u =>
              rcases n a u q3 with z | ⟨d', z1, z2⟩ | z
              · rw [na] at z; cases z
              · have := h.apart 0 (i + 1) d' d a (by rw [z1]; rfl) (by simpa using q') (by rw [z2]; rfl) (by rw [ea] at e3; simpa using e3)
                omega
              · exact (no z).elim
          | slot j => exact k, ht.apart⟩
        obtain ⟨F2, s2, rps, fs2⟩ := takes_step s1 h1 (fun i d a q1 q2 => fr (i + 1) d a (by simpa using q1) (by simpa using q2)) e2
        exact ⟨F2, s2, Reps.cons (Rep.mono fs2 _ _ rp) rps, fs.trans fs2⟩
      | err _ _ _ _ => rw [e2] at e; cases e
      | stuck => rw [e2] at e; cases e
    | err _ _ _ _ => rw [e1] at e; cases e
    | stuck => rw [e1] at e; cases e
end
def cap : Nat := 1000000
theorem cap_le {n : Nat} (h : n ≤ cap) : n ≤ sizeLine := Nat.le_trans h (by rw [sizeLine_eq]; decide)
theorem cap_lt {n : Nat} (h : n ≤ cap) : n < sizeLine := Nat.lt_of_le_of_lt h (by rw [sizeLine_eq]; decide)
def eTup (f : AF) : EF := fun ds => (f ds).bind fun (p : List Rv × DS) => (takes p.2 p.1).bind fun (q : List D × DS) => if q.1.length ≤ cap then .ok (.fro (.tup q.1), q.2) else .stuck
def eLst (f : AF) : EF := fun ds => (f ds).bind fun (p : List Rv × DS) => (takes p.2 p.1).bind fun (q : List D × DS) => if q.1.length ≤ cap then .ok (.own (.lst q.1), q.2) else .stuck
theorem Reps.len' {Γ : Gm} {H : Hp} {ds : List D} {vs : List V} (h : Reps Γ H ds vs) : vs.length = ds.length := h.length
theorem ej_tup {es : List Expr} {f : AF} {x1 : Nat} (h : AJ cm X es f) : EJ cm X (.Tuple es x1 pos) (eTup f) := fun W tk => by
  refine pe_imp (pe_tup (h W tk)) fun σ H Q ⟨F, ds, r, w⟩ => ?_
  unfold eTup at w
  rw [R.wp_bind] at w
  refine tA_go (Step.refl r) w fun p vs H1 F1 w1 s1 ok fr => ?_
  rw [R.wp_bind] at w1
  obtain ⟨q, eq, w1⟩ := R.wp_pure takes_noerr w1
  obtain ⟨F2, s2, rps, fs⟩ := takes_step s1 ok fr eq
  by_cases hl : q.1.length ≤ cap
  · rw [if_pos hl] at w1
    refine ⟨by rw [rps.length]; exact cap_le hl, fun a ha => ?_⟩
    have m : Made (gm X cm) F2 H1 (.fro (.tup q.1)) (.ref a) (upd F2 a (.tup vs)) (upd H1 a (.tup vs)) := Made.fro s2.rl.sub ha ⟨a, vs, rfl, SqT.of upd_same, Reps.mono (same_fro s2.rl.sub ha) _ _ rps⟩
    obtain ⟨z1, z2, z3⟩ := fin_made s2 m
    exact w1 _ _ _ z1 z2 z3
  · rw [if_neg hl] at w1
    exact False.elim w1
theorem ej_lst {es : List Expr} {f : AF} (h : AJ cm X es f) : EJ cm X (.List es pos) (eLst f) := fun W tk => by
  refine pe_imp (pe_lst (h W tk)) fun σ H Q ⟨F, ds, r, w⟩ => ?_
  unfold eLst at w
  rw [R.wp_bind] at w
  refine tA_go (Step.refl r) w fun p vs H1 F1 w1 s1 ok fr => ?_
  rw [R.wp_bind] at w1
  obtain ⟨q, eq, w1⟩ := R.wp_pure takes_noerr w1
  obtain ⟨F2, s2, rps, fs⟩ := takes_step s1 ok fr eq
  by_cases hl : q.1.length ≤ cap
  · rw [if_pos hl] at w1
    refine ⟨by rw [rps.length]; exact cap_le hl, fun a ha => ?_⟩
    have m : Made (gm X cm) F2 H1 (.own (.lst q.1)) (.ref a) F2 (upd H1 a (.lst vs)) := Made.own s2.rl.sub ha ⟨vs, upd_same, rps⟩
    obtain ⟨z1, z2, z3⟩ := fin_made s2 m
    exact w1 _ _ _ z1 z2 z3
  · rw [if_neg hl] at w1
    exact False.elim w1
structure CallD (Γ : Gm) (r : List V → Hp → VK → Prop) (g : List D → R Rv) : Prop where
  ne : ∀ xs c ks es ds, g xs ≠ .err c ks es ds
  run : ∀ F H xs vs rv, Same F H → Pks Γ F H xs vs → g xs = .ok rv → Gives Γ F H rv (r vs)
def eCB (g : List D → R Rv) (f : AF) : EF := fun ds => (f ds).bind fun (p : List Rv × DS) => (peeks p.2 p.1).bind fun xs => (g xs).bind fun rv => .ok (rv, p.2)
theorem ej_cb {e : Expr} {es : List Expr} {f : AF} {g : List D → R Rv} {r : List V → Hp → VK → Prop} (hc : CallD (gm X cm) r g) (hp : ∀ {t : TA}, PA X es t → PE X e (tCB r t)) (h : AJ cm X es f) : EJ cm X e (eCB g f) := fun W tk => by
  refine pe_imp (hp (h W tk)) fun σ H Q ⟨F, ds, r, w⟩ => ?_
  unfold eCB at w
  rw [R.wp_bind] at w
  refine tA_go (Step.refl r) w fun p vs H1 F1 w1 s1 ok fr => ?_
  rw [R.wp_bind] at w1
  obtain ⟨xs, ex, w1⟩ := R.wp_pure peeks_noerr w1
  rw [R.wp_bind] at w1
  obtain ⟨rv, er, w1⟩ := R.wp_pure (hc.ne xs) w1
  refine hc.run F1 H1 xs vs rv s1.rl.sub (peeks_ok s1.rl ok ex) er Q fun v F' H' m => ?_
  obtain ⟨z1, z2, z3⟩ := fin_made s1 m
  exact w1 v H' F' z1 z2 z3
def tVal (f : EF) : TF := fun ds => (f ds).bind fun (p : Rv × DS) => match p.1 with
  | .fro (.bl b) => .ok (b, p.2)
  | _ => .stuck
theorem tj_of {e : Expr} {f : EF} (hp : ∀ {t : TE}, PE X e t → PT X e (tB t)) (h : EJ cm X e f) : TJ cm X e (tVal f) := fun W tk => by
  refine pt_imp (hp (h W tk)) fun σ H Q ⟨F, ds, r, w⟩ => ?_
  unfold tVal at w
  rw [R.wp_bind] at w
  refine tE_go (Step.refl r) w fun p v H1 F1 w1 s1 ok fr => ?_
  obtain ⟨rv, ds1⟩ := p
  dsimp only at w1 s1 ok fr
  split at w1
  · rename_i b
    exact ⟨b, ok, w1 H1 F1 s1⟩
  · exact False.elim w1
theorem tj_val {e : Expr} {f : EF} (h : EJ cm X e f) (he : ∀ whole, isTrue e X.env whole = (do let v ← whole; standAt e.pos; holding [v] (truthy v)) := by intro _; rfl) : TJ cm X e (tVal f) := tj_of (fun h => pt_val h he) h
def tAnd2 (f g : TF) : TF := fun ds => (f ds).bind fun (p : Bool × DS) => if p.1 then g p.2 else .ok (false, p.2)
def tOr2 (f g : TF) : TF := fun ds => (f ds).bind fun (p : Bool × DS) => if p.1 then .ok (true, p.2) else g p.2
def tNot1 (f : TF) : TF := fun ds => (f ds).bind fun (p : Bool × DS) => .ok (!p.1, p.2)
section
variable {a b : Expr} {rest : List Expr} {fa fb : TF}
theorem wj_and1 (h : TJ cm X a fa) : WJ cm X (.BoolOp .And [a] pos) fa := fun W tk => pw_and1 (h W tk)
theorem wj_or1 (h : TJ cm X a fa) : WJ cm X (.BoolOp .Or [a] pos) fa := fun W tk => pw_or1 (h W tk)
theorem wj_and (ha : TJ cm X a fa) (hb : WJ cm X (.BoolOp .And (b :: rest) pos) fb) : WJ cm X (.BoolOp .And (a :: b :: rest) pos) (tAnd2 fa fb) := fun W tk => by
  refine pw_imp (pw_and (ha W tk) (hb W tk)) fun σ H Q ⟨F, ds, r, w⟩ => ?_
  unfold tAnd2 at w
  rw [R.wp_bind] at w
  refine tT_go (Step.refl r) w fun p H1 F1 w1 s1 => ?_
  cases e : p.1 with
  | true =>
    rw [e] at w1
    rw [if_pos rfl] at w1 ⊢
    exact tT_go s1 w1 fun q H2 F2 w2 s2 => w2 H2 F2 (s1.trans s2)
  | false =>
    rw [e] at w1
    rw [if_neg (by decide)] at w1 ⊢
    exact w1 H1 F1 s1
theorem wj_or (ha : TJ cm X a fa) (hb : WJ cm X (.BoolOp .Or (b :: rest) pos) fb) : WJ cm X (.BoolOp .Or (a :: b :: rest) pos) (tOr2 fa fb) := fun W tk => by
  refine pw_imp (pw_or (ha W tk) (hb W tk)) fun σ H Q ⟨F, ds, r, w⟩ => ?_
  unfold tOr2 at w
  rw [R.wp_bind] at w
  refine tT_go (Step.refl r) w fun p H1 F1 w1 s1 => ?_
  cases e : p.1 with
  | true =>
    rw [e] at w1
    rw [if_pos rfl] at w1 ⊢
    exact w1 H1 F1 s1
  | false =>
    rw [e] at w1
    rw [if_neg (by decide)] at w1 ⊢
    exact tT_go s1 w1 fun q H2 F2 w2 s2 => w2 H2 F2 (s1.trans s2)
theorem tj_w {e : Expr} {f : TF} (h : WJ cm X e f) : TJ cm X e f := fun W tk => (h W tk).pt
theorem tj_not (h : TJ cm X a fa) : TJ cm X (.UnaryOp .Not a pos) (tNot1 fa) := fun W tk => by
  refine pt_imp (pt_not (h W tk)) fun σ H Q ⟨F, ds, r, w⟩ => ?_
  unfold tNot1 at w
  rw [R.wp_bind] at w
  exact tT_go (Step.refl r) w fun p H1 F1 w1 s1 => w1 H1 F1 s1
end
def eIf (t : TF) (f g : EF) : EF := fun ds => (t ds).bind fun (p : Bool × DS) => if p.1 then f p.2 else g p.2
section
variable {a b c : Expr} {rest : List Expr} {fa fb : EF} {t : TF}
theorem ej_if (hc : TJ cm X c t) (ha : EJ cm X a fa) (hb : EJ cm X b fb) : EJ cm X (.IfExp c a b pos) (eIf t fa fb) := fun W tk => by
  refine pe_imp (pe_ifExp (hc W tk) (ha W tk) (hb W tk)) fun σ H Q ⟨F, ds, r, w⟩ => ?_
  unfold eIf at w
  rw [R.wp_bind] at w
  refine tT_go (Step.refl r) w fun p H1 F1 w1 s1 => ?_
  cases e : p.1 with
  | true =>
    rw [e] at w1
    rw [if_pos rfl] at w1 ⊢
    exact tE_go s1 w1 fun q v H2 F2 w2 s2 ok fr => w2 v H2 F2 (s1.trans s2) ok (fr.back s1)
  | false =>
    rw [e] at w1
    rw [if_neg (by decide)] at w1 ⊢
    exact tE_go s1 w1 fun q v H2 F2 w2 s2 ok fr => w2 v H2 F2 (s1.trans s2) ok (fr.back s1)
def asBl (p : Rv × DS) : R (Bool × DS) := match p.1 with
  | .fro (.bl b) => .ok (b, p.2)
  | _ => .stuck
theorem asBl_noerr {p : Rv × DS} : ∀ c ks es ds', asBl p ≠ .err c ks es ds' := by
  intro c ks es ds'
  unfold asBl
  split <;> intro h <;> cases h
theorem asBl_ok {p : Rv × DS} {q : Bool × DS} (h : asBl p = .ok q) : p = (.fro (.bl q.1), q.2) := by
  obtain ⟨rv, ds⟩ := p
  unfold asBl at h
  dsimp only at h
  split at h
  · cases h; rfl
  · cases h
def eAnd2 (f g : EF) : EF := fun ds => (f ds).bind fun (p : Rv × DS) => (asBl p).bind fun (q : Bool × DS) => if q.1 then g q.2 else .ok (.fro (.bl false), q.2)
def eOr2 (f g : EF) : EF := fun ds => (f ds).bind fun (p : Rv × DS) => (asBl p).bind fun (q : Bool × DS) => if q.1 then .ok (.fro (.bl true), q.2) else g q.2
def eNot1 (f : EF) : EF := fun ds => (f ds).bind fun (p : Rv × DS) => (asBl p).bind fun (q : Bool × DS) => .ok (.fro (.bl (!q.1)), q.2)
theorem ej_one {op : BoolOp} (h : EJ cm X a fa) : EJ cm X (.BoolOp op [a] pos) fa := fun W tk => pe_one (h W tk)
theorem ej_and (ha : EJ cm X a fa) (hb : EJ cm X (.BoolOp .And (b :: rest) pos) fb) : EJ cm X (.BoolOp .And (a :: b :: rest) pos) (eAnd2 fa fb) := fun W tk => by
  refine pe_imp (pe_and (ha W tk) (hb W tk)) fun σ H Q ⟨F, ds, r, w⟩ => ?_
  unfold eAnd2 at w
  rw [R.wp_bind] at w
  refine tE_go (Step.refl r) w fun p v H1 F1 w1 s1 ok fr => ?_
  rw [R.wp_bind] at w1
  obtain ⟨q, eq, w2⟩ := R.wp_pure asBl_noerr w1
  clear w1
  cases asBl_ok eq
  refine ⟨q.1, ok, ?_⟩
  cases e : q.1 with
  | true =>
    rw [e] at w2
    rw [if_pos rfl] at w2 ⊢
    exact tE_go s1 w2 fun q v H2 F2 w3 s2 ok fr => w3 v H2 F2 (s1.trans s2) ok (fr.back s1)
  | false =>
    rw [e] at w2
    rw [if_neg (by decide)] at w2 ⊢
    exact w2 (.bl false) H1 F1 s1 rfl trivial
theorem ej_or (ha : EJ cm X a fa) (hb : EJ cm X (.BoolOp .Or (b :: rest) pos) fb) : EJ cm X (.BoolOp .Or (a :: b :: rest) pos) (eOr2 fa fb) := fun W tk => by
  refine pe_imp (pe_or (ha W tk) (hb W tk)) fun σ H Q ⟨F, ds, r, w⟩ => ?_
  unfold eOr2 at w
  rw [R.wp_bind] at w
  refine tE_go (Step.refl r) w fun p v H1 F1 w1 s1 ok fr => ?_
  rw [R.wp_bind] at w1
  obtain ⟨q, eq, w2⟩ := R.wp_pure asBl_noerr w1
  clear w1
  cases asBl_ok eq
  refine ⟨q.1, ok, ?_⟩
  cases e : q.1 with
  | true =>
    rw [e] at w2
    rw [if_pos rfl] at w2 ⊢
    exact w2 (.bl true) H1 F1 s1 rfl trivial
  | false =>
    rw [e] at w2
    rw [if_neg (by decide)] at w2 ⊢
    exact tE_go s1 w2 fun q v H2 F2 w3 s2 ok fr => w3 v H2 F2 (s1.trans s2) ok (fr.back s1)
theorem ej_not (ha : EJ cm X a fa) : EJ cm X (.UnaryOp .Not a pos) (eNot1 fa) := fun W tk => by
  refine pe_imp (pe_not (ha W tk)) fun σ H Q ⟨F, ds, r, w⟩ => ?_
  unfold eNot1 at w
  rw [R.wp_bind] at w
  refine tE_go (Step.refl r) w fun p v H1 F1 w1 s1 ok fr => ?_
  rw [R.wp_bind] at w1
  obtain ⟨q, eq, w2⟩ := R.wp_pure asBl_noerr w1
  clear w1
  cases asBl_ok eq
  exact ⟨q.1, ok, w2 (.bl (!q.1)) H1 F1 s1 rfl trivial⟩
end
end
end DL
namespace DL
open PySem PySem.Spec PyProof.Rows L2
structure FnStep (Γ : Gm) (sl : DS) (vs : List V) (H F : Hp) (sl' : DS) (H' F' : Hp) : Prop where
  sub : Same F' H'
  fs : Same F F'
  keep : ∀ b o, H b = some o → Nt o → ¬ Own sl (vs.map some) b → H' b = some o
  tb : TbOk Γ H' F'
  new : ∀ b o, F' b = some o → F b = some o ∨ H b = none ∨ ∃ (i : Nat) (d : D), sl[i]? = some (Sl.own d) ∧ vs[i]? = some (.ref b)
  bor : ∀ (i : Nat) (d : D), sl[i]? = some (Sl.bor d) → ∃ a d', vs[i]? = some (.ref a) ∧ sl'[i]? = some (Sl.bor d') ∧ F' a = none ∧ ObjAt Γ F' H' a d'
  there : ∀ b o, H b = some o → ∃ o', H' b = some o'
def FnRv (Γ : Gm) (rv : Rv) (v : V) (sl : DS) (vs : List V) (H H' F' : Hp) : Prop := match rv with
  | .fro d => Rep Γ F' d v
  | .own d => ∃ a, v = .ref a ∧ F' a = none ∧ ObjAt Γ F' H' a d ∧ (H a = none ∨ ∃ (i : Nat) (d : D), sl[i]? = some (Sl.own d) ∧ vs[i]? = some (.ref a))
  | .slot _ => False
abbrev FnF := DS → R (Rv × DS)
def spD (Γ : Gm) (n : Nat) (fn : FnF) : Sp := fun vs H Q E => ∃ F sl, vs.length = n ∧ Rl Γ sl (vs.map some) H F ∧
  (fn sl).wp (fun p => ∀ v H' F', FnStep Γ sl vs H F p.2 H' F' → FnRv Γ p.1 v sl vs H H' F' → Q v H')
    (fun c ks es sl' => ∀ d ws H' F', FnStep Γ sl vs H F sl' H' F' → H' d = some (.xd (ks.zip ws)) → ks.length = es.length → Reps Γ F' es ws → E (.ref (Γ.cm c)) (some d) H')
def lend1 (ds : DS) : Rv → R Sl
  | .fro d => .ok (.fro d)
  | .own d => .ok (.own d)
  | .slot i => match ds[i]? with
    | some (Sl.fro d) => .ok (.fro d)
    | some (Sl.own d) => .ok (.bor d)
    | some (Sl.bor d) => .ok (.bor d)
    | _ => .stuck
def lend (ds : DS) : List Rv → R DS
  | [] => .ok []
  | rv :: r => (lend1 ds rv).bind fun s => (lend ds r).bind fun ss => .ok (s :: ss)
/-- the slots that are lent -/
def slotOf : Rv → Option Nat
  | .slot i => some i
  | _ => none
def lents (rvs : List Rv) : List Nat := rvs.filterMap slotOf
def back1 (ds : DS) (rv : Rv) (s : Sl) : DS := match rv, s with
  | .slot i, .bor d => match ds[i]? with
    | some (Sl.own _) => ds.set i (Sl.own d)
    | some (Sl.bor _) => ds.set i (Sl.bor d)
    | _ => ds
  | _, _ => ds
def back : DS → List Rv → DS → DS
  | ds, rv :: rvs, s :: ss => back (back1 ds rv s) rvs ss
  | ds, _, _ => ds
def callF (fn : FnF) (rvs : List Rv) (ds : DS) : R (Rv × DS) :=
  if (lents rvs).Nodup then (lend ds rvs).bind fun sl => match fn sl with
    | .ok p => .ok (p.1, back ds rvs p.2)
    | .err c ks es sl' => .err c ks es (back ds rvs sl')
    | .stuck => .stuck
  else .stuck
theorem lend1_noerr {ds : DS} {rv : Rv} : ∀ c ks es ds', lend1 ds rv ≠ .err c ks es ds' := by
  intro c ks es ds'
  cases rv with
  | fro d => intro h; cases h
  | own d => intro h; cases h
  | slot i =>
    dsimp only [lend1]
    split <;> intro h <;> cases h
theorem lend_noerr {ds : DS} : ∀ {rvs : List Rv} (c : Nat) (ks : List Str) (es : List D) (ds' : DS), lend ds rvs ≠ .err c ks es ds'
  | [], c, ks, es, ds', h => by cases h
  | rv :: r, c, ks, es, ds', h => by
    unfold lend at h
    cases e : lend1 ds rv with
    | ok d =>
      rw [e] at h
      dsimp only [R.bind] at h
      cases e2 : lend ds r with
      | ok es => rw [e2] at h; cases h
      | err c ks es ds' => exact lend_noerr _ _ _ _ e2
      | stuck => rw [e2] at h; cases h
    | err c ks es ds' => exact lend1_noerr _ _ _ _ e
    | stuck => rw [e] at h; cases h
/-- place by place -/
theorem lend_get {ds : DS} : ∀ {rvs : List Rv} {sl : DS}, lend ds rvs = .ok sl → sl.length = rvs.length ∧ ∀ (i : Nat) (rv : Rv), rvs[i]? = some rv → ∃ s, sl[i]? = some s ∧ lend1 ds rv = .ok s
  | [], sl, h => by cases h; exact ⟨rfl, fun i rv e => by simp at e⟩
  | rv :: r, sl, h => by
    unfold lend at h
    cases e : lend1 ds rv with
    | ok s =>
      rw [e] at h
      dsimp only [R.bind] at h
      cases e2 : lend ds r with
      | ok ss =>
        rw [e2] at h
        cases h
        obtain ⟨hl, hg⟩ := lend_get e2
        refine ⟨by simp [hl], fun i rv' q => ?_⟩
        cases i with
        | zero => simp at q; subst q; exact ⟨s, rfl, e⟩
        | succ i => exact hg i rv' (by simpa using q)
      | err _ _ _ _ => rw [e2] at h; cases h
      | stuck => rw [e2] at h; cases h
    | err _ _ _ _ => rw [e] at h; cases h
    | stuck => rw [e] at h; cases h
section
variable {Γ : Gm} {ds : DS} {σ : St} {H F : Hp} {rvs : List Rv} {vs : List V} {sl : DS}
/-- which slot is lent at place i -/
theorem lend_bor {i : Nat} {d : D} (h : lend ds rvs = .ok sl) (e : sl[i]? = some (Sl.bor d)) : ∃ j, rvs[i]? = some (.slot j) ∧ Mine ds j d := by
  obtain ⟨hl, hg⟩ := lend_get h
  have hi : i < rvs.length := by rw [← hl]; exact (List.getElem?_eq_some_iff.mp e).1
  obtain ⟨s, e1, e2⟩ := hg i _ (List.getElem?_eq_getElem hi)
  rw [e] at e1; cases e1
  cases q : rvs[i] with
  | fro d' => rw [q] at e2; cases e2
  | own d' => rw [q] at e2; cases e2
  | slot j =>
    rw [q] at e2
    dsimp only [lend1] at e2
    refine ⟨j, by rw [List.getElem?_eq_getElem hi, q], ?_⟩
    split at e2
    · cases e2
    · rename_i d' z; cases e2; exact .inl z
    · rename_i d' z; cases e2; exact .inr z
    · cases e2
theorem lend_own {i : Nat} {d : D} (h : lend ds rvs = .ok sl) (e : sl[i]? = some (Sl.own d)) : rvs[i]? = some (.own d) := by
  obtain ⟨hl, hg⟩ := lend_get h
  have hi : i < rvs.length := by rw [← hl]; exact (List.getElem?_eq_some_iff.mp e).1
  obtain ⟨s, e1, e2⟩ := hg i _ (List.getElem?_eq_getElem hi)
  rw [e] at e1; cases e1
  cases q : rvs[i] with
  | fro d' => rw [q] at e2; cases e2
  | own d' => rw [q] at e2; cases e2; rw [List.getElem?_eq_getElem hi, q]
  | slot j =>
    rw [q] at e2
    dsimp only [lend1] at e2
    split at e2 <;> cases e2
theorem lend_fro {i : Nat} {d : D} (h : lend ds rvs = .ok sl) (e : sl[i]? = some (Sl.fro d)) : rvs[i]? = some (.fro d) ∨ ∃ j, rvs[i]? = some (.slot j) ∧ ds[j]? = some (Sl.fro d) := by
  obtain ⟨hl, hg⟩ := lend_get h
  have hi : i < rvs.length := by rw [← hl]; exact (List.getElem?_eq_some_iff.mp e).1
  obtain ⟨s, e1, e2⟩ := hg i _ (List.getElem?_eq_getElem hi)
  rw [e] at e1; cases e1
  cases q : rvs[i] with
  | fro d' => rw [q] at e2; cases e2; rw [List.getElem?_eq_getElem hi, q]; exact .inl rfl
  | own d' => rw [q] at e2; cases e2
  | slot j =>
    rw [q] at e2
    dsimp only [lend1] at e2
    refine .inr ⟨j, by rw [List.getElem?_eq_getElem hi, q], ?_⟩
    split at e2
    · rename_i d' z; cases e2; exact z
    · cases e2
    · cases e2
    · cases e2
theorem lents_inj : ∀ {rvs : List Rv} {i j k : Nat}, (lents rvs).Nodup → rvs[i]? = some (.slot k) → rvs[j]? = some (.slot k) → i = j
  | [], i, j, k, _, h, _ => by simp at h
  | rv :: r, i, j, k, nd, h1, h2 => by
    have mem : ∀ {n : Nat}, r[n]? = some (.slot k) → k ∈ lents r := fun {n} h => List.mem_filterMap.mpr ⟨_, List.mem_of_getElem? h, rfl⟩
    have ndr : (lents r).Nodup := by
      unfold lents at nd ⊢
      rw [List.filterMap_cons] at nd
      split at nd
      · exact nd
      · exact (List.nodup_cons.mp nd).2
    have hd : rv = .slot k → k ∉ lents r := fun e => by
      unfold lents at nd ⊢
      rw [List.filterMap_cons, e] at nd
      exact (List.nodup_cons.mp nd).1
    cases i with
    | zero =>
      cases j with
      | zero => rfl
      | succ j =>
        simp at h1 h2
        exact absurd (mem h2) (hd h1)
    | succ i =>
      cases j with
      | zero =>
        simp at h1 h2
        exact absurd (mem h1) (hd h2)
      | succ j => exact congrArg (· + 1) (lents_inj (i := i) (j := j) (k := k) ndr (by simpa using h1) (by simpa using h2))
/-- the slots of the callee stand in the relation -/
theorem lend_rl (r : Rl Γ ds σ H F) (ok : RvsOk Γ rvs vs ds σ H F) (nd : (lents rvs).Nodup) (h : lend ds rvs = .ok sl) : Rl Γ sl (vs.map some) H F := by
  obtain ⟨hl, hg⟩ := lend_get h
  have at_ : ∀ (i : Nat) (v : V), vs[i]? = some v → (vs.map some)[i]? = some (some v) := fun i v q => by rw [List.getElem?_map, q]; rfl
  have of_ : ∀ (i : Nat) (v : V), (vs.map some)[i]? = some (some v) → vs[i]? = some v := fun i v q => by
    rw [List.getElem?_map] at q
    cases e : vs[i]? with
    | none => rw [e] at q; cases q
    | some w => rw [e] at q; cases q; rfl
  have mine : ∀ (i : Nat) (d : D), Mine sl i d → (rvs[i]? = some (.own d)) ∨ ∃ j, rvs[i]? = some (.slot j) ∧ Mine ds j d := fun i d m => by
    rcases m with m | m
    · exact .inl (lend_own h m)
    · exact .inr (lend_bor h m)
  refine ⟨r.sub, by rw [List.length_map, ok.len, hl], fun i d q => ?_, fun i d q => ?_, fun i j d e a h1 h2 h3 h4 => ?_, r.tb⟩
  · rcases lend_fro h q with z | ⟨j, z1, z2⟩
    · obtain ⟨v, e1, k⟩ := ok.ok i _ z
      exact ⟨v, at_ i v e1, k⟩
    · obtain ⟨v, e1, k⟩ := ok.ok i _ z1
      obtain ⟨v', k1, k2⟩ := r.fro j d z2
      rw [show σ[j]? = some (some v) from k] at k1; cases k1
      exact ⟨v, at_ i v e1, k2⟩
  · rcases mine i d q with z | ⟨j, z1, z2⟩
    · obtain ⟨v, e1, k⟩ := ok.ok i _ z
      obtain ⟨a, rfl, na, ob, _⟩ := k
      exact ⟨a, at_ i _ e1, na, ob⟩
    · obtain ⟨v, e1, k⟩ := ok.ok i _ z1
      obtain ⟨a, k1, k2, k3⟩ := r.own j d z2
      rw [show σ[j]? = some (some v) from k] at k1; cases k1
      exact ⟨a, at_ i _ e1, k2, k3⟩
  · have h3' := of_ i _ h3
    have h4' := of_ j _ h4
    rcases mine i d h1 with z | ⟨m, z1, z2⟩
    · rcases mine j e h2 with y | ⟨n, y1, y2⟩
      · exact ok.apart i j d e a z y h3' h4'
      · obtain ⟨v, e1, k⟩ := ok.ok i _ z
        rw [h3'] at e1; cases e1
        obtain ⟨b, eb, _, _, no⟩ := k
        cases eb
        obtain ⟨w', e2, k2⟩ := ok.ok j _ y1
        rw [h4'] at e2; cases e2
        exact (no ⟨n, e, y2, k2⟩).elim
    · obtain ⟨v, e1, k⟩ := ok.ok i _ z1
      rw [h3'] at e1; cases e1
      rcases mine j e h2 with y | ⟨n, y1, y2⟩
      · obtain ⟨w', e2, k2⟩ := ok.ok j _ y
        rw [h4'] at e2; cases e2
        obtain ⟨b, eb, _, _, no⟩ := k2
        cases eb
        exact (no ⟨m, d, z2, k⟩).elim
      · obtain ⟨w', e2, k2⟩ := ok.ok j _ y1
        rw [h4'] at e2; cases e2
        have : m = n := r.apart m n d e a z2 y2 k k2
        subst this
        exact lents_inj nd z1 y1
end
/-- how slots look behind the call -/
theorem back_get {ds : DS} : ∀ {rvs : List Rv} {sl : DS} {k : Nat}, (lents rvs).Nodup → (∀ (i : Nat), rvs[i]? ≠ some (Rv.slot k)) → (back ds rvs sl)[k]? = ds[k]?
  | [], sl, k, _, _ => by cases sl <;> rfl
  | rv :: r, [], k, _, _ => rfl
  | rv :: r, s :: ss, k, nd, h => by
    have ndr : (lents r).Nodup := by
      unfold lents at nd ⊢
      rw [List.filterMap_cons] at nd
      split at nd
      · exact nd
      · exact (List.nodup_cons.mp nd).2
    show (back (back1 ds rv s) r ss)[k]? = _
    rw [back_get ndr fun i => by have := h (i + 1); simpa using this]
    have h0 : rv ≠ Rv.slot k := by have := h 0; simpa using this
    unfold back1
    split
    · rename_i i d
      have ne : i ≠ k := fun e => h0 (by rw [e])
      split
      · rw [List.getElem?_set_ne ne]
      · rw [List.getElem?_set_ne ne]
      · rfl
    · rfl
theorem back_len {ds : DS} : ∀ {rvs : List Rv} {sl : DS}, (back ds rvs sl).length = ds.length
  | [], sl => by cases sl <;> rfl
  | rv :: r, [] => rfl
  | rv :: r, s :: ss => by
    show (back (back1 ds rv s) r ss).length = _
    rw [back_len]
    unfold back1
    split
    · split <;> first | rw [List.length_set] | rfl
    · rfl
theorem back_at : ∀ {ds : DS} {rvs : List Rv} {sl : DS} {i k : Nat} {d' : D}, (lents rvs).Nodup → rvs[i]? = some (.slot k) → sl[i]? = some (Sl.bor d') →
    (∀ d, ds[k]? = some (Sl.own d) → (back ds rvs sl)[k]? = some (Sl.own d')) ∧ (∀ d, ds[k]? = some (Sl.bor d) → (back ds rvs sl)[k]? = some (Sl.bor d'))
  | ds, [], sl, i, k, d', _, h, _ => by simp at h
  | ds, rv :: r, [], i, k, d', _, _, h => by simp at h
  | ds, rv :: r, s :: ss, 0, k, d', nd, h1, h2 => by
    simp at h1 h2
    subst h1; subst h2
    have ndr : (lents r).Nodup := by
      unfold lents at nd ⊢
      rw [List.filterMap_cons] at nd
      exact (List.nodup_cons.mp nd).2
    have no : ∀ (j : Nat), r[j]? ≠ some (Rv.slot k) := fun j e => by
      have m : k ∈ lents r := List.mem_filterMap.mpr ⟨_, List.mem_of_getElem? e, rfl⟩
      unfold lents at nd m
      rw [List.filterMap_cons] at nd
      exact (List.nodup_cons.mp nd).1 m
    refine ⟨fun d q => ?_, fun d q => ?_⟩
    · show (back (back1 ds (.slot k) (.bor d')) r ss)[k]? = _
      rw [back_get ndr no]
      simp only [back1, q]
      rw [List.getElem?_set_self (List.getElem?_eq_some_iff.mp q).1]
    · show (back (back1 ds (.slot k) (.bor d')) r ss)[k]? = _
      rw [back_get ndr no]
      simp only [back1, q]
      rw [List.getElem?_set_self (List.getElem?_eq_some_iff.mp q).1]
  | ds, rv :: r, s :: ss, i + 1, k, d', nd, h1, h2 => by
    have ndr : (lents r).Nodup := by
      unfold lents at nd ⊢
      rw [List.filterMap_cons] at nd
      split at nd
      · exact nd
      · exact (List.nodup_cons.mp nd).2
    have ne : rv ≠ Rv.slot k := fun e => by
      have := lents_inj (i := 0) (j := i + 1) (k := k) nd (by simp [e]) h1
      omega
    have same : (back1 ds rv s)[k]? = ds[k]? := by
      unfold back1
      split
      · rename_i j d
        have nj : j ≠ k := fun e => ne (by rw [e])
        split
        · rw [List.getElem?_set_ne nj]
        · rw [List.getElem?_set_ne nj]
        · rfl
      · rfl
    have := back_at (ds := back1 ds rv s) (rvs := r) (sl := ss) (i := i) (k := k) (d' := d') ndr (by simpa using h1) (by simpa using h2)
    rw [same] at this
    exact this
/-- THE CALL, seen from the caller -/
theorem call_step {Γ : Gm} {ds : DS} {σ : St} {H F H' F' : Hp} {rvs : List Rv} {vs : List V} {sl sl' : DS} (r : Rl Γ ds σ H F) (ok : RvsOk Γ rvs vs ds σ H F) (nd : (lents rvs).Nodup) (h : lend ds rvs = .ok sl)
    {ds0 : DS} {H0 F0 : Hp} (fr : Freshs rvs vs H0) (s : Step Γ ds0 σ H0 F0 ds σ H F) (c : FnStep Γ sl vs H F sl' H' F') : Step Γ ds0 σ H0 F0 (back ds rvs sl') σ H' F' ∧
      ∀ {rv : Rv} {v : V}, FnRv Γ rv v sl vs H H' F' → RvOk Γ rv v (back ds rvs sl') σ H' F' ∧ Fresh rv v H0 := by
  obtain ⟨hl, hg⟩ := lend_get h
  have at_ : ∀ (i : Nat) (v : V), vs[i]? = some v → (vs.map some)[i]? = some (some v) := fun i v q => by rw [List.getElem?_map, q]; rfl
  have of_ : ∀ (i : Nat) (v : V), (vs.map some)[i]? = some (some v) → vs[i]? = some v := fun i v q => by
    rw [List.getElem?_map] at q
    cases e : vs[i]? with
    | none => rw [e] at q; cases q
    | some w => rw [e] at q; cases q; rfl
  -- an address that the callee may write: a temporary, or a lent slot of ours
  have wr : ∀ b, Own sl (vs.map some) b → (∃ (i : Nat) (d : D), rvs[i]? = some (.own d) ∧ vs[i]? = some (.ref b)) ∨ ∃ (i j : Nat) (d : D), rvs[i]? = some (.slot j) ∧ Mine ds j d ∧ σ[j]? = some (some (.ref b)) := fun b ⟨i, d, m, e⟩ => by
    have e' := of_ i _ e
    rcases m with m | m
    · exact .inl ⟨i, d, lend_own h m, e'⟩
    · obtain ⟨j, z1, z2⟩ := lend_bor h m
      obtain ⟨v, e1, k⟩ := ok.ok i _ z1
      rw [e'] at e1; cases e1
      exact .inr ⟨i, j, d, z1, z2, k⟩
  have tmp : ∀ (i : Nat) (d : D) (b : Addr), rvs[i]? = some (.own d) → vs[i]? = some (.ref b) → (F b = none ∧ (∃ o, H b = some o) ∧ ¬ Own ds σ b) := fun i d b z1 z2 => by
    obtain ⟨v, e1, k⟩ := ok.ok i _ z1
    rw [z2] at e1; cases e1
    obtain ⟨a, ea, na, ob, no⟩ := k
    cases ea
    exact ⟨na, ob.ex, no⟩
  have notF : ∀ b, F b = none → (∃ o, H b = some o) → (∀ (i : Nat) (d : D), rvs[i]? = some (.own d) → vs[i]? = some (.ref b) → False) → F' b = none := fun b n ⟨o, ho⟩ nt => by
    cases q : F' b with
    | none => rfl
    | some u =>
      rcases c.new b u q with z | z | ⟨i, d, z1, z2⟩
      · rw [n] at z; cases z
      · rw [ho] at z; cases z
      · exact (nt i d (lend_own h z1) z2).elim
  -- a slot of ours behind the call
  have mineB : ∀ (k : Nat) (d' : D), Mine (back ds rvs sl') k d' → ∃ d, Mine ds k d ∧ ((∃ i : Nat, rvs[i]? = some (Rv.slot k) ∧ sl'[i]? = some (Sl.bor d')) ∨ ((∀ (i : Nat), rvs[i]? ≠ some (Rv.slot k)) ∧ d = d')) := fun k d' m => by
    by_cases hk : ∃ i : Nat, rvs[i]? = some (Rv.slot k)
    · obtain ⟨i, hi⟩ := hk
      obtain ⟨s', e1, e2⟩ := hg i _ hi
      dsimp only [lend1] at e2
      split at e2
      · -- frozen: it stays
        rename_i d0 z
        exfalso
        have : (back ds rvs sl')[k]? = ds[k]? := by
          -- slot k is frozen: no bor is given back
          have aux : ∀ {ds : DS} {rvs : List Rv} {sl : DS}, (∃ d, ds[k]? = some (Sl.fro d)) → (back ds rvs sl)[k]? = ds[k]? := by
            intro ds rvs
            induction rvs generalizing ds with
            | nil => intro sl _; cases sl <;> rfl
            | cons rv r ih =>
              intro sl ⟨d, hd⟩
              cases sl with
              | nil => rfl
              | cons s ss =>
                have same : (back1 ds rv s)[k]? = ds[k]? := by
                  unfold back1
                  split
                  · rename_i j d1
                    by_cases e : j = k
                    · subst e
                      simp only [hd]
                    · split
                      · rw [List.getElem?_set_ne e]
                      · rw [List.getElem?_set_ne e]
                      · rfl
                  · rfl
                show (back (back1 ds rv s) r ss)[k]? = _
                rw [ih ⟨d, by rw [same]; exact hd⟩, same]
          exact aux ⟨d0, z⟩
        rcases m with m | m <;> rw [this, z] at m <;> cases m
      · rename_i d0 z
        cases e2
        obtain ⟨a, d2, b1, b2, b3, b4⟩ := c.bor i d0 e1
        have q := (back_at (ds := ds) nd hi b2).1 d0 z
        refine ⟨d0, .inl z, .inl ⟨i, hi, ?_⟩⟩
        rcases m with m | m <;> rw [q] at m <;> cases m
        exact b2
      · rename_i d0 z
        cases e2
        obtain ⟨a, d2, b1, b2, b3, b4⟩ := c.bor i d0 e1
        have q := (back_at (ds := ds) nd hi b2).2 d0 z
        refine ⟨d0, .inr z, .inl ⟨i, hi, ?_⟩⟩
        rcases m with m | m <;> rw [q] at m <;> cases m
        exact b2
      · cases e2
    · have hk' : ∀ (i : Nat), rvs[i]? ≠ some (Rv.slot k) := fun i e => hk ⟨i, e⟩
      have q := back_get (ds := ds) (sl := sl') nd hk'
      refine ⟨d', ?_, .inr ⟨hk', rfl⟩⟩
      rcases m with m | m
      · exact .inl (by rw [← q]; exact m)
      · exact .inr (by rw [← q]; exact m)
  have froB : ∀ (k : Nat) (d : D), (back ds rvs sl')[k]? = some (Sl.fro d) → ds[k]? = some (Sl.fro d) := fun k d q => by
    have aux : ∀ {ds : DS} {rvs : List Rv} {sl : DS}, (back ds rvs sl)[k]? = some (Sl.fro d) → ds[k]? = some (Sl.fro d) := by
      intro ds rvs
      induction rvs generalizing ds with
      | nil => intro sl q; cases sl <;> exact q
      | cons rv r ih =>
        intro sl q
        cases sl with
        | nil => exact q
        | cons s ss =>
          have z : (back1 ds rv s)[k]? = some (Sl.fro d) := ih q
          unfold back1 at z
          split at z
          · rename_i j d1
            split at z
            · rename_i d2 y
              by_cases e : j = k
              · subst e; rw [List.getElem?_set_self (List.getElem?_eq_some_iff.mp y).1] at z; cases z
              · rw [List.getElem?_set_ne e] at z; exact z
            · rename_i d2 y
              by_cases e : j = k
              · subst e; rw [List.getElem?_set_self (List.getElem?_eq_some_iff.mp y).1] at z; cases z
              · rw [List.getElem?_set_ne e] at z; exact z
            · exact z
          · exact z
    exact aux q
  have ownB : ∀ b, Own (back ds rvs sl') σ b → Own ds σ b := fun b ⟨k, d, m, e⟩ => by
    obtain ⟨d0, m0, _⟩ := mineB k d m
    exact ⟨k, d0, m0, e⟩
  have rl' : Rl Γ (back ds rvs sl') σ H' F' := by
    refine ⟨c.sub, by rw [back_len]; exact r.len, fun k d q => ?_, fun k d m => ?_, fun i j d e a h1 h2 h3 h4 => ?_, c.tb⟩
    · obtain ⟨v, h1, h2⟩ := r.fro k d (froB k d q)
      exact ⟨v, h1, Rep.mono c.fs d v h2⟩
    · obtain ⟨d0, m0, q⟩ := mineB k d m
      obtain ⟨a, k1, k2, k3⟩ := r.own k d0 m0
      refine ⟨a, k1, ?_⟩
      rcases q with ⟨i, z1, z2⟩ | ⟨z1, rfl⟩
      · obtain ⟨s', e1, e2⟩ := hg i _ z1
        have eb : sl[i]? = some (Sl.bor d0) := by
          rw [e1]
          dsimp only [lend1] at e2
          rcases m0 with m0 | m0 <;> rw [m0] at e2 <;> cases e2 <;> rfl
        obtain ⟨a', d2, b1, b2, b3, b4⟩ := c.bor i d0 eb
        rw [z2] at b2; cases b2
        obtain ⟨w', e3, k4⟩ := ok.ok i _ z1
        rw [b1] at e3; cases e3
        rw [show σ[k]? = some (some (V.ref a')) from k4] at k1; cases k1
        exact ⟨b3, b4⟩
      · have nw : ¬ Own sl (vs.map some) a := fun z => by
          rcases wr a z with ⟨i, d1, y1, y2⟩ | ⟨i, j, d1, y1, y2, y3⟩
          · exact (tmp i d1 a y1 y2).2.2 ⟨k, d0, m0, k1⟩
          · have : j = k := r.apart j k d1 d0 a y2 m0 y3 k1
            subst this
            exact z1 i y1
        exact ⟨notF a k2 k3.ex fun i d1 y1 y2 => (tmp i d1 a y1 y2).2.2 ⟨k, d0, m0, k1⟩, k3.mono c.fs fun o q => c.keep a o q (k3.nt q).1 nw⟩
    · obtain ⟨d0, m0, _⟩ := mineB i d h1
      obtain ⟨e0, m1, _⟩ := mineB j e h2
      exact r.apart i j d0 e0 a m0 m1 h3 h4
  have step : Step Γ ds0 σ H0 F0 (back ds rvs sl') σ H' F' := by
    refine ⟨rl', s.fs.trans c.fs, fun b o q nt n => ?_, fun b o q => ?_, fun b q => s.ow b (ownB b q), fun i d q => ?_, by rw [back_len]; exact s.ln, fun b o q => ?_⟩
    · refine c.keep b o (s.keep b o q nt n) nt fun z => ?_
      rcases wr b z with ⟨i, d, y1, y2⟩ | ⟨i, j, d, y1, y2, y3⟩
      · have := fr i d b y1 y2
        rw [q] at this; cases this
      · rcases s.ow b ⟨j, d, y2, y3⟩ with x | x
        · exact n x
        · rw [q] at x; cases x
    · rcases c.new b o q with z | z | ⟨i, d, z1, z2⟩
      · exact s.new b o z
      · exact .inr (.inl (s.back z))
      · exact .inr (.inl (fr i d b (lend_own h z1) z2))
    · obtain ⟨⟨d1, z1⟩, z2⟩ := s.bor i d q
      refine ⟨?_, z2⟩
      by_cases hk : ∃ n : Nat, rvs[n]? = some (Rv.slot i)
      · obtain ⟨n, hn⟩ := hk
        obtain ⟨s', e1, e2⟩ := hg n _ hn
        have eb : sl[n]? = some (Sl.bor d1) := by
          rw [e1]
          dsimp only [lend1] at e2
          rw [z1] at e2; cases e2; rfl
        obtain ⟨a', d2, b1, b2, b3, b4⟩ := c.bor n d1 eb
        exact ⟨d2, (back_at (ds := ds) nd hn b2).2 d1 z1⟩
      · exact ⟨d1, by rw [back_get nd fun n e => hk ⟨n, e⟩]; exact z1⟩
    · obtain ⟨o1, q1⟩ := s.there b o q
      exact c.there b o1 q1
  refine ⟨step, fun {rv v} q => ?_⟩
  cases rv with
  | fro d => exact ⟨q, trivial⟩
  | own d =>
    obtain ⟨a, rfl, na, ob, or_⟩ := q
    have hno : ¬ Own ds σ a := fun z => by
      rcases or_ with y | ⟨i, d1, y1, y2⟩
      · obtain ⟨k, d1, m, e⟩ := z
        obtain ⟨b, k1, _, k3⟩ := r.own k d1 m
        rw [e] at k1; cases k1
        obtain ⟨u, hu⟩ := k3.ex
        rw [y] at hu; cases hu
      · exact (tmp i d1 a (lend_own h y1) y2).2.2 z
    refine ⟨⟨a, rfl, na, ob, fun z => hno (ownB a z)⟩, fun b e => ?_⟩
    cases e
    rcases or_ with y | ⟨i, d1, y1, y2⟩
    · exact s.back y
    · exact fr i d1 a (lend_own h y1) y2
  | slot i => exact q.elim
/-- what a caller shows ahead of a call -/
theorem call_sp {Γ : Gm} {W : WX} {fn : FnF} {n : Nat} {ds ds0 : DS} {σ : St} {H F H0 F0 : Hp} {rvs : List Rv} {vs : List V} {Q : VK} (s : Step Γ ds0 σ H0 F0 ds σ H F) (ok : RvsOk Γ rvs vs ds σ H F) (fr : Freshs rvs vs H0) (hn : rvs.length = n)
    (w : (callF fn rvs ds).wp (fun p => ∀ v H' F', Step Γ ds0 σ H0 F0 p.2 σ H' F' → RvOk Γ p.1 v p.2 σ H' F' → Fresh p.1 v H0 → Q v H') (ErrK Γ W ds0 σ H0 F0)) : spD Γ n fn vs H Q (WE W σ) := by
  unfold callF at w
  by_cases nd : (lents rvs).Nodup
  · rw [if_pos nd] at w
    rw [R.wp_bind] at w
    obtain ⟨sl, el, w⟩ := R.wp_pure lend_noerr w
    refine ⟨F, sl, by rw [ok.len, hn], lend_rl s.rl ok nd el, ?_⟩
    cases e : fn sl with
    | ok p =>
      rw [e] at w
      intro v H' F' c q
      obtain ⟨z1, z2⟩ := call_step s.rl ok nd el fr s c
      obtain ⟨y1, y2⟩ := z2 q
      exact w v H' F' z1 y1 y2
    | err c ks es sl' =>
      rw [e] at w
      intro d ws H' F' c hd hk hr
      obtain ⟨z1, z2⟩ := call_step s.rl ok nd el fr s c
      exact w d ws H' F' z1 hd hk hr
    | stuck => rw [e] at w; exact w
  · rw [if_neg nd] at w
    exact False.elim w
def eCall (n : Nat) (fn : FnF) (fa : AF) : EF := fun ds => (fa ds).bind fun (p : List Rv × DS) => if p.1.length = n then callF fn p.1 p.2 else .stuck
section
variable {cm : CT} {X : Cx} {k : Nat} {f : Addr} {fd : FuncData} {ps : List Str} {fn : FnF} {fa : AF} {n : Nat}
/-- a call by its rule: the arguments, then the promise -/
theorem ej_callT {e : Expr} {es : List Expr} (hp : ∀ {t : TA} {E : L2.St → XK}, (∀ σ, PassesAt (L2.CX X.prog X.w) X σ (E σ)) → PA X es t → PE X e (tCallS (spD (gm X cm) n fn) E t)) (ha : AJ cm X es fa) : EJ cm X e (eCall n fn fa) := fun W tk => by
  refine pe_imp (hp (fun σ => passAt tk σ) (ha W tk)) fun σ H Q ⟨F, ds, r, w⟩ => ?_
  unfold eCall at w
  rw [R.wp_bind] at w
  refine tA_go (Step.refl r) w fun p vs H1 F1 w1 s1 ok fr => ?_
  by_cases hn : p.1.length = n
  · rw [if_pos hn] at w1
    exact call_sp s1 ok fr hn w1
  · rw [if_neg hn] at w1
    exact False.elim w1
abbrev FJ (cm : CT) (P : Program) (w : World) (K : PySem.W.Frag) (mg : Str → Option Value) (base : Heap) (k : Nat) (f : Addr) (fd : FuncData) (ps : List Str) (fn : FnF) : Prop :=
  FnOk P w K mg base (L2.CX P w) k f fd ps (spD ⟨K, cm⟩ ps.length fn)
theorem ej_call {e : Expr} {es : List Expr} {x : Str} {p pos : Pos} (F : FJ cm X.prog X.w X.K X.mg X.base k f fd ps fn) (hr : Room k X.A) (hg : Gl X x) (hm : X.mg x = some (.ref f)) (hk : PySem.W.keepIn X.K (.ref f) = true) (hb : Binds X.K fd ps [])
    (ha : AJ cm X (e :: es) fa) (hdb : (x == ("__debug__" : Str)) = false := by decide) (he : starEach (e :: es) X.env = (false, eval e X.env) :: starEach es X.env := by rfl) (hpl : (backTo pos (starEach es X.env)).any (·.1) = false := by rfl) :
    EJ cm X (.Call (.Name x p) (e :: es) [] pos) (eCall ps.length fn fa) :=
  ej_callT (fun hx ha => pe_callS F hr hg hm hk hb hx ha hdb he hpl) ha
end
inductive Rs where
  | nx (ds : DS)
  | rt (rv : Rv) (ds : DS)
  | bk (ds : DS)
  | ct (ds : DS)
  | err (c : Nat) (ks : List Str) (es : List D) (ds : DS)
  | stuck
abbrev SF := DS → Rs
def Rs.wp (x : Rs) (N : DS → Prop) (T : Rv → DS → Prop) (B C : DS → Prop) (E : Nat → List Str → List D → DS → Prop) : Prop := match x with
  | .nx ds => N ds
  | .rt rv ds => T rv ds
  | .bk ds => B ds
  | .ct ds => C ds
  | .err c ks es ds => E c ks es ds
  | .stuck => False
/-- an expression ahead of a statement's rest -/
def R.toS {α : Type} (x : R α) (f : α → Rs) : Rs := match x with
  | .ok a => f a
  | .err c ks es ds => .err c ks es ds
  | .stuck => .stuck
theorem R.toS_wp {α : Type} {x : R α} {f : α → Rs} {N : DS → Prop} {T : Rv → DS → Prop} {B C : DS → Prop} {E : Nat → List Str → List D → DS → Prop} : (x.toS f).wp N T B C E = x.wp (fun a => (f a).wp N T B C E) E := by
  cases x <;> rfl
def ErrS (Γ : Gm) (W : WX) (ds : DS) (σ : St) (H F : Hp) : Nat → List Str → List D → DS → Prop := fun c ks es ds' =>
  ∀ (d : Addr) (vs : List V) (σ' : St) (H' F' : Hp), Step Γ ds σ H F ds' σ' H' F' → H' d = some (.xd (ks.zip vs)) → ks.length = es.length → Reps Γ F' es vs → W (.ref (Γ.cm c)) (some d) σ' H'
structure SEnds where
  nx : DS → St → Hp → Hp → Prop
  rt : Rv → DS → V → St → Hp → Hp → Prop
def tS (Γ : Gm) (W : WX) (g : SF) : TS := fun D σ H => ∃ F ds, Rl Γ ds σ H F ∧ (g ds).wp
  (fun ds' => ∀ σ' H' F', Step Γ ds σ H F ds' σ' H' F' → D.nx σ' H')
  (fun rv ds' => ∀ v σ' H' F', Step Γ ds σ H F ds' σ' H' F' → RvOk Γ rv v ds' σ' H' F' → Fresh rv v H → D.rt v H')
  (fun ds' => ∀ σ' H' F', Step Γ ds σ H F ds' σ' H' F' → D.bk σ' H')
  (fun ds' => ∀ σ' H' F', Step Γ ds σ H F ds' σ' H' F' → D.ct σ' H')
  (ErrS Γ W ds σ H F)
def SJ (cm : CT) (X : Cx) (st : Stmt) (g : SF) : Prop := ∀ W, Takes X W → PS X st (tS (gm X cm) W g)
def BJ (cm : CT) (X : Cx) (sts : List Stmt) (g : SF) : Prop := ∀ W, Takes X W → PSs X sts (tS (gm X cm) W g)
theorem ps_imp {X : Cx} {st : Stmt} {t t' : TS} (h : PS X st t) (q : ∀ D σ H, t' D σ H → t D σ H) : PS X st t' := ⟨fun pins s σ H D I w => h.run pins s σ H D I (q D σ H w)⟩
theorem pss_imp {X : Cx} {st : List Stmt} {t t' : TS} (h : PSs X st t) (q : ∀ D σ H, t' D σ H → t D σ H) : PSs X st t' := ⟨fun pins s σ H D I w => h.run pins s σ H D I (q D σ H w)⟩
section
variable {Γ : Gm} {W : WX} {ds0 ds : DS} {σ0 σ : St} {H0 F0 H F : Hp} {D : Ends}
theorem ErrS.to (h : ∀ c ks es ds', ErrS Γ W ds0 σ0 H0 F0 c ks es ds' → ErrS Γ W ds σ H F c ks es ds') : True := trivial
theorem ErrS.from (s : Step Γ ds0 σ0 H0 F0 ds σ H F) : ∀ c ks es ds', ErrS Γ W ds0 σ0 H0 F0 c ks es ds' → ErrS Γ W ds σ H F c ks es ds' :=
  fun c ks es ds' h d vs σ' H' F' s' => h d vs σ' H' F' (s.trans s')
theorem ErrS.toK : ∀ c ks es ds', ErrS Γ W ds σ H F c ks es ds' → ErrK Γ W ds σ H F c ks es ds' :=
  fun c ks es ds' h d vs H' F' s' => h d vs σ H' F' s'
/-- a statement goes on from a state on the way -/
theorem tS_go {g : SF} {N : DS → Prop} {T : Rv → DS → Prop} {B C : DS → Prop} (s : Step Γ ds0 σ0 H0 F0 ds σ H F) (h : (g ds).wp N T B C (ErrS Γ W ds0 σ0 H0 F0))
    (kN : ∀ ds' σ' H' F', N ds' → Step Γ ds0 σ0 H0 F0 ds' σ' H' F' → D.nx σ' H')
    (kT : ∀ rv ds' v σ' H' F', T rv ds' → Step Γ ds0 σ0 H0 F0 ds' σ' H' F' → RvOk Γ rv v ds' σ' H' F' → Fresh rv v H0 → D.rt v H')
    (kB : ∀ ds' σ' H' F', B ds' → Step Γ ds0 σ0 H0 F0 ds' σ' H' F' → D.bk σ' H') (kC : ∀ ds' σ' H' F', C ds' → Step Γ ds0 σ0 H0 F0 ds' σ' H' F' → D.ct σ' H') : tS Γ W g D σ H := by
  refine ⟨F, ds, s.rl, ?_⟩
  cases e : g ds with
  | nx ds' => rw [e] at h; exact fun σ' H' F' s' => kN ds' σ' H' F' h (s.trans s')
  | rt rv ds' => rw [e] at h; exact fun v σ' H' F' s' ok fr => kT rv ds' v σ' H' F' h (s.trans s') ok (fr.back s)
  | bk ds' => rw [e] at h; exact fun σ' H' F' s' => kB ds' σ' H' F' h (s.trans s')
  | ct ds' => rw [e] at h; exact fun σ' H' F' s' => kC ds' σ' H' F' h (s.trans s')
  | err c ks es ds' => rw [e] at h; exact ErrS.from s c ks es ds' h
  | stuck => rw [e] at h; exact h
end
def sNil : SF := fun ds => .nx ds
def sSeq (f g : SF) : SF := fun ds => match f ds with
  | .nx ds' => g ds'
  | r => r
section
variable {cm : CT} {X : Cx} {pos : Pos} {st : Stmt} {sts : List Stmt} {f g : SF} {e : Expr} {fe : EF}
theorem bj_nil : BJ cm X [] sNil := fun W tk => pss_imp pss_nil fun D σ H ⟨F, ds, r, w⟩ => w σ H F (Step.refl r)
theorem bj_cons (h1 : SJ cm X st f) (h2 : BJ cm X sts g) : BJ cm X (st :: sts) (sSeq f g) := fun W tk => by
  refine pss_imp (pss_cons (h1 W tk) (h2 W tk)) fun D σ H ⟨F, ds, r, w⟩ => ?_
  refine ⟨F, ds, r, ?_⟩
  unfold sSeq at w
  cases e : f ds with
  | nx ds' =>
    rw [e] at w
    intro σ' H' F' s'
    exact tS_go s' w (fun ds' σ' H' F' h s => h σ' H' F' s) (fun rv ds' v σ' H' F' h s ok fr => h v σ' H' F' s ok fr) (fun ds' σ' H' F' h s => h σ' H' F' s) (fun ds' σ' H' F' h s => h σ' H' F' s)
  | rt rv ds' => rw [e] at w; exact w
  | bk ds' => rw [e] at w; exact w
  | ct ds' => rw [e] at w; exact w
  | err c ks es ds' => rw [e] at w; exact w
  | stuck => rw [e] at w; exact w
theorem bj_one (h1 : SJ cm X st f) : BJ cm X [st] f := fun W tk => pss_one (h1 W tk)
theorem sj_pass : SJ cm X (.Pass pos) sNil := fun W tk => ps_imp ps_pass fun D σ H ⟨F, ds, r, w⟩ => w σ H F (Step.refl r)
def sBreak : SF := fun ds => .bk ds
def sCont : SF := fun ds => .ct ds
theorem sj_break : SJ cm X (.Break pos) sBreak := fun W tk => ps_imp ps_break fun D σ H ⟨F, ds, r, w⟩ => w σ H F (Step.refl r)
theorem sj_cont : SJ cm X (.Continue pos) sCont := fun W tk => ps_imp ps_continue fun D σ H ⟨F, ds, r, w⟩ => w σ H F (Step.refl r)
/-- a statement that is not reached -/
def sNever : SF := fun _ => .stuck
theorem sj_never : SJ cm X st sNever := fun W tk => ps_imp ps_never fun D σ H ⟨F, ds, r, w⟩ => w.elim
theorem bj_never : BJ cm X sts sNever := fun W tk => pss_imp pss_never fun D σ H ⟨F, ds, r, w⟩ => w.elim
/-- the first expression of a statement -/
theorem tE_goS {Γ : Gm} {W : WX} {ds : DS} {σ : St} {H F : Hp} {f : EF} {K : Rv × DS → Prop} {Q : VK} (r : Rl Γ ds σ H F) (h : (f ds).wp K (ErrS Γ W ds σ H F))
    (k : ∀ p v H' F', K p → Step Γ ds σ H F p.2 σ H' F' → RvOk Γ p.1 v p.2 σ H' F' → Fresh p.1 v H → Q v H') : tE Γ W f σ H Q :=
  tE_go (Step.refl r) (R.wp_mono h (fun a _ h => h) ErrS.toK) k
theorem tT_goS {Γ : Gm} {W : WX} {ds : DS} {σ : St} {H F : Hp} {f : TF} {K : Bool × DS → Prop} {Q : Bool → Hp → Prop} (r : Rl Γ ds σ H F) (h : (f ds).wp K (ErrS Γ W ds σ H F))
    (k : ∀ p H' F', K p → Step Γ ds σ H F p.2 σ H' F' → Q p.1 H') : tT Γ W f σ H Q :=
  tT_go (Step.refl r) (R.wp_mono h (fun a _ h => h) ErrS.toK) k
def sExpr (f : EF) : SF := fun ds => (f ds).toS fun p => .nx p.2
theorem sj_expr (he : EJ cm X e fe) (hs : swapsWith e none pos.line X.env = pure false := by rfl) : SJ cm X (.Expr e pos) (sExpr fe) := fun W tk => by
  refine ps_imp (ps_expr (he W tk) hs) fun D σ H ⟨F, ds, r, w⟩ => ?_
  unfold sExpr at w
  rw [R.toS_wp] at w
  exact tE_goS r w fun p v H' F' w s ok fr => w σ H' F' s
theorem sj_doc {x : Str} {j : Nat} {pos' : Pos} : SJ cm X (.Expr (.Constant (.str x) j pos) pos') sNil := fun W tk => ps_imp ps_doc fun D σ H ⟨F, ds, r, w⟩ => w σ H F (Step.refl r)
def sRet (f : EF) : SF := fun ds => (f ds).toS fun p => .rt p.1 p.2
theorem sj_ret (he : EJ cm X e fe) : SJ cm X (.Return (some e) pos) (sRet fe) := fun W tk => by
  refine ps_imp (ps_ret (he W tk)) fun D σ H ⟨F, ds, r, w⟩ => ?_
  unfold sRet at w
  rw [R.toS_wp] at w
  exact tE_goS r w fun p v H' F' w s ok fr => w v σ H' F' s ok fr
def sRetN : SF := fun ds => .rt (.fro .non) ds
theorem sj_retN : SJ cm X (.Return none pos) sRetN := fun W tk => ps_imp ps_retN fun D σ H ⟨F, ds, r, w⟩ => w .non σ H F (Step.refl r) rfl trivial
def sIf (t : TF) (f g : SF) : SF := fun ds => (t ds).toS fun p => if p.1 then f p.2 else g p.2
theorem sj_if {c : Expr} {a b : List Stmt} {t : TF} (hc : TJ cm X c t) (ha : BJ cm X a f) (hb : BJ cm X b g) : SJ cm X (.If c a b pos) (sIf t f g) := fun W tk => by
  refine ps_imp (ps_if (hc W tk) (ha W tk) (hb W tk)) fun D σ H ⟨F, ds, r, w⟩ => ?_
  unfold sIf at w
  rw [R.toS_wp] at w
  refine tT_goS r w fun p H1 F1 w1 s1 => ?_
  cases e : p.1 with
  | true =>
    rw [e] at w1
    rw [if_pos rfl] at w1 ⊢
    exact tS_go s1 w1 (fun ds' σ' H' F' h s => h σ' H' F' s) (fun rv ds' v σ' H' F' h s ok fr => h v σ' H' F' s ok fr) (fun ds' σ' H' F' h s => h σ' H' F' s) (fun ds' σ' H' F' h s => h σ' H' F' s)
  | false =>
    rw [e] at w1
    rw [if_neg (by decide)] at w1 ⊢
    exact tS_go s1 w1 (fun ds' σ' H' F' h s => h σ' H' F' s) (fun rv ds' v σ' H' F' h s ok fr => h v σ' H' F' s ok fr) (fun ds' σ' H' F' h s => h σ' H' F' s) (fun ds' σ' H' F' h s => h σ' H' F' s)
end
def store (i : Nat) (rv : Rv) (ds : DS) : R DS := match ds[i]? with
  | some (Sl.bor _) => .stuck
  | none => .stuck
  | _ => match rv with
    | .own d => .ok (ds.set i (Sl.own d))
    | rv => (take ds rv).bind fun (p : D × DS) => .ok (p.2.set i (Sl.fro p.1))
theorem store_noerr {i : Nat} {rv : Rv} {ds : DS} : ∀ c ks es ds', store i rv ds ≠ .err c ks es ds' := by
  intro c ks es ds' h
  unfold store at h
  split at h
  · cases h
  · cases h
  · split at h
    · cases h
    · cases e : take ds rv with
      | ok p => rw [e] at h; cases h
      | err _ _ _ _ => exact take_noerr _ _ _ _ e
      | stuck => rw [e] at h; cases h
theorem mine_set_ne {ds : DS} {i j : Nat} {d : D} {s : Sl} (h : Mine (ds.set i s) j d) (ne : j ≠ i) : Mine ds j d := by
  unfold Mine at h ⊢
  rw [List.getElem?_set_ne (Ne.symm ne)] at h
  exact h
section
variable {Γ : Gm} {ds0 ds ds' : DS} {σ0 σ : St} {H0 F0 H F : Hp} {i : Nat} {rv : Rv} {v : V}
theorem set_fro (s : Step Γ ds0 σ0 H0 F0 ds σ H F) {d : D} (rp : Rep Γ F d v) (hb : ∀ e, ds[i]? ≠ some (Sl.bor e)) (hi : i < ds.length) : Step Γ ds0 σ0 H0 F0 (ds.set i (Sl.fro d)) (σ.set i (some v)) H F := by
  have r := s.rl
  have hi' : i < σ.length := by rw [← r.len]; exact hi
  have mi : ∀ {j : Nat} {e : D}, Mine (ds.set i (Sl.fro d)) j e → j ≠ i ∧ Mine ds j e := fun m => mine_set m
  refine ⟨⟨r.sub, by rw [List.length_set, List.length_set]; exact r.len, fun j e q => ?_, fun j e m => ?_, fun j k e e' a h1 h2 h3 h4 => ?_, r.tb⟩, s.fs, s.keep, s.new, fun b ⟨j, e, m, q⟩ => ?_, fun j e q => ?_, by rw [List.length_set]; exact s.ln, s.there⟩
  · by_cases z : j = i
    · subst z
      rw [List.getElem?_set_self hi] at q
      cases q
      exact ⟨v, List.getElem?_set_self hi', rp⟩
    · rw [List.getElem?_set_ne (Ne.symm z)] at q
      obtain ⟨w, h1, h2⟩ := r.fro j e q
      exact ⟨w, by rw [List.getElem?_set_ne (Ne.symm z)]; exact h1, h2⟩
  · obtain ⟨ne, m'⟩ := mi m
    obtain ⟨a, h1, h2⟩ := r.own j e m'
    exact ⟨a, by rw [List.getElem?_set_ne (Ne.symm ne)]; exact h1, h2⟩
  · obtain ⟨n1, m1⟩ := mi h1
    obtain ⟨n2, m2⟩ := mi h2
    rw [List.getElem?_set_ne (Ne.symm n1)] at h3
    rw [List.getElem?_set_ne (Ne.symm n2)] at h4
    exact r.apart j k e e' a m1 m2 h3 h4
  · obtain ⟨ne, m'⟩ := mi m
    rw [List.getElem?_set_ne (Ne.symm ne)] at q
    exact s.ow b ⟨j, e, m', q⟩
  · obtain ⟨⟨d', z⟩, z2⟩ := s.bor j e q
    have ne : j ≠ i := by rintro rfl; exact hb d' z
    exact ⟨⟨d', by rw [List.getElem?_set_ne (Ne.symm ne)]; exact z⟩, by rw [List.getElem?_set_ne (Ne.symm ne)]; exact z2⟩
theorem set_own (s : Step Γ ds0 σ0 H0 F0 ds σ H F) {d : D} (ok : RvOk Γ (.own d) v ds σ H F) (fr : Fresh (.own d) v H0) (hb : ∀ e, ds[i]? ≠ some (Sl.bor e)) (hi : i < ds.length) : Step Γ ds0 σ0 H0 F0 (ds.set i (Sl.own d)) (σ.set i (some v)) H F := by
  have r := s.rl
  obtain ⟨a, rfl, na, ob, no⟩ := ok
  have hi' : i < σ.length := by rw [← r.len]; exact hi
  have mi : ∀ {j : Nat} {e : D}, Mine (ds.set i (Sl.own d)) j e → (j = i ∧ e = d) ∨ (j ≠ i ∧ Mine ds j e) := fun {j e} m => by
    by_cases z : j = i
    · subst z
      unfold Mine at m
      rw [List.getElem?_set_self hi] at m
      rcases m with m | m <;> cases m
      exact .inl ⟨rfl, rfl⟩
    · exact .inr ⟨z, mine_set_ne m z⟩
  refine ⟨⟨r.sub, by rw [List.length_set, List.length_set]; exact r.len, fun j e q => ?_, fun j e m => ?_, fun j k e e' b h1 h2 h3 h4 => ?_, r.tb⟩, s.fs, s.keep, s.new, fun b ⟨j, e, m, q⟩ => ?_, fun j e q => ?_, by rw [List.length_set]; exact s.ln, s.there⟩
  · by_cases z : j = i
    · subst z
      rw [List.getElem?_set_self hi] at q
      cases q
    · rw [List.getElem?_set_ne (Ne.symm z)] at q
      obtain ⟨w, h1, h2⟩ := r.fro j e q
      exact ⟨w, by rw [List.getElem?_set_ne (Ne.symm z)]; exact h1, h2⟩
  · rcases mi m with ⟨rfl, rfl⟩ | ⟨ne, m'⟩
    · exact ⟨a, List.getElem?_set_self hi', na, ob⟩
    · obtain ⟨b, h1, h2⟩ := r.own j e m'
      exact ⟨b, by rw [List.getElem?_set_ne (Ne.symm ne)]; exact h1, h2⟩
  · rcases mi h1 with ⟨rfl, rfl⟩ | ⟨n1, m1⟩
    · rcases mi h2 with ⟨rfl, rfl⟩ | ⟨n2, m2⟩
      · rfl
      · rw [List.getElem?_set_self hi'] at h3; cases h3
        rw [List.getElem?_set_ne (Ne.symm n2)] at h4
        exact (no ⟨k, e', m2, h4⟩).elim
    · rcases mi h2 with ⟨rfl, rfl⟩ | ⟨n2, m2⟩
      · rw [List.getElem?_set_self hi'] at h4; cases h4
        rw [List.getElem?_set_ne (Ne.symm n1)] at h3
        exact (no ⟨j, e, m1, h3⟩).elim
      · rw [List.getElem?_set_ne (Ne.symm n1)] at h3
        rw [List.getElem?_set_ne (Ne.symm n2)] at h4
        exact r.apart j k e e' b m1 m2 h3 h4
  · rcases mi m with ⟨rfl, rfl⟩ | ⟨ne, m'⟩
    · rw [List.getElem?_set_self hi'] at q; cases q
      exact .inr (fr _ rfl)
    · rw [List.getElem?_set_ne (Ne.symm ne)] at q
      exact s.ow b ⟨j, e, m', q⟩
  · obtain ⟨⟨d', z⟩, z2⟩ := s.bor j e q
    have ne : j ≠ i := by rintro rfl; exact hb d' z
    exact ⟨⟨d', by rw [List.getElem?_set_ne (Ne.symm ne)]; exact z⟩, by rw [List.getElem?_set_ne (Ne.symm ne)]; exact z2⟩
theorem store_step (s : Step Γ ds0 σ0 H0 F0 ds σ H F) (s0 : σ = σ0 ∨ True) (ok : RvOk Γ rv v ds σ H F) (fr : Fresh rv v H0) (h : store i rv ds = .ok ds') : ∃ F', Step Γ ds0 σ0 H0 F0 ds' (σ.set i (some v)) H F' := by
  unfold store at h
  split at h
  · cases h
  · cases h
  · rename_i n1 n2
    have hi : i < ds.length := by
      cases e : ds[i]? with
      | none => exact absurd e n2
      | some x => exact (List.getElem?_eq_some_iff.mp e).1
    have hb : ∀ e, ds[i]? ≠ some (Sl.bor e) := fun e z => n1 e z
    split at h
    · rename_i d
      cases h
      exact ⟨F, set_own s ok fr hb hi⟩
    · rename_i rv' nrv
      cases e : take ds rv with
      | ok p =>
        rw [e] at h
        cases h
        obtain ⟨F', n, fs, sub, rp, rl, ow, bo, ln⟩ := take_ok s.rl ok e
        have s1 : Step Γ ds0 σ0 H0 F0 p.2 σ H F' := by
          refine ⟨rl, s.fs.trans fs, s.keep, fun b o q => ?_, fun b q => s.ow b (ow b q), fun j d q => ?_, ln.trans s.ln, s.there⟩
          · rcases n b o q with z | ⟨d', z1, z2⟩ | z
            · exact s.new b o z
            · exact (nrv d' z1).elim
            · rcases s.ow b z with z | z
              · exact .inr (.inr z)
              · exact .inr (.inl z)
          · obtain ⟨⟨d', z⟩, z2⟩ := s.bor j d q
            exact ⟨⟨d', bo j d' z⟩, z2⟩
        refine ⟨F', set_fro s1 rp (fun d z => ?_) (by rw [ln]; exact hi)⟩
        -- a lent slot at i would have been lent before
        cases rv with
        | fro d' => cases e; exact hb d z
        | own d' => exact nrv d' rfl
        | slot j =>
          dsimp only [take] at e
          split at e
          · cases e; exact hb d z
          · cases e
            by_cases q : i = j
            · subst q
              rw [List.getElem?_set_self hi] at z
              cases z
            · rw [List.getElem?_set_ne (Ne.symm q)] at z
              exact hb d z
          · cases e
      | err _ _ _ _ => rw [e] at h; cases h
      | stuck => rw [e] at h; cases h
end
def sAsg (i : Nat) (f : EF) : SF := fun ds => (f ds).toS fun p => (store i p.1 p.2).toS fun ds' => .nx ds'
section
variable {cm : CT} {X : Cx} {pos : Pos} {e : Expr} {fe : EF} {i : Nat}
theorem sj_asg {x : Str} {pos' : Pos} (he : EJ cm X e fe) (hp : ∀ {te : TE}, PE X e te → PS X (.Assign [.Name x pos'] e pos) (tAsg te (gName i))) : SJ cm X (.Assign [.Name x pos'] e pos) (sAsg i fe) := fun W tk => by
  refine ps_imp (hp (he W tk)) fun D σ H ⟨F, ds, r, w⟩ => ?_
  unfold sAsg at w
  rw [R.toS_wp] at w
  refine tE_goS r w fun p v H1 F1 w1 s1 ok fr => ?_
  rw [R.toS_wp] at w1
  obtain ⟨ds', ed, w1⟩ := R.wp_pure store_noerr w1
  obtain ⟨F2, s2⟩ := store_step s1 (.inr trivial) ok fr ed
  exact w1 _ H1 F2 s2
end
def finish (rv : Rv) (ds : DS) : R Rv := match rv with
  | .slot i => match ds[i]? with
    | some (Sl.fro d) => .ok (.fro d)
    | some (Sl.own d) => .ok (.own d)
    | _ => .stuck
  | rv => .ok rv
def fnB (np nl : Nat) (g : SF) : FnF := fun sl => match g (sl ++ List.replicate nl .no) with
  | .nx ds => .ok (.fro .non, ds.take np)
  | .rt rv ds => (finish rv ds).bind fun rv => .ok (rv, ds.take np)
  | .err c ks es ds => .err c ks es (ds.take np)
  | _ => .stuck
section
variable {Γ : Gm} {sl ds : DS} {vs : List V} {N : List Str} {σ' : St} {H F H' F' : Hp} {n : Nat}
theorem start_get {i : Nat} {v : V} : (L2.start N vs)[i]? = some (some v) ↔ vs[i]? = some v := by
  unfold L2.start
  by_cases hi : i < vs.length
  · rw [List.getElem?_append_left (by simpa using hi), List.getElem?_map]
    cases e : vs[i]? with
    | none => simp
    | some w => simp
  · rw [List.getElem?_append_right (by simpa using hi), List.getElem?_replicate]
    constructor
    · intro h; split at h <;> cases h
    · intro h; exact absurd (List.getElem?_eq_some_iff.mp h).1 hi
theorem start_rl (r : Rl Γ sl (vs.map some) H F) (hN : N.length = vs.length + n) : Rl Γ (sl ++ List.replicate n .no) (L2.start N vs) H F := by
  have hl : sl.length = vs.length := by rw [r.len, List.length_map]
  have low : ∀ {i : Nat} {s : Sl}, (sl ++ List.replicate n Sl.no)[i]? = some s → s ≠ .no → sl[i]? = some s := fun {i s} h ns => by
    by_cases hi : i < sl.length
    · rw [List.getElem?_append_left hi] at h; exact h
    · rw [List.getElem?_append_right (by omega), List.getElem?_replicate] at h
      split at h
      · cases h; exact absurd rfl ns
      · cases h
  have mp : ∀ {i : Nat} {v : V}, (vs.map some)[i]? = some (some v) → (L2.start N vs)[i]? = some (some v) := fun {i v} h => by
    rw [start_get]
    rw [List.getElem?_map] at h
    cases e : vs[i]? with
    | none => rw [e] at h; cases h
    | some w => rw [e] at h; cases h; rfl
  have pm : ∀ {i : Nat} {v : V}, (L2.start N vs)[i]? = some (some v) → (vs.map some)[i]? = some (some v) := fun {i v} h => by
    rw [start_get] at h
    rw [List.getElem?_map, h]; rfl
  have mine : ∀ {i : Nat} {d : D}, Mine (sl ++ List.replicate n Sl.no) i d → Mine sl i d := fun m => by
    rcases m with m | m
    · exact .inl (low m (by intro z; cases z))
    · exact .inr (low m (by intro z; cases z))
  refine ⟨r.sub, ?_, fun i d h => ?_, fun i d m => ?_, fun i j d e a h1 h2 h3 h4 => r.apart i j d e a (mine h1) (mine h2) (pm h3) (pm h4), r.tb⟩
  · unfold L2.start
    simp [hl]
    omega
  · obtain ⟨v, h1, h2⟩ := r.fro i d (low h (by intro z; cases z))
    exact ⟨v, mp h1, h2⟩
  · obtain ⟨a, h1, h2⟩ := r.own i d (mine m)
    exact ⟨a, mp h1, h2⟩
theorem end_step (r : Rl Γ sl (vs.map some) H F) (s : Step Γ (sl ++ List.replicate n .no) (L2.start N vs) H F ds σ' H' F') : FnStep Γ sl vs H F (ds.take vs.length) H' F' := by
  have hl : sl.length = vs.length := by rw [r.len, List.length_map]
  have at_ : ∀ {i : Nat} {s : Sl}, sl[i]? = some s → (sl ++ List.replicate n Sl.no)[i]? = some s := fun {i s} h => by
    rw [List.getElem?_append_left (List.getElem?_eq_some_iff.mp h).1]; exact h
  have low : ∀ {i : Nat} {s : Sl}, (sl ++ List.replicate n Sl.no)[i]? = some s → s ≠ .no → sl[i]? = some s := fun {i s} h ns => by
    by_cases hi : i < sl.length
    · rw [List.getElem?_append_left hi] at h; exact h
    · rw [List.getElem?_append_right (by omega), List.getElem?_replicate] at h
      split at h
      · cases h; exact absurd rfl ns
      · cases h
  have back : ∀ b, Own (sl ++ List.replicate n Sl.no) (L2.start N vs) b → ∃ (i : Nat) (d : D), Mine sl i d ∧ vs[i]? = some (.ref b) := fun b ⟨i, d, m, e⟩ => by
    refine ⟨i, d, ?_, start_get.mp e⟩
    rcases m with m | m
    · exact .inl (low m (by intro z; cases z))
    · exact .inr (low m (by intro z; cases z))
  have ownS : ∀ b, Own (sl ++ List.replicate n Sl.no) (L2.start N vs) b → Own sl (vs.map some) b := fun b h => by
    obtain ⟨i, d, m, e⟩ := back b h
    exact ⟨i, d, m, by rw [List.getElem?_map, e]; rfl⟩
  have borE : ∀ (i : Nat) (d : D), sl[i]? = some (Sl.bor d) → ∃ a d', vs[i]? = some (.ref a) ∧ ds[i]? = some (Sl.bor d') ∧ F' a = none ∧ ObjAt Γ F' H' a d' := fun i d h => by
    obtain ⟨⟨d', z1⟩, z2⟩ := s.bor i d (at_ h)
    obtain ⟨a, k1, k2, k3⟩ := s.rl.own i d' (.inr z1)
    rw [z2, start_get] at k1
    exact ⟨a, d', k1, z1, k2, k3⟩
  refine ⟨s.rl.sub, s.fs, fun b o q nt nn => s.keep b o q nt fun z => nn (ownS b z), s.rl.tb, fun b o q => ?_, fun i d h => ?_, s.there⟩
  · rcases s.new b o q with z | z | z
    · exact .inl z
    · exact .inr (.inl z)
    · obtain ⟨i, d, m, e⟩ := back b z
      rcases m with m | m
      · exact .inr (.inr ⟨i, d, m, e⟩)
      · obtain ⟨a, d', k1, _, k3, _⟩ := borE i d m
        rw [e] at k1; cases k1
        rw [k3] at q; cases q
  · obtain ⟨a, d', k1, k2, k3, k4⟩ := borE i d h
    have hi : i < vs.length := (List.getElem?_eq_some_iff.mp k1).1
    exact ⟨a, d', k1, by rw [List.getElem?_take_of_lt hi]; exact k2, k3, k4⟩
theorem end_rv (r : Rl Γ sl (vs.map some) H F) (s : Step Γ (sl ++ List.replicate n .no) (L2.start N vs) H F ds σ' H' F') {rv rv' : Rv} {v : V} (ok : RvOk Γ rv v ds σ' H' F') (fr : Fresh rv v H) (h : finish rv ds = .ok rv') : FnRv Γ rv' v sl vs H H' F' := by
  have low : ∀ {i : Nat} {s : Sl}, (sl ++ List.replicate n Sl.no)[i]? = some s → s ≠ .no → sl[i]? = some s := fun {i s} h ns => by
    by_cases hi : i < sl.length
    · rw [List.getElem?_append_left hi] at h; exact h
    · rw [List.getElem?_append_right (by omega), List.getElem?_replicate] at h
      split at h
      · cases h; exact absurd rfl ns
      · cases h
  cases rv with
  | fro d => cases h; exact ok
  | own d =>
    cases h
    obtain ⟨a, e, na, ob, no⟩ := ok
    exact ⟨a, e, na, ob, .inl (fr a e)⟩
  | slot i =>
    have hv : σ'[i]? = some (some v) := ok
    dsimp only [finish] at h
    split at h
    · rename_i d q
      cases h
      obtain ⟨w, h1, h2⟩ := s.rl.fro i d q
      rw [hv] at h1; cases h1
      exact h2
    · rename_i d q
      cases h
      obtain ⟨a, h1, h2, h3⟩ := s.rl.own i d (.inl q)
      rw [hv] at h1; cases h1
      refine ⟨a, rfl, h2, h3, ?_⟩
      rcases s.ow a ⟨i, d, .inl q, hv⟩ with ⟨j, e, m, z⟩ | z
      · rcases m with m | m
        · exact .inr ⟨j, e, low m (by intro z; cases z), start_get.mp z⟩
        · -- a lent one is still lent: slot i would be it
          exfalso
          obtain ⟨⟨d', y1⟩, y2⟩ := s.bor j e m
          have : i = j := s.rl.apart i j d d' a (.inl q) (.inr y1) hv (by rw [y2]; exact z)
          subst this
          rw [q] at y1; cases y1
      · exact .inl z
    · cases h
end
/-- THE RULE for a def: its body's judgement -/
theorem fj_of {cm : CT} {P : Program} {w : World} {K : PySem.W.Frag} {mg : Str → Option Value} {base : Heap} {x qual : Str} {st : Stmt} {f : Addr} {fd : FuncData} {N ps : List Str} {k nl : Nat} {g : SF} (Fn : Fun K x qual st f fd) (S : FnScope N ps (defScope st)) (hN : N.length = ps.length + nl)
    (hbody : ∀ (cdv : Value) (A : Around) (outer : List Env) (s : Shared) (H : Hp) (E : XK), Room k (A.deeper (envOfC qual (defScope st) s.heap.objs.size f cdv)) → BJ cm (cxOf (L2.CX P w) P w K mg base N qual (defScope st) f cdv A outer s H E) (defBody st) g) :
    FJ cm P w K mg base (k + 1) f fd ps (fnB ps.length nl g) := by
  obtain ⟨oc, od, kV, doc, pm, an, cdv, ct, osl, rfl, lk, hcd⟩ := Fn.ex
  refine fn_of lk hcd S (fun vs H Q E h => ?_) fun A outer s H vs Q E hr hsp => ?_
  · obtain ⟨F, sl, h, _⟩ := h; exact h
  obtain ⟨F, sl, hl, r, w⟩ := hsp
  refine ⟨_, hbody cdv A outer s H E hr (fun cls d _ H => E cls d H) (takes_of rfl rfl rfl rfl), ?_⟩
  have r2 := start_rl (N := N) (n := nl) r (by rw [hN, hl])
  refine ⟨F, _, r2, ?_⟩
  unfold fnB at w
  cases e : g (sl ++ List.replicate nl .no) with
  | nx ds =>
    rw [e] at w
    intro σ' H' F' s'
    have es := end_step r s'
    rw [hl] at es
    exact w .non H' F' es rfl
  | rt rv ds =>
    rw [e] at w
    intro v σ' H' F' s' ok fr
    cases e2 : finish rv ds with
    | ok rv' =>
      simp only [e2] at w
      have es := end_step r s'
      rw [hl] at es
      exact w v H' F' es (end_rv r s' ok fr e2)
    | err _ _ _ _ =>
      exfalso
      cases rv with
      | fro d => cases e2
      | own d => cases e2
      | slot i =>
        dsimp only [finish] at e2
        split at e2 <;> cases e2
    | stuck => simp only [e2] at w; exact w.elim
  | bk ds => rw [e] at w; exact w.elim
  | ct ds => rw [e] at w; exact w.elim
  | err c ks es ds =>
    rw [e] at w
    intro d vs' σ' H' F' s' hd hk hr
    have es := end_step r s'
    rw [hl] at es
    exact w d vs' H' F' es hd hk hr
  | stuck => rw [e] at w; exact w.elim
end DL
namespace DL
open PySem PySem.Spec PyProof.Rows L2
abbrev GF := D → DS → R DS
/-- σ' parts from σ at the places ix alone -/
def But (ix : List Nat) (σ σ' : St) : Prop := ∀ j : Nat, j ∉ ix → σ'[j]? = σ[j]?
def tG (Γ : Gm) (ix : List Nat) (g : GF) : TG := fun v σ H Q => ∃ F ds d, Rl Γ ds σ H F ∧ Rep Γ F d v ∧ (g d ds).wp (fun ds' => ∀ σ' H' F', Step Γ ds σ H F ds' σ' H' F' → But ix σ σ' → Q σ' H') fun _ _ _ _ => False
def tGs (Γ : Gm) (ix : List Nat) (g : List D → DS → R DS) : TGs := fun vs σ H Q => ∃ F ds es, Rl Γ ds σ H F ∧ Reps Γ F es vs ∧ (g es ds).wp (fun ds' => ∀ σ' H' F', Step Γ ds σ H F ds' σ' H' F' → But ix σ σ' → Q σ' H') fun _ _ _ _ => False
def GJ (cm : CT) (X : Cx) (e : Expr) (ix : List Nat) (g : GF) : Prop := PG X e (tG (gm X cm) ix g)
def GsJ (cm : CT) (X : Cx) (es : List Expr) (ix : List Nat) (g : List D → DS → R DS) : Prop := PGs X es (tGs (gm X cm) ix g)
theorem pg_imp {X : Cx} {e : Expr} {t t' : TG} (h : PG X e t) (q : ∀ v σ H Q, t' v σ H Q → t v σ H Q) : PG X e t' := ⟨fun pins s σ H v u Q I r w => h.run pins s σ H v u Q I r (q v σ H Q w)⟩
theorem pgs_imp {X : Cx} {es : List Expr} {t t' : TGs} (h : PGs X es t) (q : ∀ v σ H Q, t' v σ H Q → t v σ H Q) : PGs X es t' := ⟨fun pins s σ H v u Q I r w => h.run pins s σ H v u Q I r (q v σ H Q w)⟩
def gN (i : Nat) : GF := fun d ds => store i (.fro d) ds
section
variable {cm : CT} {X : Cx} {pos : Pos}
theorem gj_name {x : Str} {i : Nat} (h : PG X (.Name x pos) (gName i)) : GJ cm X (.Name x pos) [i] (gN i) := by
  refine pg_imp h fun v σ H Q ⟨F, ds, d, r, rp, w⟩ => ?_
  obtain ⟨ds', ed, w⟩ := R.wp_pure store_noerr w
  obtain ⟨F2, s2⟩ := store_step (rv := .fro d) (v := v) (Step.refl r) (.inl rfl) rp trivial ed
  exact w _ H F2 s2 fun j hj => List.getElem?_set_ne (by simp at hj; exact fun e => hj e.symm)
def gsNil : List D → DS → R DS := fun es ds => match es with
  | [] => .ok ds
  | _ => .stuck
def gsCons (g : GF) (gs : List D → DS → R DS) : List D → DS → R DS := fun es ds => match es with
  | d :: r => (g d ds).bind fun ds' => gs r ds'
  | [] => .stuck
theorem gsj_nil : GsJ cm X [] [] gsNil := by
  refine pgs_imp pgs_nil fun vs σ H Q ⟨F, ds, es, r, rp, w⟩ => ?_
  cases es with
  | nil => exact ⟨rp, w σ H F (Step.refl r) fun _ _ => rfl⟩
  | cons d es => exact False.elim w
theorem gsj_cons {e : Expr} {es : List Expr} {g : GF} {gs : List D → DS → R DS} {ix iy : List Nat} (h1 : GJ cm X e ix g) (h2 : GsJ cm X es iy gs) (hp : ∀ {t : TG} {u : TGs}, PG X e t → PGs X es u → PGs X (e :: es) (gCons t u)) : GsJ cm X (e :: es) (ix ++ iy) (gsCons g gs) := by
  refine pgs_imp (hp h1 h2) fun vs σ H Q ⟨F, ds, ds2, r, rp, w⟩ => ?_
  cases ds2 with
  | nil => exact False.elim w
  | cons d rest =>
    obtain ⟨v, vr, rfl, r1, r2⟩ := rp
    have w : ((g d ds).bind fun ds' => gs rest ds').wp _ _ := w
    rw [R.wp_bind] at w
    refine ⟨v, vr, rfl, F, ds, d, r, r1, R.wp_mono w (fun ds1 _ w1 σ1 H1 F1 s1 b1 => ?_) fun _ _ _ _ z => z⟩
    exact ⟨F1, ds1, rest, s1.rl, Reps.mono s1.fs _ _ r2, R.wp_mono w1 (fun ds2 _ w2 σ2 H2 F2 s2 b2 => w2 σ2 H2 F2 (s1.trans s2) fun j hj => by
      rw [List.mem_append, not_or] at hj
      exact (b2 j hj.2).trans (b1 j hj.1)) fun _ _ _ _ z => z⟩
def gTupD (n : Nat) (gs : List D → DS → R DS) : GF := fun d ds => match d with
  | .tup es => if es.length = n then gs es ds else .stuck
  | _ => .stuck
theorem gj_tup {es : List Expr} {k n : Nat} {gs : List D → DS → R DS} {ix : List Nat} (hc : X.calm = true) (h : GsJ cm X es ix gs) (hn : (assignEach es X.env).length = n := by rfl) (hst : (assignEach es X.env).findIdx? (·.1) = none := by rfl) : GJ cm X (.Tuple es k pos) ix (gTupD n gs) := by
  refine pg_imp (pg_tup (n := n) hc h hn hst) fun v σ H Q ⟨F, ds, d, r, rp, w⟩ => ?_
  unfold gTupD at w
  split at w
  · rename_i es'
    by_cases hl : es'.length = n
    · rw [if_pos hl] at w
      obtain ⟨a, vs, e, q, rs⟩ := rp
      exact ⟨a, vs, e, same_t r.sub q, by rw [rs.length, hl], F, ds, es', r, rs, w⟩
    · rw [if_neg hl] at w
      exact False.elim w
  · exact False.elim w
end
def ItOk (Γ : Gm) (F0 : Hp) (J : It) (items : List D) : Prop := ∀ F H, Same F0 F → Same F H →
  (∀ (i : Nat) (d : D), items[i]? = some d → J.go i H ∧ ∀ x H', J.yld i H x H' → ∃ F', Made Γ F H (.fro d) x F' H') ∧ J.stop items.length H
theorem ItOk.mono {Γ : Gm} {F0 F1 : Hp} {J : It} {items : List D} (h : ItOk Γ F0 J items) (s : Same F0 F1) : ItOk Γ F1 J items := fun F H a b => h F H (s.trans a) b
abbrev IF := DS → R (List D × DS)
def tI (Γ : Gm) (W : WX) (f : IF) : TI := fun σ H Rr => ∃ F ds, Rl Γ ds σ H F ∧ (f ds).wp (fun p => ∀ J H' F', Step Γ ds σ H F p.2 σ H' F' → ItOk Γ F' J p.1 → Rr J H') (ErrK Γ W ds σ H F)
def IJ (cm : CT) (X : Cx) (tg e : Expr) (f : IF) : Prop := ∀ W, Takes X W → PI X tg e (tI (gm X cm) W f)
theorem pi_imp {X : Cx} {tg e : Expr} {t t' : TI} (h : PI X tg e t) (q : ∀ σ H Q, t' σ H Q → t σ H Q) : PI X tg e t' := ⟨fun pins s σ H Q I w => h.run pins s σ H Q I (q σ H Q w)⟩
/-- the signs of a text, one by one -/
def signs (s : Str) : List D := s.cps.toList.map fun c => .str ⟨#[c]⟩
def itemsOf : D → R (List D)
  | .lst xs => .ok xs
  | .scr ns => .ok (ns.map .int)
  | .tup xs => .ok xs
  | .str s => .ok (signs s)
  | _ => .stuck
theorem itemsOf_noerr {d : D} : ∀ c ks es ds', itemsOf d ≠ .err c ks es ds' := by
  intro c ks es ds'
  cases d <;> intro h <;> cases h
theorem itok_list {Γ : Gm} {F : Hp} {a : Addr} {vs : List V} {xs : List D} (q : SqL Γ.K F a vs) (r : Reps Γ F xs vs) : ItOk Γ F (Itl Γ.K a) xs := fun F1 H s1 s2 => by
  have q' : SqL Γ.K H a vs := same_l s2 (same_l s1 q)
  refine ⟨fun i d e => ?_, ⟨vs, q', by rw [r.length]; exact Nat.le_refl _⟩⟩
  obtain ⟨v, h1, h2⟩ := r.get e
  refine ⟨⟨vs, v, q', h1⟩, fun x H' ⟨eH, y⟩ => ?_⟩
  subst eH
  have e2 := y vs q'
  rw [h1] at e2; cases e2
  exact ⟨F1, Made.flat s2 (Rep.mono s1 d v h2)⟩
theorem itok_tup {Γ : Gm} {F : Hp} {a : Addr} {vs : List V} {xs : List D} (q : SqT Γ.K F a vs) (r : Reps Γ F xs vs) : ItOk Γ F (Itt Γ.K a) xs := fun F1 H s1 s2 => by
  have q' : SqT Γ.K H a vs := same_t s2 (same_t s1 q)
  refine ⟨fun i d e => ?_, ⟨vs, q', by rw [r.length]; exact Nat.le_refl _⟩⟩
  obtain ⟨v, h1, h2⟩ := r.get e
  refine ⟨⟨vs, v, q', h1⟩, fun x H' ⟨eH, y⟩ => ?_⟩
  subst eH
  have e2 := y vs q'
  rw [h1] at e2; cases e2
  exact ⟨F1, Made.flat s2 (Rep.mono s1 d v h2)⟩
theorem itok_str {Γ : Gm} {F : Hp} {s : Str} : ItOk Γ F (Its s) (signs s) := fun F1 H s1 s2 => by
  refine ⟨fun i d e => ?_, ?_⟩
  · unfold signs at e
    rw [List.getElem?_map] at e
    cases q : s.cps.toList[i]? with
    | none => rw [q] at e; cases e
    | some c =>
      rw [q] at e
      cases e
      have hi : i < s.cps.size := by
        have := (List.getElem?_eq_some_iff.mp q).1
        simpa using this
      refine ⟨hi, fun x H' ⟨eH, c', y1, y2⟩ => ?_⟩
      subst eH
      have : c' = c := by
        have z : s.cps.toList[i]? = s.cps[i]? := by simp
        rw [z, y1] at q; cases q; rfl
      subst this
      exact ⟨F1, Made.flat s2 y2⟩
  · show s.cps.size ≤ (signs s).length
    unfold signs
    simp
theorem reps_ints {Γ : Gm} {F : Hp} : ∀ ns : List Int, Reps Γ F (ns.map .int) (ns.map V.int)
  | [] => rfl
  | n :: r => ⟨.int n, r.map V.int, rfl, rfl, reps_ints r⟩
/-- a list, a tuple or a text, whatever it is -/
def iAny (K : PySem.W.Frag) (te : TE) : TI := fun σ H Rr => te σ H fun x H1 => (∃ a, x = .ref a ∧ (∃ xs, SqL K H1 a xs) ∧ Rr (Itl K a) H1) ∨ (∃ a, x = .ref a ∧ (∃ xs, SqT K H1 a xs) ∧ Rr (Itt K a) H1) ∨ ∃ z, x = .str z ∧ Rr (Its z) H1
theorem pi_any {X : Cx} {tg e : Expr} {te : TE} (he : PE X e te) : PI X tg e (iAny X.K te) := by
  refine ⟨fun pins s σ H R I h => ?_⟩
  refine thn (he.run pins s σ H _ I h) fun v s1 ⟨x, H1, I1, r1, q1⟩ => ?_
  rcases q1 with ⟨a, e, ⟨xs, hq⟩, q⟩ | ⟨a, e, ⟨xs, hq⟩, q⟩ | ⟨z, e, q⟩
  · subst e
    cases r1
    obtain ⟨its, rv, p, hz⟩ := I1.list hq
    refine wpAny_pyIter_list p.isList ?_
    refine ⟨s1.heap.objs.size, [s1.heap.objs.size], _, _, H1, rfl, I1.kept (t' := s1.toks) fun b o e => Heap.get?_push_of_some _ e, turn_list a _, ⟨_, Heap.get?_push_size _ rfl, rfl, rfl⟩, fun b hb => ?_, q⟩
    have e : b = s1.heap.objs.size := by simpa using hb
    subst e
    exact I1.fpOk (Nat.le_refl _) (I1.hok.fresh (Nat.le_refl _))
  · subst e
    cases r1
    obtain ⟨its, rv, p, hz⟩ := I1.tuple hq
    refine wpAny_pyIter_tuple (show s1.heap.IsTuple a its.toArray from p) ?_
    refine ⟨s1.heap.objs.size, [s1.heap.objs.size], _, _, H1, rfl, I1.kept (t' := s1.toks) fun b o e => Heap.get?_push_of_some _ e, turn_tuple a _, ⟨_, Heap.get?_push_size _ rfl, rfl, rfl⟩, fun b hb => ?_, q⟩
    have e : b = s1.heap.objs.size := by simpa using hb
    subst e
    exact I1.fpOk (Nat.le_refl _) (I1.hok.fresh (Nat.le_refl _))
  · subst e
    obtain ⟨t, rfl⟩ := r1
    cases ha : z.cps.all (· < 128)
    · exact wpAny_pyIter_wide ha (pi_one (tk := s1.toks) I1 _ (turn_str _ z t "str_iterator" (.inr rfl)) ⟨_, Heap.get?_push_size _ rfl, rfl, rfl⟩ q)
    · exact wpAny_pyIter_ascii ha (pi_one (tk := s1.toks) I1 _ (turn_str _ z t "str_ascii_iterator" (.inl rfl)) ⟨_, Heap.get?_push_size _ rfl, rfl, rfl⟩ q)
def iE (f : EF) : IF := fun ds => (f ds).bind fun (p : Rv × DS) => (take p.2 p.1).bind fun (q : D × DS) => (itemsOf q.1).bind fun xs => .ok (xs, q.2)
theorem RvOk.noslot {Γ : Gm} {rv : Rv} {v : V} {ds : DS} {σ : St} {H F : Hp} : True := trivial
section
variable {cm : CT} {X : Cx} {tg e : Expr} {fe : EF} {pos : Pos}
theorem ij_e (he : EJ cm X e fe) : IJ cm X tg e (iE fe) := fun W tk => by
  refine pi_imp (pi_any (he W tk)) fun σ H Rr ⟨F, ds, r, w⟩ => ?_
  unfold iE at w
  rw [R.wp_bind] at w
  refine tE_go (Step.refl r) w fun p v H1 F1 w1 s1 ok fr => ?_
  rw [R.wp_bind] at w1
  obtain ⟨q, eq, w1⟩ := R.wp_pure take_noerr w1
  rw [R.wp_bind] at w1
  obtain ⟨xs, ex, w1⟩ := R.wp_pure itemsOf_noerr w1
  obtain ⟨F2, s2, rp, fs, _, _⟩ := take_step s1 ok fr eq
  cases hq : q.1 with
  | lst xs' =>
    rw [hq] at ex rp; cases ex
    obtain ⟨a, vs, e, sq, rs⟩ := rp
    exact .inl ⟨a, e, ⟨vs, SqL.of (s2.rl.sub _ _ sq)⟩, w1 _ H1 F2 s2 (itok_list (SqL.of sq) rs)⟩
  | scr ns =>
    rw [hq] at ex rp; cases ex
    obtain ⟨a, e, sq⟩ := rp
    exact .inl ⟨a, e, ⟨_, same_l s2.rl.sub sq⟩, w1 _ H1 F2 s2 (itok_list sq (reps_ints ns))⟩
  | tup xs' =>
    rw [hq] at ex rp; cases ex
    obtain ⟨a, vs, e, sq, rs⟩ := rp
    exact .inr (.inl ⟨a, e, ⟨vs, same_t s2.rl.sub sq⟩, w1 _ H1 F2 s2 (itok_tup sq rs)⟩)
  | str z =>
    rw [hq] at ex rp; cases ex
    exact .inr (.inr ⟨z, rp, w1 _ H1 F2 s2 itok_str⟩)
  | non => rw [hq] at ex; cases ex
  | bl _ => rw [hq] at ex; cases ex
  | int _ => rw [hq] at ex; cases ex
  | ins _ _ _ => rw [hq] at ex; cases ex
  | cls _ => rw [hq] at ex; cases ex
/-- range(n), range(a, b) -/
def rangeD (lo : Int) (n : Nat) : List D := (List.range n).map fun i => .int (lo + (i : Nat))
theorem itok_range {Γ : Gm} {F : Hp} {lo : Int} {n : Nat} : ItOk Γ F (Itr lo n) (rangeD lo n) := fun F1 H s1 s2 => by
  refine ⟨fun i d e => ?_, by show n ≤ (rangeD lo n).length; unfold rangeD; simp⟩
  unfold rangeD at e
  rw [List.getElem?_map] at e
  by_cases hi : i < n
  · rw [List.getElem?_range hi] at e
    cases e
    refine ⟨hi, fun x H' ⟨eH, y⟩ => ?_⟩
    subst eH
    exact ⟨F1, Made.flat s2 y⟩
  · rw [List.getElem?_eq_none (by simpa using Nat.le_of_not_lt hi)] at e
    cases e
def small (i : Int) : Bool := decide (-1000000000 ≤ i) && decide (i ≤ 1000000000)
def iR1 (f : AF) : IF := fun ds => (f ds).bind fun (p : List Rv × DS) => match p.1 with
  | [.fro (.int j)] => if small j then .ok (rangeD 0 j.toNat, p.2) else .stuck
  | _ => .stuck
def iR2 (f : AF) : IF := fun ds => (f ds).bind fun (p : List Rv × DS) => match p.1 with
  | [.fro (.int i), .fro (.int j)] => if small i && small j then .ok (rangeD i (j - i).toNat, p.2) else .stuck
  | _ => .stuck
theorem small_ok {i : Int} (h : small i = true) : -(2 ^ 62) ≤ i ∧ i < 2 ^ 62 := by
  unfold small at h
  simp only [Bool.and_eq_true, decide_eq_true_eq] at h
  omega
theorem ij_r1 {a : Expr} {fa : AF} {p : Pos} (hg : Gl X "range") (hm : X.mg "range" = none) (ha : AJ cm X [a] fa) (hs : starEach [a] X.env = [(false, eval a X.env)] := by rfl) : IJ cm X tg (.Call (.Name "range" p) [a] [] pos) (iR1 fa) := fun W tk => by
  refine pi_imp (pi_range1 hg hm (ha W tk) hs) fun σ H Rr ⟨F, ds, r, w⟩ => ?_
  unfold iR1 at w
  rw [R.wp_bind] at w
  refine tA_go (Step.refl r) w fun p vs H1 F1 w1 s1 ok fr => ?_
  obtain ⟨rvs, ds1⟩ := p
  dsimp only at w1 s1 ok fr
  split at w1
  · rename_i j
    by_cases hj : small j = true
    · rw [if_pos hj] at w1
      obtain ⟨v, e1, k⟩ := ok.ok 0 _ rfl
      have hl := ok.len
      cases vs with
      | nil => cases e1
      | cons v0 vs =>
        cases vs with
        | nil =>
          simp at e1; subst e1
          cases (show v0 = V.int j from k)
          exact ⟨j, rfl, (small_ok hj).1, (small_ok hj).2, w1 _ H1 F1 s1 itok_range⟩
        | cons _ _ => simp at hl
    · rw [if_neg hj] at w1
      exact False.elim w1
  · exact False.elim w1
theorem ij_r2 {a b : Expr} {fa : AF} {p : Pos} (hg : Gl X "range") (hm : X.mg "range" = none) (ha : AJ cm X [a, b] fa) (hs : starEach [a, b] X.env = [(false, eval a X.env), (false, eval b X.env)] := by rfl) (hs2 : starEach [b] X.env = [(false, eval b X.env)] := by rfl) :
    IJ cm X tg (.Call (.Name "range" p) [a, b] [] pos) (iR2 fa) := fun W tk => by
  refine pi_imp (pi_range2 hg hm (ha W tk) hs hs2) fun σ H Rr ⟨F, ds, r, w⟩ => ?_
  unfold iR2 at w
  rw [R.wp_bind] at w
  refine tA_go (Step.refl r) w fun p vs H1 F1 w1 s1 ok fr => ?_
  obtain ⟨rvs, ds1⟩ := p
  dsimp only at w1 s1 ok fr
  split at w1
  · rename_i i j
    by_cases hj : (small i && small j) = true
    · rw [if_pos hj] at w1
      have hj' : small i = true ∧ small j = true := by simpa using hj
      obtain ⟨v, e1, k⟩ := ok.ok 0 _ rfl
      obtain ⟨v', e2, k'⟩ := ok.ok 1 _ rfl
      have hl := ok.len
      cases vs with
      | nil => cases e1
      | cons v0 vs =>
        cases vs with
        | nil => simp at hl
        | cons v1 vs =>
          cases vs with
          | nil =>
            simp at e1 e2; subst e1; subst e2
            cases (show v0 = V.int i from k)
            cases (show v1 = V.int j from k')
            exact ⟨i, j, rfl, ⟨(small_ok hj'.1).1, (small_ok hj'.1).2, (small_ok hj'.2).1, (small_ok hj'.2).2⟩, w1 _ H1 F1 s1 itok_range⟩
          | cons _ _ => simp at hl
    · rw [if_neg hj] at w1
      exact False.elim w1
  · exact False.elim w1
end
def forGo (g : GF) (body : SF) : List D → DS → Rs
  | [], ds => .nx ds
  | d :: r, ds => match g d ds with
    | .ok ds1 => match body ds1 with
      | .nx ds2 => forGo g body r ds2
      | .ct ds2 => forGo g body r ds2
      | .bk ds2 => .nx ds2
      | .rt rv ds2 => .rt rv ds2
      | .err c ks es ds2 => .err c ks es ds2
      | .stuck => .stuck
    | _ => .stuck
def sFor (it : IF) (g : GF) (body : SF) : SF := fun ds => (it ds).toS fun p => forGo g body p.1 p.2
section
variable {cm : CT} {X : Cx} {tg iter : Expr} {body : List Stmt} {it : IF} {g : GF} {fb : SF} {pos : Pos} {ix : List Nat}
theorem sj_for (hp : PassesOwn (model X.prog X.w) X.A X.env X.xe) (hc : X.calm = true) (hi : IJ cm X tg iter it) (hg : GJ cm X tg ix g) (hb : BJ cm X body fb) (hs : ∀ x, foldedSetIterable iter X.env x = pure x := by intro _; rfl) :
    SJ cm X (.For tg iter body [] pos) (sFor it g fb) := fun W tk => by
  refine ps_imp (ps_for hp hc (hi W tk) hg (hb W tk) hs) fun Dn σ H ⟨F, ds, r, w⟩ => ?_
  unfold sFor at w
  rw [R.toS_wp] at w
  refine ⟨F, ds, r, R.wp_mono w (fun p _ w1 J H1 F1 s1 iok => ?_) ErrS.toK⟩
  obtain ⟨items, ds1⟩ := p
  dsimp only at w1 s1 iok
  refine ⟨fun i m σ' H' => m = items.length - i ∧ i ≤ items.length ∧ ∃ F' ds', Step (gm X cm) ds σ H F ds' σ' H' F' ∧ Same F1 F' ∧ (forGo g fb (items.drop i) ds').wp
      (fun ds' => ∀ σ' H' F', Step (gm X cm) ds σ H F ds' σ' H' F' → Dn.nx σ' H') (fun rv ds' => ∀ v σ' H' F', Step (gm X cm) ds σ H F ds' σ' H' F' → RvOk (gm X cm) rv v ds' σ' H' F' → Fresh rv v H → Dn.rt v H')
      (fun ds' => ∀ σ' H' F', Step (gm X cm) ds σ H F ds' σ' H' F' → Dn.bk σ' H') (fun ds' => ∀ σ' H' F', Step (gm X cm) ds σ H F ds' σ' H' F' → Dn.ct σ' H') (ErrS (gm X cm) W ds σ H F), ⟨_, rfl, Nat.zero_le _, F1, ds1, s1, Same.refl _, w1⟩, ?_⟩
  rintro i m σ2 H2 ⟨rfl, hle, F2, ds2, s2, fs2, w2⟩
  obtain ⟨igo, istop⟩ := iok F2 H2 fs2 s2.rl.sub
  by_cases hi : i < items.length
  · have hd : items.drop i = items[i] :: items.drop (i + 1) := List.drop_eq_getElem_cons hi
    rw [hd] at w2
    obtain ⟨go, yl⟩ := igo i items[i] (List.getElem?_eq_getElem hi)
    refine .inr ⟨go, fun σ' H' => ∃ F' ds', Step (gm X cm) ds σ H F ds' σ' H' F' ∧ Same F1 F' ∧ (forGo g fb (items.drop (i + 1)) ds').wp
      (fun ds' => ∀ σ' H' F', Step (gm X cm) ds σ H F ds' σ' H' F' → Dn.nx σ' H') (fun rv ds' => ∀ v σ' H' F', Step (gm X cm) ds σ H F ds' σ' H' F' → RvOk (gm X cm) rv v ds' σ' H' F' → Fresh rv v H → Dn.rt v H')
      (fun ds' => ∀ σ' H' F', Step (gm X cm) ds σ H F ds' σ' H' F' → Dn.bk σ' H') (fun ds' => ∀ σ' H' F', Step (gm X cm) ds σ H F ds' σ' H' F' → Dn.ct σ' H') (ErrS (gm X cm) W ds σ H F),
      fun σ' H' h => ⟨_, by omega, rfl, hi, h⟩, fun x H3 y => ?_⟩
    obtain ⟨F3, m3⟩ := yl x H3 y
    have s3 := s2.trans (m3.step s2.rl)
    have fs3 : Same F1 F3 := fs2.trans m3.fs
    have w2 : (match g items[i] ds2 with
      | .ok ds1 => match fb ds1 with
        | .nx ds2 => forGo g fb (items.drop (i + 1)) ds2
        | .ct ds2 => forGo g fb (items.drop (i + 1)) ds2
        | .bk ds2 => .nx ds2
        | .rt rv ds2 => .rt rv ds2
        | .err c ks es ds2 => .err c ks es ds2
        | .stuck => .stuck
      | _ => Rs.stuck).wp _ _ _ _ _ := w2
    refine ⟨F3, ds2, items[i], s3.rl, m3.rv, ?_⟩
    cases e : g items[i] ds2 with
    | ok ds3 =>
      simp only [e] at w2
      intro σ4 H4 F4 s4 _
      have s34 := s3.trans s4
      refine ⟨F4, ds3, s4.rl, ?_⟩
      cases e2 : fb ds3 with
      | nx ds5 =>
        simp only [e2] at w2
        intro σ5 H5 F5 s5
        exact ⟨F5, ds5, s34.trans s5, (fs3.trans s4.fs).trans s5.fs, w2⟩
      | ct ds5 =>
        simp only [e2] at w2
        intro σ5 H5 F5 s5
        exact ⟨F5, ds5, s34.trans s5, (fs3.trans s4.fs).trans s5.fs, w2⟩
      | bk ds5 =>
        simp only [e2] at w2
        intro σ5 H5 F5 s5
        exact w2 σ5 H5 F5 (s34.trans s5)
      | rt rv ds5 =>
        simp only [e2] at w2
        intro v σ5 H5 F5 s5 ok fr
        exact w2 v σ5 H5 F5 (s34.trans s5) ok (fr.back s34)
      | err c ks es ds5 =>
        simp only [e2] at w2
        exact ErrS.from s34 c ks es ds5 w2
      | stuck =>
        simp only [e2] at w2
        exact w2
    | err _ _ _ _ => simp only [e] at w2; exact w2.elim
    | stuck => simp only [e] at w2; exact w2.elim
  · have e : i = items.length := by omega
    subst e
    rw [List.drop_length] at w2
    exact .inl ⟨istop, w2 σ2 H2 F2 s2⟩
end
def whileGo (t : TF) (body : SF) : Nat → DS → Rs
  | 0, _ => .stuck
  | n + 1, ds => match t ds with
    | .ok (true, ds1) => match body ds1 with
      | .nx ds2 => whileGo t body n ds2
      | .ct ds2 => whileGo t body n ds2
      | .bk ds2 => .nx ds2
      | .rt rv ds2 => .rt rv ds2
      | .err c ks es ds2 => .err c ks es ds2
      | .stuck => .stuck
    | .ok (false, ds1) => .nx ds1
    | .err c ks es ds1 => .err c ks es ds1
    | .stuck => .stuck
def turns : Nat := 100000000
def sWhile (t : TF) (body : SF) : SF := fun ds => whileGo t body turns ds
section
variable {cm : CT} {X : Cx} {c : Expr} {body : List Stmt} {t : TF} {fb : SF} {pos : Pos}
theorem sj_while (hp : PassesOwn (model X.prog X.w) X.A X.env X.xe) (hc : TJ cm X c t) (hb : BJ cm X body fb) : SJ cm X (.While c body [] pos) (sWhile t fb) := fun W tk => by
  refine ps_imp (ps_while hp (hc W tk) (hb W tk)) fun Dn σ H ⟨F, ds, r, w⟩ => ?_
  unfold sWhile at w
  refine ⟨fun m σ' H' => ∃ F' ds', Step (gm X cm) ds σ H F ds' σ' H' F' ∧ (whileGo t fb m ds').wp
      (fun ds' => ∀ σ' H' F', Step (gm X cm) ds σ H F ds' σ' H' F' → Dn.nx σ' H') (fun rv ds' => ∀ v σ' H' F', Step (gm X cm) ds σ H F ds' σ' H' F' → RvOk (gm X cm) rv v ds' σ' H' F' → Fresh rv v H → Dn.rt v H')
      (fun ds' => ∀ σ' H' F', Step (gm X cm) ds σ H F ds' σ' H' F' → Dn.bk σ' H') (fun ds' => ∀ σ' H' F', Step (gm X cm) ds σ H F ds' σ' H' F' → Dn.ct σ' H') (ErrS (gm X cm) W ds σ H F), ⟨turns, F, ds, Step.refl r, w⟩, ?_⟩
  rintro m σ1 H1 ⟨F1, ds1, s1, w1⟩
  cases m with
  | zero => exact False.elim w1
  | succ m =>
    refine ⟨F1, ds1, s1.rl, ?_⟩
    unfold whileGo at w1
    cases e : t ds1 with
    | ok p =>
      obtain ⟨b, ds2⟩ := p
      rw [e] at w1
      intro H2 F2 s2
      have s12 := s1.trans s2
      cases b with
      | false =>
        show (if false = true then _ else Dn.nx σ1 H2)
        rw [if_neg Bool.false_ne_true]
        exact w1 σ1 H2 F2 s12
      | true =>
        show (if true = true then _ else Dn.nx σ1 H2)
        rw [if_pos rfl]
        dsimp only at w1
        refine ⟨fun σ' H' => ∃ F' ds', Step (gm X cm) ds σ H F ds' σ' H' F' ∧ (whileGo t fb m ds').wp
          (fun ds' => ∀ σ' H' F', Step (gm X cm) ds σ H F ds' σ' H' F' → Dn.nx σ' H') (fun rv ds' => ∀ v σ' H' F', Step (gm X cm) ds σ H F ds' σ' H' F' → RvOk (gm X cm) rv v ds' σ' H' F' → Fresh rv v H → Dn.rt v H')
          (fun ds' => ∀ σ' H' F', Step (gm X cm) ds σ H F ds' σ' H' F' → Dn.bk σ' H') (fun ds' => ∀ σ' H' F', Step (gm X cm) ds σ H F ds' σ' H' F' → Dn.ct σ' H') (ErrS (gm X cm) W ds σ H F), fun σ' H' h => ⟨m, Nat.lt_succ_self m, h⟩, F2, ds2, s2.rl, ?_⟩
        cases e2 : fb ds2 with
        | nx ds3 =>
          simp only [e2] at w1
          intro σ3 H3 F3 s3
          exact ⟨F3, ds3, s12.trans s3, w1⟩
        | ct ds3 =>
          simp only [e2] at w1
          intro σ3 H3 F3 s3
          exact ⟨F3, ds3, s12.trans s3, w1⟩
        | bk ds3 =>
          simp only [e2] at w1
          intro σ3 H3 F3 s3
          exact w1 σ3 H3 F3 (s12.trans s3)
        | rt rv ds3 =>
          simp only [e2] at w1
          intro v σ3 H3 F3 s3 ok fr
          exact w1 v σ3 H3 F3 (s12.trans s3) ok (fr.back s12)
        | err c ks es ds3 =>
          simp only [e2] at w1
          exact ErrS.from s12 c ks es ds3 w1
        | stuck =>
          simp only [e2] at w1
          exact w1
    | err c ks es ds2 => rw [e] at w1; exact ErrS.toK c ks es ds2 (ErrS.from s1 c ks es ds2 w1)
    | stuck => rw [e] at w1; exact w1
end
def wipeD (ds : DS) : List Nat → DS
  | [] => ds
  | v :: vs => (wipeD ds vs).set v .no
def restore (ds o : DS) : List Nat → DS
  | [] => ds
  | v :: vs => (restore ds o vs).set v (o.getD v .no)
def compOk (ds : DS) (vs : List Nat) : Bool := vs.all fun i => match ds[i]? with
  | some Sl.no => true
  | some (Sl.fro _) => true
  | _ => false
def noE {α : Type} (x : R α) : R α := match x with
  | .ok a => .ok a
  | _ => .stuck
def lcGo (vs : List Nat) (g : GF) (t : TF) (elt : EF) : List D → DS → List D → R (List D × DS)
  | [], ds, acc => .ok (acc, ds)
  | d :: r, ds, acc => (noE (g d (wipeD ds vs))).bind fun ds1 => (noE (t ds1)).bind fun (p : Bool × DS) => if p.1 then
      (noE (elt p.2)).bind fun (q : Rv × DS) => (take q.2 q.1).bind fun (z : D × DS) => if acc.length ≤ cap then lcGo vs g t elt r (restore z.2 ds vs) (acc ++ [z.1]) else .stuck
    else lcGo vs g t elt r (restore p.2 ds vs) acc
def eLc (vs : List Nat) (it : IF) (g : GF) (t : TF) (elt : EF) : EF := fun ds => (it ds).bind fun (p : List D × DS) => if compOk p.2 vs then (lcGo vs g t elt p.1 p.2 []).bind fun (q : List D × DS) => .ok (.own (.lst q.1), q.2) else .stuck
theorem wipe_get {σ : St} {j : Nat} : ∀ {vs : List Nat}, (wipe σ vs)[j]? = if j ∈ vs ∧ j < σ.length then some none else σ[j]?
  | [] => by simp [wipe]
  | v :: vs => by
    unfold wipe
    by_cases e : v = j
    · subst e
      by_cases h : v < σ.length
      · rw [List.getElem?_set_self (by rw [wipe_length]; exact h), if_pos ⟨List.mem_cons_self, h⟩]
      · rw [if_neg fun z => h z.2, List.getElem?_eq_none (by rw [List.length_set, wipe_length]; omega), List.getElem?_eq_none (by omega)]
    · rw [List.getElem?_set_ne e, wipe_get]
      have : (j ∈ v :: vs) ↔ j ∈ vs := by simp [Ne.symm e]
      simp only [this]
theorem wipeD_len {ds : DS} : ∀ {vs : List Nat}, (wipeD ds vs).length = ds.length
  | [] => rfl
  | v :: vs => by unfold wipeD; rw [List.length_set, wipeD_len]
theorem wipeD_get {ds : DS} {j : Nat} : ∀ {vs : List Nat}, (wipeD ds vs)[j]? = if j ∈ vs ∧ j < ds.length then some Sl.no else ds[j]?
  | [] => by simp [wipeD]
  | v :: vs => by
    unfold wipeD
    by_cases e : v = j
    · subst e
      by_cases h : v < ds.length
      · rw [List.getElem?_set_self (by rw [wipeD_len]; exact h), if_pos ⟨List.mem_cons_self, h⟩]
      · rw [if_neg fun z => h z.2, List.getElem?_eq_none (by rw [List.length_set, wipeD_len]; omega), List.getElem?_eq_none (by omega)]
    · rw [List.getElem?_set_ne e, wipeD_get]
      have : (j ∈ v :: vs) ↔ j ∈ vs := by simp [Ne.symm e]
      simp only [this]
theorem restore_len {ds o : DS} : ∀ {vs : List Nat}, (restore ds o vs).length = ds.length
  | [] => rfl
  | v :: vs => by unfold restore; rw [List.length_set, restore_len]
theorem restore_get {ds o : DS} {j : Nat} (hl : o.length = ds.length) : ∀ {vs : List Nat}, (restore ds o vs)[j]? = if j ∈ vs then o[j]? else ds[j]?
  | [] => by simp [restore]
  | v :: vs => by
    unfold restore
    by_cases e : v = j
    · subst e
      rw [if_pos List.mem_cons_self]
      by_cases h : v < ds.length
      · rw [List.getElem?_set_self (by rw [restore_len]; exact h), List.getElem?_eq_getElem (by omega), List.getD_eq_getElem?_getD, List.getElem?_eq_getElem (by omega)]
        rfl
      · rw [List.getElem?_eq_none (by rw [List.length_set, restore_len]; omega), List.getElem?_eq_none (by omega)]
    · rw [List.getElem?_set_ne e, restore_get hl]
      have : (j ∈ v :: vs) ↔ j ∈ vs := by simp [Ne.symm e]
      simp only [this]
theorem compOk_get {ds : DS} {vs : List Nat} {j : Nat} (h : compOk ds vs = true) (hj : j ∈ vs) : ds[j]? = some Sl.no ∨ ∃ d, ds[j]? = some (Sl.fro d) := by
  unfold compOk at h
  have := List.all_eq_true.mp h j hj
  split at this
  · rename_i q; exact .inl q
  · rename_i d q; exact .inr ⟨d, q⟩
  · cases this
section
variable {Γ : Gm} {ds0 ds ds4 : DS} {σ0 σ σ2 : St} {H0 F0 H F H4 F4 : Hp} {vs : List Nat}
theorem not_mine {j : Nat} {e : D} (h : compOk ds vs = true) (m : Mine ds j e) : j ∉ vs := fun hj => by
  rcases compOk_get h hj with q | ⟨d, q⟩ <;> rcases m with m | m <;> rw [q] at m <;> cases m
theorem wipe_step (r : Rl Γ ds σ H F) (h : compOk ds vs = true) : Step Γ ds σ H F (wipeD ds vs) (wipe σ vs) H F := by
  have get : ∀ {j : Nat} {s : Sl}, s ≠ .no → (wipeD ds vs)[j]? = some s → j ∉ vs ∧ ds[j]? = some s := fun {j s} hs q => by
    rw [wipeD_get] at q
    split at q
    · cases q; exact absurd rfl hs
    · rename_i z
      refine ⟨fun hj => z ⟨hj, (List.getElem?_eq_some_iff.mp q).1⟩, q⟩
  have sg : ∀ {j : Nat}, j ∉ vs → (wipe σ vs)[j]? = σ[j]? := fun {j} hj => by rw [wipe_get, if_neg fun z => hj z.1]
  have mine : ∀ {j : Nat} {e : D}, Mine (wipeD ds vs) j e → j ∉ vs ∧ Mine ds j e := fun {j e} m => by
    rcases m with m | m
    · obtain ⟨a, b⟩ := get (by intro z; cases z) m; exact ⟨a, .inl b⟩
    · obtain ⟨a, b⟩ := get (by intro z; cases z) m; exact ⟨a, .inr b⟩
  refine ⟨⟨r.sub, by rw [wipeD_len, wipe_length]; exact r.len, fun j d q => ?_, fun j d m => ?_, fun i j d e a h1 h2 h3 h4 => ?_, r.tb⟩, Same.refl F, fun _ _ q _ _ => q, fun _ _ q => .inl q, fun b ⟨j, d, m, q⟩ => ?_, fun j d q => ?_, wipeD_len, fun _ o q => ⟨o, q⟩⟩
  · obtain ⟨hj, q'⟩ := get (by intro z; cases z) q
    rw [sg hj]
    exact r.fro j d q'
  · obtain ⟨hj, m'⟩ := mine m
    rw [sg hj]
    exact r.own j d m'
  · obtain ⟨j1, m1⟩ := mine h1
    obtain ⟨j2, m2⟩ := mine h2
    rw [sg j1] at h3
    rw [sg j2] at h4
    exact r.apart i j d e a m1 m2 h3 h4
  · obtain ⟨hj, m'⟩ := mine m
    rw [sg hj] at q
    exact .inl ⟨j, d, m', q⟩
  · have hj : j ∉ vs := not_mine h (.inr q)
    refine ⟨⟨d, by rw [wipeD_get, if_neg fun z => hj z.1]; exact q⟩, sg hj⟩
theorem restore_step (s0 : Step Γ ds0 σ0 H0 F0 ds σ H F) (h : compOk ds vs = true) (s : Step Γ ds σ H F ds4 σ2 H4 F4) (ag : ∀ j : Nat, j ∉ vs → σ2[j]? = σ[j]?) : Step Γ ds0 σ0 H0 F0 (restore ds4 ds vs) σ H4 F4 := by
  have hl : ds.length = ds4.length := s.ln.symm
  have st := s0.trans s
  have mine : ∀ {j : Nat} {e : D}, Mine (restore ds4 ds vs) j e → j ∉ vs ∧ Mine ds4 j e := fun {j e} m => by
    unfold Mine at m
    rw [restore_get hl] at m
    by_cases hj : j ∈ vs
    · rw [if_pos hj] at m
      exact absurd hj (not_mine h m)
    · rw [if_neg hj] at m
      exact ⟨hj, m⟩
  refine ⟨⟨s.rl.sub, by rw [restore_len, ← hl]; exact s0.rl.len, fun j d q => ?_, fun j d m => ?_, fun i j d e a h1 h2 h3 h4 => ?_, s.rl.tb⟩, st.fs, st.keep, st.new, fun b ⟨j, d, m, q⟩ => ?_, fun j d q => ?_, by rw [restore_len]; exact st.ln, st.there⟩
  · rw [restore_get hl] at q
    by_cases hj : j ∈ vs
    · rw [if_pos hj] at q
      obtain ⟨v, h1, h2⟩ := s0.rl.fro j d q
      exact ⟨v, h1, Rep.mono s.fs d v h2⟩
    · rw [if_neg hj] at q
      rw [← ag j hj]
      exact s.rl.fro j d q
  · obtain ⟨hj, m'⟩ := mine m
    rw [← ag j hj]
    exact s.rl.own j d m'
  · obtain ⟨j1, m1⟩ := mine h1
    obtain ⟨j2, m2⟩ := mine h2
    rw [← ag i j1] at h3
    rw [← ag j j2] at h4
    exact s.rl.apart i j d e a m1 m2 h3 h4
  · obtain ⟨hj, m'⟩ := mine m
    rw [← ag j hj] at q
    exact st.ow b ⟨j, d, m', q⟩
  · obtain ⟨⟨d', z⟩, _⟩ := st.bor j d q
    obtain ⟨⟨d1, z1⟩, z2⟩ := s0.bor j d q
    have hj : j ∉ vs := not_mine h (.inr z1)
    exact ⟨⟨d', by rw [restore_get hl, if_neg hj]; exact z⟩, z2⟩
/-- an object of no slot is written, younger than the origin -/
theorem write_new (s : Step Γ ds0 σ0 H0 F0 ds σ H F) {a : Addr} {o o' : HO} (h0 : H0 a = none) (hf : F a = none) (no : ¬ Own ds σ a) (ha : H a = some o) (n1 : Nt o) (n2 : ∀ q, o ≠ LamX.CodeO a q) : Step Γ ds0 σ0 H0 F0 ds σ (upd H a o') F := by
  have r := s.rl
  refine ⟨⟨fun b u q => by rw [upd_ne (fun e => by rw [e, hf] at q; cases q)]; exact r.sub b u q, r.len, r.fro, fun i d m => ?_, r.apart, r.tb.write ha n1 n2⟩, s.fs, fun b u q nt n => by rw [upd_ne (fun e => by rw [e, h0] at q; cases q)]; exact s.keep b u q nt n, s.new, s.ow, s.bor, s.ln, fun b u q => ?_⟩
  · obtain ⟨b, h1, h2, h3⟩ := r.own i d m
    have nb : b ≠ a := by rintro rfl; exact no ⟨i, d, m, h1⟩
    exact ⟨b, h1, h2, h3.mono (Same.refl F) fun o q => by rw [upd_ne nb]; exact q⟩
  · by_cases e : b = a
    · subst e; rw [h0] at q; cases q
    · rw [upd_ne e]; exact s.there b u q
end
def TsJ (cm : CT) (X : Cx) (ifs : List Expr) (t : TF) : Prop := ∀ W, Takes X W → PTs X ifs (tT (gm X cm) W t)
def tTrue : TF := fun ds => .ok (true, ds)
theorem pts_imp {X : Cx} {ifs : List Expr} {t t' : TT} (h : PTs X ifs t) (q : ∀ σ H Q, t' σ H Q → t σ H Q) : PTs X ifs t' := ⟨fun pins s σ H Q I w => h.run pins s σ H Q I (q σ H Q w)⟩
theorem tsj_nil {cm : CT} {X : Cx} : TsJ cm X [] tTrue := fun W tk => pts_imp pts_nil fun σ H Q ⟨F, ds, r, w⟩ => w H F (Step.refl r)
theorem tsj_one {cm : CT} {X : Cx} {c : Expr} {t : TF} (h : TJ cm X c t) : TsJ cm X [c] t := fun W tk => pts_one (h W tk)
abbrev WNo : WX := fun _ _ _ _ => False
theorem takes_no {X : Cx} : Takes X WNo := fun _ _ ⟨_, _, _, _, _, _, _, _, _, _, _, _, _, _, _, _, w⟩ => w.elim
theorem noE_wp {α : Type} {x : R α} {K : α → Prop} {E E' : Nat → List Str → List D → DS → Prop} (h : (noE x).wp K E) : x.wp K E' := by
  cases x with
  | ok a => exact h
  | err c ks es ds => exact h.elim
  | stuck => exact h
section
variable {cm : CT} {X : Cx} {elt tg iter : Expr} {ifs : List Expr} {scope : Scope} {own : List (Str × Nat)} {pos : Pos} {it : IF} {ix : List Nat} {g : GF} {t : TF} {fe : EF}
/-- the reading of a comprehension -/
theorem lc_read {W : WX} {σ : St} {H : Hp} {Q : VK} {vs : List Nat} (hix : ix.all (fun i => decide (i ∈ vs)) = true) (w : tE (gm X cm) W (eLc vs it g t fe) σ H Q) :
    tLc (tI (gm X cm) W it) (tG (gm X cm) ix g) (tT (gm X cm) WNo t) (tE (gm X cm) WNo fe) vs σ H Q := by
  have hix' : ∀ j : Nat, j ∉ vs → j ∉ ix := fun j hj hi => hj (of_decide_eq_true (List.all_eq_true.mp hix j hi))
  obtain ⟨F, ds, r, w⟩ := w
  unfold eLc at w
  rw [R.wp_bind] at w
  refine ⟨F, ds, r, R.wp_mono w (fun p _ w1 J H1 F1 s1 iok => ?_) fun _ _ _ _ z => z⟩
  obtain ⟨items, ds1⟩ := p
  dsimp only at w1 s1 iok
  by_cases hok : compOk ds1 vs = true
  rotate_left
  · rw [if_neg hok] at w1; exact False.elim w1
  rw [if_pos hok] at w1
  rw [R.wp_bind] at w1
  intro L hL
  have hL0 : H L = none := s1.back hL
  have m0 : Made (gm X cm) F1 H1 (.own (.lst [])) (.ref L) F1 (upd H1 L (.lst [])) := Made.own s1.rl.sub hL ⟨[], upd_same, rfl⟩
  have s2 := s1.trans (m0.step s1.rl)
  obtain ⟨_, _, nF, _, nO⟩ := (m0.ok s1.rl : RvOk (gm X cm) (.own (.lst [])) (.ref L) ds1 σ _ F1)
  rename_i eL _
  cases eL
  refine ⟨fun i m H' => m = items.length - i ∧ i ≤ items.length ∧ ∃ F' ds' acc vacc, Step (gm X cm) ds σ H F ds' σ H' F' ∧ Same F1 F' ∧ compOk ds' vs = true ∧ H' L = some (.lst vacc) ∧ Reps (gm X cm) F' acc vacc ∧ F' L = none ∧ ¬ Own ds' σ L ∧
      (lcGo vs g t fe (items.drop i) ds' acc).wp (fun q => ∀ v H' F', Step (gm X cm) ds σ H F q.2 σ H' F' → RvOk (gm X cm) (.own (.lst q.1)) v q.2 σ H' F' → Fresh (.own (.lst q.1)) v H → Q v H') (ErrK (gm X cm) W ds σ H F),
    ⟨_, rfl, Nat.zero_le _, F1, ds1, [], [], s2, Same.refl _, hok, upd_same, rfl, nF, nO, w1⟩, ?_⟩
  rintro i m H2 ⟨rfl, hle, F2, ds2, acc, vacc, s3, fs3, hok2, hL2, racc, nF2, nO2, w2⟩
  obtain ⟨igo, istop⟩ := iok F2 H2 fs3 s3.rl.sub
  by_cases hi : i < items.length
  · have hd : items.drop i = items[i] :: items.drop (i + 1) := List.drop_eq_getElem_cons hi
    rw [hd] at w2
    unfold lcGo at w2
    obtain ⟨go, yl⟩ := igo i items[i] (List.getElem?_eq_getElem hi)
    refine .inr ⟨go, fun H' => ∃ F' ds' acc vacc, Step (gm X cm) ds σ H F ds' σ H' F' ∧ Same F1 F' ∧ compOk ds' vs = true ∧ H' L = some (.lst vacc) ∧ Reps (gm X cm) F' acc vacc ∧ F' L = none ∧ ¬ Own ds' σ L ∧
      (lcGo vs g t fe (items.drop (i + 1)) ds' acc).wp (fun q => ∀ v H' F', Step (gm X cm) ds σ H F q.2 σ H' F' → RvOk (gm X cm) (.own (.lst q.1)) v q.2 σ H' F' → Fresh (.own (.lst q.1)) v H → Q v H') (ErrK (gm X cm) W ds σ H F),
      fun H' h => ⟨_, by omega, rfl, hi, h⟩, fun x H3 y => ?_⟩
    obtain ⟨F3, m3⟩ := yl x H3 y
    have s4 : Step (gm X cm) ds2 σ H2 F2 ds2 σ H3 F3 := m3.step s3.rl
    have s5 : Step (gm X cm) ds2 σ H2 F2 (wipeD ds2 vs) (wipe σ vs) H3 F3 := s4.trans (wipe_step s4.rl hok2)
    rw [R.wp_bind] at w2
    refine ⟨F3, wipeD ds2 vs, items[i], s5.rl, m3.rv, R.wp_mono (noE_wp (E' := fun _ _ _ _ => False) w2) (fun ds4 _ w4 σ4 H3' F4 s6 b6 => ?_) fun _ _ _ _ z => z⟩
    have hlen : σ4.length = σ.length := by
      have h1 := s6.rl.len
      have h2 := s6.ln
      have h3 := s3.rl.len
      rw [wipeD_len] at h2
      omega
    have ag : ∀ j : Nat, j ∉ vs → σ4[j]? = σ[j]? := fun j hj => by rw [b6 j (hix' j hj), wipe_get, if_neg fun z => hj z.1]
    refine ⟨?_, ?_⟩
    · apply List.ext_getElem?
      intro j
      rw [wipe_get, wipe_get, hlen]
      by_cases hj : j ∈ vs
      · by_cases hjl : j < σ.length
        · rw [if_pos ⟨hj, hjl⟩, if_pos ⟨hj, hjl⟩]
        · rw [if_neg fun z => hjl z.2, if_neg fun z => hjl z.2, List.getElem?_eq_none (by omega), List.getElem?_eq_none (by omega)]
      · rw [if_neg fun z => hj z.1, if_neg fun z => hj z.1]
        exact ag j hj
    have s7 := s5.trans s6
    have fs7 : Same F1 F4 := fs3.trans s7.fs
    -- the new list waits
    have wait : ∀ {ds' : DS} {σ' : St} {H' F' : Hp}, Step (gm X cm) ds2 σ H2 F2 ds' σ' H' F' → H' L = some (.lst vacc) ∧ F' L = none ∧ ¬ Own ds' σ' L := fun {ds' σ' H' F'} s => by
      refine ⟨s.keep L _ hL2 (fun ps z => by cases z) nO2, ?_, fun z => ?_⟩
      · cases q : F' L with
        | none => rfl
        | some u =>
          rcases s.new L u q with z | z | z
          · rw [nF2] at z; cases z
          · rw [hL2] at z; cases z
          · exact (nO2 z).elim
      · rcases s.ow L z with y | y
        · exact nO2 y
        · rw [hL2] at y; cases y
    have rest : ∀ {ds' : DS} {H' F' : Hp}, Step (gm X cm) ds2 σ H2 F2 ds' σ4 H' F' → Step (gm X cm) ds σ H F (restore ds' ds2 vs) σ H' F' ∧ compOk (restore ds' ds2 vs) vs = true ∧ ¬ Own (restore ds' ds2 vs) σ L := fun {ds' H' F'} s => by
      refine ⟨restore_step s3 hok2 s ag, ?_, fun z => ?_⟩
      · unfold compOk
        refine List.all_eq_true.mpr fun j hj => ?_
        rw [restore_get s.ln.symm, if_pos hj]
        exact List.all_eq_true.mp hok2 j hj
      · obtain ⟨j, d, m, q⟩ := z
        have hj : j ∉ vs := fun hj => by
          unfold Mine at m
          rw [restore_get s.ln.symm, if_pos hj] at m
          exact not_mine hok2 m hj
        refine (wait s).2.2 ⟨j, d, ?_, by rw [ag j hj]; exact q⟩
        unfold Mine at m ⊢
        rw [restore_get s.ln.symm, if_neg hj] at m
        exact m
    rw [R.wp_bind] at w4
    refine ⟨F4, ds4, s6.rl, R.wp_mono (noE_wp (E' := ErrK (gm X cm) WNo ds4 σ4 H3' F4) w4) (fun p _ w5 H5 F5 s8 => ?_) fun _ _ _ _ z => z⟩
    have s9 := s7.trans s8
    cases eb : p.1 with
    | true =>
      rw [eb] at w5
      rw [if_pos rfl] at w5
      refine iteT ?_
      rw [R.wp_bind] at w5
      refine ⟨F5, p.2, s8.rl, R.wp_mono (noE_wp (E' := ErrK (gm X cm) WNo p.2 σ4 H5 F5) w5) (fun q _ w6 v H6 F6 s10 ok fr => ?_) fun _ _ _ _ z => z⟩
      rw [R.wp_bind] at w6
      obtain ⟨z, ez, w6⟩ := R.wp_pure take_noerr w6
      obtain ⟨F7, s12, rp, fs12, _, _⟩ := take_step (s8.trans s10) ok (fr.back s8) ez
      have s13 := s7.trans s12
      obtain ⟨k1, k2, k3⟩ := wait s13
      obtain ⟨r1, r2, r3⟩ := rest s13
      by_cases hc : acc.length ≤ cap
      · rw [if_pos hc] at w6
        refine ⟨vacc, k1, by rw [racc.length]; exact cap_lt hc, F7, restore z.2 ds2 vs, acc ++ [z.1], vacc ++ [v], write_new r1 hL0 k2 r3 k1 (fun ps z => by cases z) (fun q z => by unfold LamX.CodeO at z; cases z), fs3.trans s13.fs, r2, upd_same, Reps.append (Reps.mono s13.fs _ _ racc) (Reps.cons rp rfl), k2, r3, w6⟩
      · rw [if_neg hc] at w6
        exact False.elim w6
    | false =>
      rw [eb] at w5
      rw [if_neg (by decide)] at w5
      refine iteF ?_
      obtain ⟨r1, r2, r3⟩ := rest s9
      obtain ⟨k1, k2, k3⟩ := wait s9
      exact ⟨F5, restore p.2 ds2 vs, acc, vacc, r1, fs3.trans s9.fs, r2, k1, Reps.mono s9.fs _ _ racc, k2, r3, w5⟩
  · have e : i = items.length := by omega
    subst e
    rw [List.drop_length] at w2
    refine .inl ⟨istop, w2 (.ref L) H2 F2 s3 ⟨L, rfl, nF2, ⟨vacc, hL2, racc⟩, nO2⟩ fun a q => ?_⟩
    cases q; exact hL0
theorem ej_lc (hc : X.calm = true) (hN : X.N.Nodup) (hi : IJ cm X tg iter it) (ok : BlkOk X.N X.env.scope scope own)
    (hg : ∀ (s : Shared) (H : Hp) (C : Addr) (cl : List (Str × Addr)) (fp : List Addr), GJ cm (X.blk s H scope (compEnvC scope cl C X.env) fp) tg ix g) (ht : ∀ (s : Shared) (H : Hp) (C : Addr) (cl : List (Str × Addr)) (fp : List Addr), TsJ cm (X.blk s H scope (compEnvC scope cl C X.env) fp) ifs t)
    (he : ∀ (s : Shared) (H : Hp) (C : Addr) (cl : List (Str × Addr)) (fp : List Addr), EJ cm (X.blk s H scope (compEnvC scope cl C X.env) fp) elt fe) (hix : ix.all (fun i => decide (i ∈ own.map (·.2))) = true := by rfl) (hs : ∀ x, foldedSetIterable iter X.env x = pure x := by intro _; rfl) :
    EJ cm X (.ListComp elt [⟨tg, iter, ifs, 0⟩] scope pos) (eLc (own.map (·.2)) it g t fe) := fun W tk =>
  pe_imp (pe_lc (g := tG (gm X cm) ix g) (tt := tT (gm X cm) WNo t) (te := tE (gm X cm) WNo fe) hc hN (hi W tk) ok hg (fun s H C cl fp => ht s H C cl fp WNo takes_no) (fun s H C cl fp => he s H C cl fp WNo takes_no) hs) fun σ H Q w => lc_read hix w
/-- a store to a name, by its rule -/
theorem sj_asgT {st : Stmt} {i : Nat} {f : EF} {t : WX → TE} (h : ∀ W, Takes X W → PS X st (tAsg (t W) (gName i))) (q : ∀ W σ H Q, tE (gm X cm) W f σ H Q → t W σ H Q) : SJ cm X st (sAsg i f) := fun W tk => by
  refine ps_imp (h W tk) fun D σ H ⟨F, ds, r, w⟩ => ?_
  unfold sAsg at w
  rw [R.toS_wp] at w
  refine q W σ H _ (tE_goS r w fun p v H1 F1 w1 s1 ok fr => ?_)
  rw [R.toS_wp] at w1
  obtain ⟨ds', ed, w1⟩ := R.wp_pure store_noerr w1
  obtain ⟨F2, s2⟩ := store_step s1 (.inr trivial) ok fr ed
  exact w1 _ H1 F2 s2
theorem sj_setLc {i : Nat} {y : Str} {py spos : Pos} (hc : X.calm = true) (hN : X.N.Nodup) (hy : X.N[i]? = some y) (hyl : X.env.scope.names.lookup y = some .local)
    (hsw : swapsWith (.ListComp elt [⟨tg, iter, ifs, 0⟩] scope pos) (some (.Name y py)) spos.line X.env = pure true) (hi : IJ cm X tg iter it) (ok : BlkOk X.N X.env.scope scope own)
    (hg : ∀ (s : Shared) (H : Hp) (C : Addr) (cl : List (Str × Addr)) (fp : List Addr), GJ cm (X.blk s H scope (compEnvC scope cl C X.env) fp) tg ix g) (ht : ∀ (s : Shared) (H : Hp) (C : Addr) (cl : List (Str × Addr)) (fp : List Addr), TsJ cm (X.blk s H scope (compEnvC scope cl C X.env) fp) ifs t)
    (he : ∀ (s : Shared) (H : Hp) (C : Addr) (cl : List (Str × Addr)) (fp : List Addr), EJ cm (X.blk s H scope (compEnvC scope cl C X.env) fp) elt fe) (hix : ix.all (fun i => decide (i ∈ own.map (·.2))) = true := by rfl) (hs : ∀ x, foldedSetIterable iter X.env x = pure x := by intro _; rfl) :
    SJ cm X (.Assign [.Name y py] (.ListComp elt [⟨tg, iter, ifs, 0⟩] scope pos) spos) (sAsg i (eLc (own.map (·.2)) it g t fe)) :=
  sj_asgT (t := fun W => tLc (tI (gm X cm) W it) (tG (gm X cm) ix g) (tT (gm X cm) WNo t) (tE (gm X cm) WNo fe) (own.map (·.2))) (fun W tk => ps_setLc (g := tG (gm X cm) ix g) (tt := tT (gm X cm) WNo t) (te := tE (gm X cm) WNo fe) hc hN hy hyl hsw (hi W tk) ok hg (fun s H C cl fp => ht s H C cl fp WNo takes_no) (fun s H C cl fp => he s H C cl fp WNo takes_no) hs) fun W σ H Q w => lc_read hix w
end
end DL
namespace DL
open PySem PySem.Spec PyProof.Rows L2
section
variable {Γ : Gm} {F H : Hp} {v : V}
theorem pk_int {i : Int} (h : Pk Γ F H (.int i) v) : v = .int i := by
  rcases h with h | ⟨a, _, h⟩
  · exact h
  · exact h.elim
theorem pk_str {s : Str} (h : Pk Γ F H (.str s) v) : v = .str s := by
  rcases h with h | ⟨a, _, h⟩
  · exact h
  · exact h.elim
theorem pk_bl {b : Bool} (h : Pk Γ F H (.bl b) v) : v = .bl b := by
  rcases h with h | ⟨a, _, h⟩
  · exact h
  · exact h.elim
theorem pk_non (h : Pk Γ F H .non v) : v = .non := by
  rcases h with h | ⟨a, _, h⟩
  · exact h
  · exact h.elim
end
/-- integers that * and // take: a bound by powers of two -/
def wideOk (i : Int) : Bool := decide (i.natAbs < 2 ^ 500000)
def okI (i : Int) : R Rv := .ok (.fro (.int i))
def okB (b : Bool) : R Rv := .ok (.fro (.bl b))
def okS (s : Str) : R Rv := if s.length ≤ cap then .ok (.fro (.str s)) else .stuck
def addD (x y : D) : R Rv := match x, y with
  | .int i, .int j => okI (i + j)
  | .str a, .str b => if a.length + b.length ≤ cap then .ok (.fro (.str (a ++ b))) else .stuck
  | .lst a, .lst b => if a.length + b.length ≤ cap then .ok (.own (.lst (a ++ b))) else .stuck
  | .tup a, .tup b => if a.length + b.length ≤ cap then .ok (.fro (.tup (a ++ b))) else .stuck
  | _, _ => .stuck
def subD (x y : D) : R Rv := match x, y with
  | .int i, .int j => okI (i - j)
  | _, _ => .stuck
def mulD (x y : D) : R Rv := match x, y with
  | .int i, .int j => if wideOk i && wideOk j then okI (i * j) else .stuck
  | .lst a, .int k => if decide (0 ≤ k) && decide (k ≤ 1000) && decide (a.length ≤ 1000) then .ok (.own (.lst (List.replicate k.toNat a).flatten)) else .stuck
  | .tup a, .int k => if decide (2 ≤ k) && decide (k ≤ 1000) && decide (a.length ≤ 1000) && !a.isEmpty then .ok (.fro (.tup (List.replicate k.toNat a).flatten)) else .stuck
  | _, _ => .stuck
/-- a divisor below 2 ^ 9000 -/
def divOk (j : Int) : Bool := decide (0 < j) && decide (j ≤ 2 ^ 100)
def fdivD (x y : D) : R Rv := match x, y with
  | .int i, .int j => if divOk j then okI (i / j) else .stuck
  | _, _ => .stuck
def modD (x y : D) : R Rv := match x, y with
  | .int i, .int j => if decide (0 < j) then okI (i % j) else .stuck
  | _, _ => .stuck
def powD (x y : D) : R Rv := match x, y with
  | .int i, .int j => if decide (0 ≤ j) && decide (j ≤ 100) && decide (i.natAbs < 2 ^ 64) then okI (i ^ j.toNat) else .stuck
  | _, _ => .stuck
theorem ne_okI {i : Int} : ∀ c ks es ds, okI i ≠ .err c ks es ds := fun _ _ _ _ h => by cases h
theorem noerr_by {α : Type} {x : R α} (h : (match x with | .err _ _ _ _ => False | _ => True)) : ∀ c ks es ds, x ≠ .err c ks es ds := fun c ks es ds e => by rw [e] at h; exact h
section
variable {cm : CT} {X : Cx}
theorem od_add : OpD (gm X cm) (fun x y H Q => rI0 (fun i j => .int (i + j)) x y H Q ∨ (∃ i j, x = .str i ∧ y = .str j ∧ i.length + j.length ≤ sizeLine ∧ Q (.str (i ++ j)) H) ∨ rCat x y H Q ∨ rCatA X.K x y H Q) addD := by
  refine ⟨fun x y c ks es ds h => ?_, fun F H x y v u rv sub hx hy e => ?_⟩
  · unfold addD at h
    split at h
    · cases h
    all_goals first | (split at h <;> cases h) | cases h
  · unfold addD at e
    split at e
    · cases e
      cases pk_int hx
      cases pk_int hy
      exact Gives.flat sub rfl fun Q q => .inl ⟨_, _, rfl, rfl, q⟩
    · rename_i a b
      by_cases h : a.length + b.length ≤ cap
      · rw [if_pos h] at e
        cases e
        cases pk_str hx
        cases pk_str hy
        exact Gives.flat sub rfl fun Q q => .inr (.inl ⟨_, _, rfl, rfl, cap_le h, q⟩)
      · rw [if_neg h] at e; cases e
    · rename_i a b
      by_cases h : a.length + b.length ≤ cap
      · rw [if_pos h] at e
        cases e
        obtain ⟨l1, vs1, rfl, h1, r1⟩ := hx.list sub
        obtain ⟨l2, vs2, rfl, h2, r2⟩ := hy.list sub
        intro Q q
        refine .inr (.inr (.inl ⟨l1, l2, vs1, vs2, rfl, rfl, h1, h2, by rw [r1.length, r2.length]; exact cap_le h, fun p hp => ?_⟩))
        exact q _ _ _ (Made.own sub hp ⟨_, upd_same, Reps.append r1 r2⟩)
      · rw [if_neg h] at e; cases e
    · rename_i a b
      by_cases h : a.length + b.length ≤ cap
      · rw [if_pos h] at e
        cases e
        have hx' := hx
        have hy' := hy
        obtain ⟨l1, vs1, rfl, h1, r1⟩ := hx.tup sub
        obtain ⟨l2, vs2, rfl, h2, r2⟩ := hy.tup sub
        intro Q q
        refine .inr (.inr (.inr ⟨l1, l2, vs1, vs2, rfl, rfl, h1, h2, by rw [r1.length, r2.length]; exact cap_le h, fun n1 => ?_, fun n1 n2 => ?_, fun n1 n2 p hp => ?_⟩))
        · subst n1
          have : a = [] := List.eq_nil_of_length_eq_zero (by rw [← r1.length]; rfl)
          subst this
          rcases hy' with hy' | ⟨_, _, z⟩
          · exact q _ _ _ (Made.flat sub hy')
          · exact z.elim
        · subst n2
          have : b = [] := List.eq_nil_of_length_eq_zero (by rw [← r2.length]; rfl)
          subst this
          rw [List.append_nil] at q
          rcases hx' with hx' | ⟨_, _, z⟩
          · exact q _ _ _ (Made.flat sub hx')
          · exact z.elim
        · exact q _ _ _ (Made.fro sub hp ⟨p, _, rfl, SqT.of upd_same, Reps.mono (same_fro sub hp) _ _ (Reps.append r1 r2)⟩)
      · rw [if_neg h] at e; cases e
    · cases e
theorem opr_add : OpR X (binaryOp .Add) (fun x y H Q => rI0 (fun i j => .int (i + j)) x y H Q ∨ (∃ i j, x = .str i ∧ y = .str j ∧ i.length + j.length ≤ sizeLine ∧ Q (.str (i ++ j)) H) ∨ rCat x y H Q ∨ rCatA X.K x y H Q) :=
  op_add.or (op_add_str.or (op_cat.or op_catA))
theorem od_int {C : Int → Int → Prop} {g : Int → Int → V} {gD : D → D → R Rv} (hne : NoErr2 gD) (h : ∀ x y rv, gD x y = .ok rv → ∃ i j z, x = .int i ∧ y = .int j ∧ C i j ∧ rv = .fro z ∧ ∀ F, Rep (gm X cm) F z (g i j)) : OpD (gm X cm) (rI C g) gD := by
  refine ⟨hne, fun F H x y v u rv sub hx hy e => ?_⟩
  obtain ⟨i, j, z, rfl, rfl, hc, rfl, hz⟩ := h x y rv e
  cases pk_int hx
  cases pk_int hy
  exact Gives.flat sub (hz F) fun Q q => ⟨_, _, rfl, rfl, hc, q⟩
theorem od_int0 {g : Int → Int → V} {gD : D → D → R Rv} (hne : NoErr2 gD) (h : ∀ x y rv, gD x y = .ok rv → ∃ i j z, x = .int i ∧ y = .int j ∧ rv = .fro z ∧ ∀ F, Rep (gm X cm) F z (g i j)) : OpD (gm X cm) (rI0 g) gD := by
  refine ⟨hne, fun F H x y v u rv sub hx hy e => ?_⟩
  obtain ⟨i, j, z, rfl, rfl, rfl, hz⟩ := h x y rv e
  cases pk_int hx
  cases pk_int hy
  exact Gives.flat sub (hz F) fun Q q => ⟨_, _, rfl, rfl, q⟩
theorem od_sub : OpD (gm X cm) (rI0 fun i j => .int (i - j)) subD := od_int0 (fun x y c ks es ds h => by
    unfold subD at h
    split at h <;> cases h) fun x y rv e => by
  unfold subD at e
  split at e
  · cases e; exact ⟨_, _, _, rfl, rfl, rfl, fun _ => rfl⟩
  · cases e
theorem od_fdiv : OpD (gm X cm) (rI CDivW fun i j => .int (i / j)) fdivD := od_int (fun x y c ks es ds h => by
    unfold fdivD at h
    split at h
    · split at h <;> cases h
    · cases h) fun x y rv e => by
  unfold fdivD at e
  split at e
  · rename_i i j
    by_cases h : divOk j = true
    · rw [if_pos h] at e
      cases e
      unfold divOk at h
      simp only [Bool.and_eq_true, decide_eq_true_eq] at h
      exact ⟨_, _, _, rfl, rfl, wide_div h.1 (b := 101) (by have := h.2; omega) (by decide) (by decide), rfl, fun _ => rfl⟩
    · rw [if_neg h] at e; cases e
  · cases e
theorem od_mod : OpD (gm X cm) (rI (fun _ j => 0 < j) fun i j => .int (i % j)) modD := od_int (fun x y c ks es ds h => by
    unfold modD at h
    split at h
    · split at h <;> cases h
    · cases h) fun x y rv e => by
  unfold modD at e
  split at e
  · rename_i i j
    by_cases h : decide (0 < j) = true
    · rw [if_pos h] at e
      cases e
      exact ⟨_, _, _, rfl, rfl, of_decide_eq_true h, rfl, fun _ => rfl⟩
    · rw [if_neg h] at e; cases e
  · cases e
theorem od_pow : OpD (gm X cm) (rI CPow fun i j => .int (i ^ j.toNat)) powD := od_int (fun x y c ks es ds h => by
    unfold powD at h
    split at h
    · split at h <;> cases h
    · cases h) fun x y rv e => by
  unfold powD at e
  split at e
  · rename_i i j
    by_cases h : (decide (0 ≤ j) && decide (j ≤ 100) && decide (i.natAbs < 2 ^ 64)) = true
    · rw [if_pos h] at e
      cases e
      simp only [Bool.and_eq_true, decide_eq_true_eq] at h
      exact ⟨_, _, _, rfl, rfl, ⟨h.1.1, by have := h.1.2; omega, h.2⟩, rfl, fun _ => rfl⟩
    · rw [if_neg h] at e; cases e
  · cases e
theorem od_mul : OpD (gm X cm) (fun x y H Q => rI CMulW (fun i j => .int (i * j)) x y H Q ∨ rRep x y H Q ∨ rRepT X.K x y H Q) mulD := by
  refine ⟨fun x y c ks es ds h => ?_, fun F H x y v u rv sub hx hy e => ?_⟩
  · unfold mulD at h
    split at h
    all_goals first | (split at h <;> cases h) | cases h
  · unfold mulD at e
    split at e
    · rename_i i j
      by_cases h : (wideOk i && wideOk j) = true
      · rw [if_pos h] at e
        cases e
        cases pk_int hx
        cases pk_int hy
        unfold wideOk at h
        simp only [Bool.and_eq_true, decide_eq_true_eq] at h
        exact Gives.flat sub rfl fun Q q => .inl ⟨_, _, rfl, rfl, wide_mul h.1 h.2 (by decide) (by decide) (by decide), q⟩
      · rw [if_neg h] at e; cases e
    · rename_i a k
      by_cases h : (decide (0 ≤ k) && decide (k ≤ 1000) && decide (a.length ≤ 1000)) = true
      · rw [if_pos h] at e
        cases e
        simp only [Bool.and_eq_true, decide_eq_true_eq] at h
        obtain ⟨l1, vs1, rfl, h1, r1⟩ := hx.list sub
        cases pk_int hy
        intro Q q
        have hl : vs1.length * k.toNat ≤ sizeLine := by
          rw [r1.length, sizeLine_eq]
          have : a.length * k.toNat ≤ 1000 * 1000 := Nat.mul_le_mul h.2 (by omega)
          omega
        refine .inr (.inl ⟨l1, k, vs1, rfl, rfl, h1, by omega, by omega, hl, fun p hp => q _ _ _ (Made.own sub hp ⟨_, upd_same, ?_⟩)⟩)
        generalize k.toNat = n
        induction n with
        | zero => exact Reps.nil
        | succ n ih => rw [List.replicate_succ, List.replicate_succ, List.flatten_cons, List.flatten_cons]; exact Reps.append r1 ih
      · rw [if_neg h] at e; cases e
    · rename_i a k
      by_cases h : (decide (2 ≤ k) && decide (k ≤ 1000) && decide (a.length ≤ 1000) && !a.isEmpty) = true
      · rw [if_pos h] at e
        cases e
        simp only [Bool.and_eq_true, decide_eq_true_eq, Bool.not_eq_true'] at h
        obtain ⟨l1, vs1, rfl, h1, r1⟩ := hx.tup sub
        cases pk_int hy
        intro Q q
        have ne : vs1 ≠ [] := fun z => by
          subst z
          have : a = [] := List.eq_nil_of_length_eq_zero (by rw [← r1.length]; rfl)
          rw [this] at h
          cases h.2
        refine .inr (.inr ⟨l1, k, vs1, rfl, rfl, h1, ne, h.1.1.1, h.1.1.2, by rw [r1.length]; exact h.1.2, fun p hp => q _ _ _ (Made.fro sub hp ⟨p, _, rfl, SqT.of upd_same, Reps.mono (same_fro sub hp) _ _ ?_⟩)⟩)
        generalize k.toNat = n
        induction n with
        | zero => exact Reps.nil
        | succ n ih => rw [List.replicate_succ, List.replicate_succ, List.flatten_cons, List.flatten_cons]; exact Reps.append r1 ih
      · rw [if_neg h] at e; cases e
    · cases e
theorem opr_mul : OpR X (binaryOp .Mult) (fun x y H Q => rI CMulW (fun i j => .int (i * j)) x y H Q ∨ rRep x y H Q ∨ rRepT X.K x y H Q) := op_mulW.or (op_rep.or op_repT)
variable {a b : Expr} {fa fb : EF} {pos : Pos}
theorem ej_add (ha : EJ cm X a fa) (hb : EJ cm X b fb) : EJ cm X (.BinOp a .Add b pos) (e2 addD fa fb) := ej_2 od_add (fun ha hb => pe_op opr_add ha hb) ha hb
theorem ej_sub (ha : EJ cm X a fa) (hb : EJ cm X b fb) : EJ cm X (.BinOp a .Sub b pos) (e2 subD fa fb) := ej_2 od_sub (fun ha hb => pe_op op_sub ha hb) ha hb
theorem ej_mul (ha : EJ cm X a fa) (hb : EJ cm X b fb) : EJ cm X (.BinOp a .Mult b pos) (e2 mulD fa fb) := ej_2 od_mul (fun ha hb => pe_op opr_mul ha hb) ha hb
theorem ej_fdiv (ha : EJ cm X a fa) (hb : EJ cm X b fb) : EJ cm X (.BinOp a .FloorDiv b pos) (e2 fdivD fa fb) := ej_2 od_fdiv (fun ha hb => pe_op op_fdivW ha hb) ha hb
theorem ej_mod (ha : EJ cm X a fa) (hb : EJ cm X b fb) : EJ cm X (.BinOp a .Mod b pos) (e2 modD fa fb) := ej_2 od_mod (fun ha hb => pe_op op_mod ha hb) ha hb
theorem ej_pow (ha : EJ cm X a fa) (hb : EJ cm X b fb) : EJ cm X (.BinOp a .Pow b pos) (e2 powD fa fb) := ej_2 od_pow (fun ha hb => pe_op op_pow ha hb) ha hb
end
mutual
def toPy : D → Option PyData
  | .non => some .none
  | .bl b => some (.bool b)
  | .int i => some (.int i)
  | .str s => some (.str s)
  | .lst xs => (toPys xs).map .list
  | .tup xs => (toPys xs).map .tuple
  | .scr _ => none
  | .ins _ _ _ => none
  | .cls _ => none
def toPys : List D → Option (List PyData)
  | [] => some []
  | d :: r => match toPy d, toPys r with
    | some p, some ps => some (p :: ps)
    | _, _ => none
end
mutual
theorem dp_of {Γ : Gm} {H : Hp} : ∀ {d : D} {p : PyData} {v : V}, toPy d = some p → Rep Γ H d v → Dp Γ.K H v p
  | .non, p, v, e, r => by cases e; cases (show v = .non from r); exact .non
  | .bl b, p, v, e, r => by cases e; cases (show v = .bl b from r); exact .bl b
  | .int i, p, v, e, r => by cases e; cases (show v = .int i from r); exact .int i
  | .str s, p, v, e, r => by cases e; cases (show v = .str s from r); exact .str s
  | .lst xs, p, v, e, r => by
    obtain ⟨a, vs, rfl, h, rs⟩ := r
    have e : (toPys xs).map PyData.list = some p := e
    cases q : toPys xs with
    | none => rw [q] at e; cases e
    | some ps =>
      rw [q] at e
      cases e
      exact .lst (SqL.of h) (dp_all q rs)
  | .tup xs, p, v, e, r => by
    obtain ⟨a, vs, rfl, h, rs⟩ := r
    have e : (toPys xs).map PyData.tuple = some p := e
    cases q : toPys xs with
    | none => rw [q] at e; cases e
    | some ps =>
      rw [q] at e
      cases e
      exact .tup h (dp_all q rs)
  | .scr _, p, v, e, r => by cases e
  | .ins _ _ _, p, v, e, r => by cases e
  | .cls _, p, v, e, r => by cases e
theorem dp_all {Γ : Gm} {H : Hp} : ∀ {ds : List D} {ps : List PyData} {vs : List V}, toPys ds = some ps → Reps Γ H ds vs → DpAll Γ.K H vs ps
  | [], ps, vs, e, r => by cases e; cases (show vs = [] from r); exact .nil
  | d :: ds, ps, vs, e, r => by
    obtain ⟨v, vr, rfl, r1, r2⟩ := r
    unfold toPys at e
    cases q : toPy d with
    | none => rw [q] at e; cases e
    | some p =>
      rw [q] at e
      cases q2 : toPys ds with
      | none => rw [q2] at e; cases e
      | some ps' =>
        rw [q2] at e
        cases e
        exact .cons (dp_of q r1) (dp_all q2 r2)
end
def flatD : D → Option V
  | .non => some .non
  | .bl b => some (.bl b)
  | .int i => some (.int i)
  | .str s => some (.str s)
  | _ => none
theorem pk_flat {Γ : Gm} {F H : Hp} {d : D} {v w : V} (e : flatD d = some w) (h : Pk Γ F H d v) : v = w := by
  cases d <;> cases e
  · exact pk_non h
  · exact pk_bl h
  · exact pk_int h
  · exact pk_str h
def eqD (x y : D) : R Bool := match flatD x, flatD y with
  | some v, some w => if scal v w then .ok (decide (v = w)) else (match toPy x, toPy y with
    | some p, some q => if SeqAt.shaped p && SeqAt.shaped q then .ok (PyData.eqv p q) else .stuck
    | _, _ => .stuck)
  | _, _ => match toPy x, toPy y with
    | some p, some q => if SeqAt.shaped p && SeqAt.shaped q then .ok (PyData.eqv p q) else .stuck
    | _, _ => .stuck
theorem eqD_noerr {x y : D} : ∀ c ks es ds, eqD x y ≠ .err c ks es ds := by
  intro c ks es ds h
  unfold eqD at h
  split at h
  · split at h
    · cases h
    · split at h
      · split at h <;> cases h
      · cases h
  · split at h
    · split at h <;> cases h
    · cases h
theorem eqD_ok {Γ : Gm} {F H : Hp} {x y : D} {v u : V} {b : Bool} (sub : Same F H) (hx : Pk Γ F H x v) (hy : Pk Γ F H y u) (e : eqD x y = .ok b) :
    (scal v u = true ∧ b = decide (v = u)) ∨ ∃ p q, Dp Γ.K H v p ∧ Dp Γ.K H u q ∧ SeqAt.shaped p = true ∧ SeqAt.shaped q = true ∧ b = PyData.eqv p q := by
  have deep : (match toPy x, toPy y with
    | some p, some q => if SeqAt.shaped p && SeqAt.shaped q then R.ok (PyData.eqv p q) else .stuck
    | _, _ => .stuck) = .ok b → ∃ p q, Dp Γ.K H v p ∧ Dp Γ.K H u q ∧ SeqAt.shaped p = true ∧ SeqAt.shaped q = true ∧ b = PyData.eqv p q := fun h => by
    split at h
    · rename_i p q e1 e2
      by_cases hs : (SeqAt.shaped p && SeqAt.shaped q) = true
      · rw [if_pos hs] at h
        cases h
        simp only [Bool.and_eq_true] at hs
        exact ⟨p, q, dp_of e1 (hx.rep sub), dp_of e2 (hy.rep sub), hs.1, hs.2, rfl⟩
      · rw [if_neg hs] at h; cases h
    · cases h
  unfold eqD at e
  split at e
  · rename_i v' u' e1 e2
    cases pk_flat e1 hx
    cases pk_flat e2 hy
    by_cases hs : scal v u = true
    · rw [if_pos hs] at e
      cases e
      exact .inl ⟨hs, rfl⟩
    · rw [if_neg hs] at e
      exact .inr (deep e)
  · exact .inr (deep e)
def eqR (x y : D) : R Rv := (eqD x y).bind fun b => .ok (.fro (.bl b))
def neR (x y : D) : R Rv := (eqD x y).bind fun b => .ok (.fro (.bl !b))
theorem bind_noerr {α β : Type} {x : R α} {f : α → R β} (h : ∀ c ks es ds, x ≠ .err c ks es ds) (h2 : ∀ a c ks es ds, f a ≠ .err c ks es ds) : ∀ c ks es ds, x.bind f ≠ .err c ks es ds := by
  intro c ks es ds e
  cases x with
  | ok a => exact h2 a _ _ _ _ e
  | err c ks es ds => exact h _ _ _ _ rfl
  | stuck => cases e
section
variable {cm : CT} {X : Cx} {a b : Expr} {fa fb : EF} {pos : Pos}
theorem od_eq : OpD (gm X cm) (fun x y H Q => rEq x y H Q ∨ rEqD X.K x y H Q) eqR := by
  refine ⟨fun x y => bind_noerr eqD_noerr fun a c ks es ds h => (by cases h), fun F H x y v u rv sub hx hy e => ?_⟩
  unfold eqR at e
  cases q : eqD x y with
  | ok k =>
    rw [q] at e
    cases e
    rcases eqD_ok sub hx hy q with ⟨h1, rfl⟩ | ⟨p, r, h1, h2, h3, h4, rfl⟩
    · exact Gives.flat sub rfl fun Q z => .inl ⟨h1, z⟩
    · exact Gives.flat sub rfl fun Q z => .inr ⟨p, r, h1, h2, h3, h4, z⟩
  | err _ _ _ _ => rw [q] at e; cases e
  | stuck => rw [q] at e; cases e
theorem od_ne : OpD (gm X cm) (fun x y H Q => rNe x y H Q ∨ rNeD X.K x y H Q) neR := by
  refine ⟨fun x y => bind_noerr eqD_noerr fun a c ks es ds h => (by cases h), fun F H x y v u rv sub hx hy e => ?_⟩
  unfold neR at e
  cases q : eqD x y with
  | ok k =>
    rw [q] at e
    cases e
    rcases eqD_ok sub hx hy q with ⟨h1, rfl⟩ | ⟨p, r, h1, h2, h3, h4, rfl⟩
    · exact Gives.flat sub rfl fun Q z => .inl ⟨h1, z⟩
    · exact Gives.flat sub rfl fun Q z => .inr ⟨p, r, h1, h2, h3, h4, z⟩
  | err _ _ _ _ => rw [q] at e; cases e
  | stuck => rw [q] at e; cases e
theorem ej_cmp {op : CmpOp} {r : R2} {g : D → D → R Rv} (ho : OpR X (compareOp op) r) (od : OpD (gm X cm) r g) (ha : EJ cm X a fa) (hb : EJ cm X b fb) (hm : behindInMarks op b = false) : EJ cm X (.Compare a [op] [b] pos) (e2 g fa fb) :=
  ej_2 od (fun ha hb => pe_cmpR ho ha hb hm) ha hb
/-- a comparison as a test -/
theorem tj_cmp {op : CmpOp} {r : R2} {g : D → D → R Rv} (ho : OpR X (compareOp op) r) (od : OpD (gm X cm) r g) (ha : EJ cm X a fa) (hb : EJ cm X b fb) (hm : behindInMarks op b = false) : TJ cm X (.Compare a [op] [b] pos) (tVal (e2 g fa fb)) := fun W tk => by
  refine pt_imp (pt_cmpR ho (ha W tk) (hb W tk) hm) fun σ H Q ⟨F, ds, r', w⟩ => ?_
  unfold tVal at w
  rw [R.wp_bind] at w
  unfold e2 at w
  rw [R.wp_bind] at w
  refine tE_go (Step.refl r') w fun p va H1 F1 w1 s1 oka _ => ?_
  rw [R.wp_bind] at w1
  refine tE_go s1 w1 fun q vb H2 F2 w2 s2 okb _ => ?_
  have s12 := s1.trans s2
  rw [R.wp_bind] at w2
  obtain ⟨x, ex, w2⟩ := R.wp_pure peek_noerr w2
  rw [R.wp_bind] at w2
  obtain ⟨y, ey, w2⟩ := R.wp_pure peek_noerr w2
  rw [R.wp_bind] at w2
  obtain ⟨rv, er, w2⟩ := R.wp_pure (od.ne x y) w2
  refine od.run F2 H2 x y va vb rv s2.rl.sub (peek_ok s2.rl (oka.stay s2) ex) (peek_ok s2.rl okb ey) er _ fun v F' H' m => ?_
  obtain ⟨z1, z2, z3⟩ := fin_made s12 m
  have w3 : (match rv with | .fro (.bl b) => R.ok (b, q.2) | _ => R.stuck).wp _ _ := w2
  split at w3
  · rename_i b
    exact ⟨b, z2, w3 H' F' z1⟩
  · exact False.elim w3
theorem opr_eq (hu : X.A.units + 64 < cLine) : OpR X (compareOp .Eq) (fun x y H Q => rEq x y H Q ∨ rEqD X.K x y H Q) := op_eq.or (op_eqD hu)
theorem opr_ne (hu : X.A.units + 64 < cLine) : OpR X (compareOp .NotEq) (fun x y H Q => rNe x y H Q ∨ rNeD X.K x y H Q) := op_ne.or (op_neD hu)
theorem ej_eq (hu : X.A.units + 64 < cLine) (ha : EJ cm X a fa) (hb : EJ cm X b fb) : EJ cm X (.Compare a [.Eq] [b] pos) (e2 eqR fa fb) := ej_cmp (opr_eq hu) od_eq ha hb (nomark _)
theorem ej_ne (hu : X.A.units + 64 < cLine) (ha : EJ cm X a fa) (hb : EJ cm X b fb) : EJ cm X (.Compare a [.NotEq] [b] pos) (e2 neR fa fb) := ej_cmp (opr_ne hu) od_ne ha hb (nomark _)
theorem tj_eq (hu : X.A.units + 64 < cLine) (ha : EJ cm X a fa) (hb : EJ cm X b fb) : TJ cm X (.Compare a [.Eq] [b] pos) (tVal (e2 eqR fa fb)) := tj_cmp (opr_eq hu) od_eq ha hb (nomark _)
theorem tj_ne (hu : X.A.units + 64 < cLine) (ha : EJ cm X a fa) (hb : EJ cm X b fb) : TJ cm X (.Compare a [.NotEq] [b] pos) (tVal (e2 neR fa fb)) := tj_cmp (opr_ne hu) od_ne ha hb (nomark _)
def lexD : List D → List D → Option Bool
  | [], [] => some false
  | [], _ :: _ => some true
  | .int _ :: _, [] => some false
  | .int x :: xs, .int y :: ys => if x < y then some true else if y < x then some false else lexD xs ys
  | _, _ => none
end
end DL
namespace DL
open PySem PySem.Spec PyProof.Rows L2
section
variable {X : Cx}
def rOrd (K : PySem.W.Frag) (g : PyData → PyData → Bool) : R2 := fun x y H Q => ∃ p q, Dp K H x p ∧ Dp K H y q ∧ PySem.W.alike p q = true ∧ p ≠ .none ∧ p.depth ≤ 60 ∧ Q (.bl (g p q)) H
theorem op_ltA (hu : X.A.units + 64 < cLine) : OpR X (compareOp .Lt) (rOrd X.K fun p q => PySem.W.dataLt p q) := by
  intro pins s σ H x y v u Q I rx ry ⟨p, q, hp, hq, ha, hn, hd, k⟩
  obtain ⟨as, r1⟩ := Dp.reads I p x v hp rx
  obtain ⟨bs, r2⟩ := Dp.reads I q y u hq ry
  exact PySem.W.lt_data r1 r2 ha hn (by have := Nat.min_le_left p.depth q.depth; omega) ⟨.bl _, H, I, rfl, k⟩
theorem op_gtA (hu : X.A.units + 64 < cLine) : OpR X (compareOp .Gt) (rOrd X.K fun p q => PySem.W.dataLt q p) := by
  intro pins s σ H x y v u Q I rx ry ⟨p, q, hp, hq, ha, hn, hd, k⟩
  obtain ⟨as, r1⟩ := Dp.reads I p x v hp rx
  obtain ⟨bs, r2⟩ := Dp.reads I q y u hq ry
  exact PySem.W.gt_data r1 r2 ha hn (by have := Nat.min_le_left p.depth q.depth; omega) ⟨.bl _, H, I, rfl, k⟩
theorem op_leA (hu : X.A.units + 64 < cLine) : OpR X (compareOp .LtE) (rOrd X.K fun p q => !PySem.W.dataLt q p) := by
  intro pins s σ H x y v u Q I rx ry ⟨p, q, hp, hq, ha, hn, hd, k⟩
  obtain ⟨as, r1⟩ := Dp.reads I p x v hp rx
  obtain ⟨bs, r2⟩ := Dp.reads I q y u hq ry
  exact PySem.W.le_data r1 r2 ha hn (by have := Nat.min_le_left p.depth q.depth; omega) ⟨.bl _, H, I, rfl, k⟩
theorem op_geA (hu : X.A.units + 64 < cLine) : OpR X (compareOp .GtE) (rOrd X.K fun p q => !PySem.W.dataLt p q) := by
  intro pins s σ H x y v u Q I rx ry ⟨p, q, hp, hq, ha, hn, hd, k⟩
  obtain ⟨as, r1⟩ := Dp.reads I p x v hp rx
  obtain ⟨bs, r2⟩ := Dp.reads I q y u hq ry
  exact PySem.W.ge_data r1 r2 ha hn (by have := Nat.min_le_left p.depth q.depth; omega) ⟨.bl _, H, I, rfl, k⟩
end
def isNonP : PyData → Bool
  | .none => true
  | _ => false
/-- one order on data; ints and texts without a detour -/
def ordG (gi : Int → Int → Bool) (gs : Str → Str → Bool) (g : PyData → PyData → Bool) (x y : D) : R Bool := match x, y with
  | .int i, .int j => .ok (gi i j)
  | .str a, .str b => .ok (gs a b)
  | x, y => match toPy x, toPy y with
    | some p, some q => if PySem.W.alike p q && decide (p.depth ≤ 60) && !isNonP p then .ok (g p q) else .stuck
    | _, _ => .stuck
theorem ordG_noerr {gi gs g} {x y : D} : ∀ c ks es ds, ordG gi gs g x y ≠ .err c ks es ds := by
  intro c ks es ds h
  unfold ordG at h
  split at h
  · cases h
  · cases h
  · split at h
    · split at h <;> cases h
    · cases h
def ordR (gi : Int → Int → Bool) (gs : Str → Str → Bool) (g : PyData → PyData → Bool) (x y : D) : R Rv := (ordG gi gs g x y).bind fun b => .ok (.fro (.bl b))
section
variable {cm : CT} {X : Cx} {gi : Int → Int → Bool} {gs : Str → Str → Bool} {g : PyData → PyData → Bool}
abbrev rOrdA (K : PySem.W.Frag) (gi : Int → Int → Bool) (gs : Str → Str → Bool) (g : PyData → PyData → Bool) : R2 := fun x y H Q => rI0 (fun i j => .bl (gi i j)) x y H Q ∨ (∃ a b, x = .str a ∧ y = .str b ∧ Q (.bl (gs a b)) H) ∨ rOrd K g x y H Q
theorem od_ord : OpD (gm X cm) (rOrdA X.K gi gs g) (ordR gi gs g) := by
  refine ⟨fun x y => bind_noerr ordG_noerr fun a c ks es ds h => (by cases h), fun F H x y v u rv sub hx hy e => ?_⟩
  unfold ordR at e
  unfold ordG at e
  split at e
  · cases e
    cases pk_int hx
    cases pk_int hy
    exact Gives.flat sub rfl fun Q q => .inl ⟨_, _, rfl, rfl, q⟩
  · cases e
    cases pk_str hx
    cases pk_str hy
    exact Gives.flat sub rfl fun Q q => .inr (.inl ⟨_, _, rfl, rfl, q⟩)
  · split at e
    · rename_i p q e1 e2
      by_cases hc : (PySem.W.alike p q && decide (p.depth ≤ 60) && !isNonP p) = true
      · rw [if_pos hc] at e
        cases e
        simp only [Bool.and_eq_true, decide_eq_true_eq, Bool.not_eq_true'] at hc
        exact Gives.flat sub rfl fun Q z => .inr (.inr ⟨p, q, dp_of e1 (hx.rep sub), dp_of e2 (hy.rep sub), hc.1.1, fun n => (by rw [n] at hc; exact absurd hc.2 (by decide)), hc.1.2, z⟩)
      · rw [if_neg hc] at e; cases e
    · cases e
def ltR : D → D → R Rv := ordR (fun i j => decide (i < j)) (fun a b => decide (a.cps.toList < b.cps.toList)) (fun p q => PySem.W.dataLt p q)
def gtR : D → D → R Rv := ordR (fun i j => decide (j < i)) (fun a b => decide (b.cps.toList < a.cps.toList)) (fun p q => PySem.W.dataLt q p)
def leR : D → D → R Rv := ordR (fun i j => decide (i ≤ j)) (fun a b => !decide (b.cps.toList < a.cps.toList)) (fun p q => !PySem.W.dataLt q p)
def geR : D → D → R Rv := ordR (fun i j => decide (j ≤ i)) (fun a b => !decide (a.cps.toList < b.cps.toList)) (fun p q => !PySem.W.dataLt p q)
theorem opr_lt (hu : X.A.units + 64 < cLine) : OpR X (compareOp .Lt) (rOrdA X.K (fun i j => decide (i < j)) (fun a b => decide (a.cps.toList < b.cps.toList)) (fun p q => PySem.W.dataLt p q)) := op_lt.or (op_lt_str.or (op_ltA hu))
theorem opr_gt (hu : X.A.units + 64 < cLine) : OpR X (compareOp .Gt) (rOrdA X.K (fun i j => decide (j < i)) (fun a b => decide (b.cps.toList < a.cps.toList)) (fun p q => PySem.W.dataLt q p)) := op_gt.or (op_gt_str.or (op_gtA hu))
theorem opr_le (hu : X.A.units + 64 < cLine) : OpR X (compareOp .LtE) (rOrdA X.K (fun i j => decide (i ≤ j)) (fun a b => !decide (b.cps.toList < a.cps.toList)) (fun p q => !PySem.W.dataLt q p)) := op_le.or (op_le_str.or (op_leA hu))
theorem opr_ge (hu : X.A.units + 64 < cLine) : OpR X (compareOp .GtE) (rOrdA X.K (fun i j => decide (j ≤ i)) (fun a b => !decide (a.cps.toList < b.cps.toList)) (fun p q => !PySem.W.dataLt p q)) := op_ge.or (op_ge_str.or (op_geA hu))
variable {a b : Expr} {fa fb : EF} {pos : Pos}
theorem ej_lt (hu : X.A.units + 64 < cLine) (ha : EJ cm X a fa) (hb : EJ cm X b fb) : EJ cm X (.Compare a [.Lt] [b] pos) (e2 ltR fa fb) := ej_cmp (opr_lt hu) od_ord ha hb (nomark _)
theorem ej_gt (hu : X.A.units + 64 < cLine) (ha : EJ cm X a fa) (hb : EJ cm X b fb) : EJ cm X (.Compare a [.Gt] [b] pos) (e2 gtR fa fb) := ej_cmp (opr_gt hu) od_ord ha hb (nomark _)
theorem ej_le (hu : X.A.units + 64 < cLine) (ha : EJ cm X a fa) (hb : EJ cm X b fb) : EJ cm X (.Compare a [.LtE] [b] pos) (e2 leR fa fb) := ej_cmp (opr_le hu) od_ord ha hb (nomark _)
theorem ej_ge (hu : X.A.units + 64 < cLine) (ha : EJ cm X a fa) (hb : EJ cm X b fb) : EJ cm X (.Compare a [.GtE] [b] pos) (e2 geR fa fb) := ej_cmp (opr_ge hu) od_ord ha hb (nomark _)
theorem tj_lt (hu : X.A.units + 64 < cLine) (ha : EJ cm X a fa) (hb : EJ cm X b fb) : TJ cm X (.Compare a [.Lt] [b] pos) (tVal (e2 ltR fa fb)) := tj_cmp (opr_lt hu) od_ord ha hb (nomark _)
theorem tj_gt (hu : X.A.units + 64 < cLine) (ha : EJ cm X a fa) (hb : EJ cm X b fb) : TJ cm X (.Compare a [.Gt] [b] pos) (tVal (e2 gtR fa fb)) := tj_cmp (opr_gt hu) od_ord ha hb (nomark _)
theorem tj_le (hu : X.A.units + 64 < cLine) (ha : EJ cm X a fa) (hb : EJ cm X b fb) : TJ cm X (.Compare a [.LtE] [b] pos) (tVal (e2 leR fa fb)) := tj_cmp (opr_le hu) od_ord ha hb (nomark _)
theorem tj_ge (hu : X.A.units + 64 < cLine) (ha : EJ cm X a fa) (hb : EJ cm X b fb) : TJ cm X (.Compare a [.GtE] [b] pos) (tVal (e2 geR fa fb)) := tj_cmp (opr_ge hu) od_ord ha hb (nomark _)
def isN (neg : Bool) (x y : D) : R Rv := match y with
  | .non => .ok (.fro (.bl (match x with | .non => !neg | _ => neg)))
  | _ => .stuck
theorem pk_notN {Γ : Gm} {F H : Hp} {d : D} {v : V} (h : Pk Γ F H d v) : (v = .non) ↔ (d = .non) := by
  constructor
  · rintro rfl
    rcases h with h | ⟨a, e, _⟩
    · cases d with
      | non => rfl
      | bl _ => cases h
      | int _ => cases h
      | str _ => cases h
      | cls _ => cases h
      | lst _ => obtain ⟨_, _, e, _⟩ := h; cases e
      | scr _ => obtain ⟨_, e, _⟩ := h; cases e
      | tup _ => obtain ⟨_, _, e, _⟩ := h; cases e
      | ins _ _ _ => obtain ⟨_, _, _, e, _⟩ := h; cases e
    · cases e
  · rintro rfl
    exact pk_non h
theorem od_isN : OpD (gm X cm) (fun x y H Q => y = .non ∧ Q (.bl (decide (x = .non))) H) (isN false) := by
  refine ⟨fun x y c ks es ds h => ?_, fun F H x y v u rv sub hx hy e => ?_⟩
  · unfold isN at h; split at h <;> cases h
  · unfold isN at e
    split at e
    · cases e
      cases pk_non hy
      refine Gives.flat sub (v := .bl (decide (v = .non))) ?_ fun Q q => ⟨rfl, q⟩
      show V.bl _ = V.bl _
      congr 1
      have := pk_notN hx
      by_cases h : x = .non
      · subst h; simp [this.mpr rfl]
      · have h2 : v ≠ .non := fun z => h (this.mp z)
        rw [decide_eq_false h2]
        cases x <;> first | rfl | exact absurd rfl h
    · cases e
theorem od_notN : OpD (gm X cm) (fun x y H Q => y = .non ∧ Q (.bl (!decide (x = .non))) H) (isN true) := by
  refine ⟨fun x y c ks es ds h => ?_, fun F H x y v u rv sub hx hy e => ?_⟩
  · unfold isN at h; split at h <;> cases h
  · unfold isN at e
    split at e
    · cases e
      cases pk_non hy
      refine Gives.flat sub (v := .bl (!decide (v = .non))) ?_ fun Q q => ⟨rfl, q⟩
      show V.bl _ = V.bl _
      congr 1
      have := pk_notN hx
      by_cases h : x = .non
      · subst h; simp [this.mpr rfl]
      · have h2 : v ≠ .non := fun z => h (this.mp z)
        rw [decide_eq_false h2]
        cases x <;> first | rfl | exact absurd rfl h
    · cases e
theorem ej_isN (ha : EJ cm X a fa) (hb : EJ cm X b fb) : EJ cm X (.Compare a [.Is] [b] pos) (e2 (isN false) fa fb) := ej_cmp op_isN od_isN ha hb (nomark _)
theorem ej_notN (ha : EJ cm X a fa) (hb : EJ cm X b fb) : EJ cm X (.Compare a [.IsNot] [b] pos) (e2 (isN true) fa fb) := ej_cmp op_notN od_notN ha hb (nomark _)
theorem tj_isN (ha : EJ cm X a fa) (hb : EJ cm X b fb) : TJ cm X (.Compare a [.Is] [b] pos) (tVal (e2 (isN false) fa fb)) := tj_cmp op_isN od_isN ha hb (nomark _)
theorem tj_notN (ha : EJ cm X a fa) (hb : EJ cm X b fb) : TJ cm X (.Compare a [.IsNot] [b] pos) (tVal (e2 (isN true) fa fb)) := tj_cmp op_notN od_notN ha hb (nomark _)
end
end DL
namespace DL
open PySem PySem.Spec PyProof.Rows L2
section
variable {cm : CT} {X : Cx} {e : Expr} {f : EF}
theorem tVal_tE {Γ : Gm} {W : WX} {σ : St} {H : Hp} {Q : Bool → Hp → Prop} (w : tT Γ W (tVal f) σ H Q) : tE Γ W f σ H fun x H' => ∃ k, x = .bl k ∧ Q k H' := by
  obtain ⟨F, ds, r, w⟩ := w
  unfold tVal at w
  rw [R.wp_bind] at w
  refine tE_go (Step.refl r) w fun p v H1 F1 w1 s1 ok fr => ?_
  obtain ⟨rv, ds1⟩ := p
  dsimp only at w1 s1 ok fr
  split at w1
  · rename_i b
    exact ⟨b, ok, w1 H1 F1 s1⟩
  · exact False.elim w1
theorem ej_by {t : WX → TE} (h : ∀ W, Takes X W → PE X e (t W)) (q : ∀ W σ H Q, tE (gm X cm) W f σ H Q → t W σ H Q) : EJ cm X e f := fun W tk => pe_imp (h W tk) (q W)
theorem tj_by {t : WX → TE} (h : ∀ W, Takes X W → PT X e (tTest (t W))) (q : ∀ W σ H Q, tE (gm X cm) W f σ H Q → t W σ H Q) : TJ cm X e (tVal f) := fun W tk => pt_imp (h W tk) fun σ H Q w => q W σ H _ (tVal_tE w)
end
def flats : List D → Option (List V)
  | [] => some []
  | d :: r => match flatD d, flats r with
    | some v, some vs => some (v :: vs)
    | _, _ => none
theorem flats_ok {Γ : Gm} {F : Hp} : ∀ {ds : List D} {ws vs : List V}, flats ds = some ws → Reps Γ F ds vs → vs = ws ∧ ws.all flatV = true
  | [], ws, vs, e, r => by cases e; cases (show vs = [] from r); exact ⟨rfl, rfl⟩
  | d :: ds, ws, vs, e, r => by
    obtain ⟨v, vr, rfl, r1, r2⟩ := r
    unfold flats at e
    cases q : flatD d with
    | none => rw [q] at e; cases e
    | some w =>
      rw [q] at e
      cases q2 : flats ds with
      | none => rw [q2] at e; cases e
      | some ws' =>
        rw [q2] at e
        cases e
        obtain ⟨rfl, h2⟩ := flats_ok q2 r2
        cases pk_flat q (.inl r1 : Pk Γ F F d v)
        refine ⟨rfl, ?_⟩
        rw [List.all_cons, h2, Bool.and_true]
        cases d <;> cases q <;> rfl
theorem flatD_flat {d : D} {v : V} (h : flatD d = some v) : flatV v = true := by
  cases d <;> cases h <;> rfl
/-- a sign is in a text -/
def signIn (c : Nat) (z : Str) : Bool := decide (c ∈ z.cps.toList)
def inStr (a z : Str) : Bool := if a.cps.size = 1 then signIn (a.cps[0]?.getD 0) z else !(Builtin.Str.occurrences z a 0 z.length 1).isEmpty
def inFlat (x : D) (xs : List D) : Option Bool := match flatD x, flats xs with
  | some v, some vs => some (inV v vs)
  | _, _ => none
def inDeep (x : D) (xs : List D) : Option Bool := match toPy x, toPys xs with
  | some p, some ps => if SeqAt.shaped p && SeqAt.shaped (.list ps) then some (ps.any fun z => PyData.eqv z p) else none
  | _, _ => none
def inD (x y : D) : R Bool := match y with
  | .str z => match x with
    | .str a => .ok (inStr a z)
    | _ => .stuck
  | .tup xs => match inFlat x xs with
    | some b => .ok b
    | none => .stuck
  | .lst xs => match inFlat x xs with
    | some b => .ok b
    | none => match inDeep x xs with
      | some b => .ok b
      | none => .stuck
  | _ => .stuck
theorem inD_noerr {x y : D} : ∀ c ks es ds, inD x y ≠ .err c ks es ds := by
  intro c ks es ds h
  unfold inD at h
  split at h
  · split at h <;> cases h
  · split at h <;> cases h
  · split at h
    · cases h
    · split at h <;> cases h
  · cases h
def inR (neg : Bool) (x y : D) : R Rv := (inD x y).bind fun b => .ok (.fro (.bl (if neg then !b else b)))
section
variable {cm : CT} {X : Cx} {a b c : Expr} {fa fb fc : EF} {pos : Pos}
def rInA (K : PySem.W.Frag) : R2 := fun x y H Q => (∃ (c : Nat) (z : Str), x = .str ⟨#[c]⟩ ∧ y = .str z ∧ Q (.bl (decide (c ∈ z.cps.toList))) H) ∨ (∃ i j, x = .str i ∧ y = .str j ∧ Q (.bl (!(Builtin.Str.occurrences j i 0 j.length 1).isEmpty)) H) ∨ rIn K false x y H Q ∨ rInD K x y H Q
def rNotInA (K : PySem.W.Frag) : R2 := fun x y H Q => (∃ (c : Nat) (z : Str), x = .str ⟨#[c]⟩ ∧ y = .str z ∧ Q (.bl (!decide (c ∈ z.cps.toList))) H) ∨ (∃ i j, x = .str i ∧ y = .str j ∧ Q (.bl (!(!(Builtin.Str.occurrences j i 0 j.length 1).isEmpty))) H) ∨ rIn K true x y H Q ∨ rNotInD K x y H Q
theorem opr_in (hu : X.A.units + 65 < cLine) : OpR X (compareOp .In) (rInA X.K) := op_in_sign.or (op_in_str.or (op_in_seq.or (op_inD hu)))
theorem opr_notIn (hu : X.A.units + 65 < cLine) : OpR X (compareOp .NotIn) (rNotInA X.K) := op_notIn_sign.or (op_notin_str.or (op_notIn_seq.or (op_notInD hu)))
theorem str_one {a : Str} (h : a.cps.size = 1) : a = ⟨#[a.cps[0]?.getD 0]⟩ := by
  obtain ⟨⟨l⟩⟩ := a
  match l, h with
  | [c], _ => rfl
/-- what inD means, by the rules -/
theorem inD_ok {Γ : Gm} {F H : Hp} {x y : D} {v u : V} {b : Bool} (sub : Same F H) (hx : Pk Γ F H x v) (hy : Pk Γ F H y u) (e : inD x y = .ok b) :
    (∃ (c : Nat) (z : Str), v = .str ⟨#[c]⟩ ∧ u = .str z ∧ b = decide (c ∈ z.cps.toList)) ∨ (∃ i j, v = .str i ∧ u = .str j ∧ b = !(Builtin.Str.occurrences j i 0 j.length 1).isEmpty) ∨
    (∃ p xs, u = .ref p ∧ (SqL Γ.K H p xs ∨ SqT Γ.K H p xs) ∧ flatV v = true ∧ xs.all flatV = true ∧ b = inV v xs) ∨
    (∃ d ds, Dp Γ.K H v d ∧ Dp Γ.K H u (.list ds) ∧ SeqAt.shaped d = true ∧ SeqAt.shaped (.list ds) = true ∧ b = ds.any fun z => PyData.eqv z d) := by
  have fl : ∀ {xs : List D}, inFlat x xs = some b → ∃ w ws, flatD x = some w ∧ flats xs = some ws ∧ b = inV w ws := fun {xs} h => by
    unfold inFlat at h
    cases q : flatD x with
    | none => rw [q] at h; cases h
    | some w =>
      rw [q] at h
      cases q2 : flats xs with
      | none => rw [q2] at h; cases h
      | some ws => rw [q2] at h; cases h; exact ⟨w, ws, rfl, rfl, rfl⟩
  unfold inD at e
  split at e
  · rename_i z
    split at e
    · rename_i a
      cases pk_str hx
      cases pk_str hy
      have e : inStr a z = b := by cases e; rfl
      unfold inStr at e
      by_cases h1 : a.cps.size = 1
      · rw [if_pos h1] at e
        exact .inl ⟨_, z, congrArg V.str (str_one h1), rfl, e.symm⟩
      · rw [if_neg h1] at e
        exact .inr (.inl ⟨a, z, rfl, rfl, e.symm⟩)
    · cases e
  · rename_i xs
    split at e
    · rename_i b' q
      cases e
      obtain ⟨w, ws, h1, h2, h3⟩ := fl q
      obtain ⟨p, vs, rfl, hp, hr⟩ := hy.tup sub
      obtain ⟨rfl, h4⟩ := flats_ok h2 hr
      cases pk_flat h1 hx
      exact .inr (.inr (.inl ⟨p, vs, rfl, .inr hp, flatD_flat h1, h4, h3⟩))
    · cases e
  · rename_i xs
    split at e
    · rename_i b' q
      cases e
      obtain ⟨w, ws, h1, h2, h3⟩ := fl q
      obtain ⟨p, vs, rfl, hp, hr⟩ := hy.list sub
      obtain ⟨rfl, h4⟩ := flats_ok h2 hr
      cases pk_flat h1 hx
      exact .inr (.inr (.inl ⟨p, vs, rfl, .inl (SqL.of hp), flatD_flat h1, h4, h3⟩))
    · split at e
      · rename_i b' q
        cases e
        unfold inDeep at q
        split at q
        · rename_i p ps e1 e2
          by_cases hs : (SeqAt.shaped p && SeqAt.shaped (.list ps)) = true
          · rw [if_pos hs] at q
            cases q
            simp only [Bool.and_eq_true] at hs
            refine .inr (.inr (.inr ⟨p, ps, dp_of e1 (hx.rep sub), dp_of (p := .list ps) (d := .lst xs) ?_ (hy.rep sub), hs.1, hs.2, rfl⟩))
            show (toPys xs).map PyData.list = _
            rw [e2]; rfl
          · rw [if_neg hs] at q; cases q
        · cases q
      · cases e
  · cases e
theorem od_in : OpD (gm X cm) (rInA X.K) (inR false) := by
  refine ⟨fun x y => bind_noerr inD_noerr fun a c ks es ds h => (by cases h), fun F H x y v u rv sub hx hy e => ?_⟩
  unfold inR at e
  cases q : inD x y with
  | ok k =>
    rw [q] at e
    cases e
    rcases inD_ok sub hx hy q with ⟨c, z, h1, h2, h3⟩ | ⟨i, j, h1, h2, h3⟩ | ⟨p, xs, h1, h2, h3, h4, h5⟩ | ⟨d, ds, h1, h2, h3, h4, h5⟩
    · exact Gives.flat sub rfl fun Q z' => .inl ⟨c, z, h1, h2, by rw [h3] at z'; exact z'⟩
    · exact Gives.flat sub rfl fun Q z' => .inr (.inl ⟨i, j, h1, h2, by rw [h3] at z'; exact z'⟩)
    · exact Gives.flat sub rfl fun Q z' => .inr (.inr (.inl ⟨p, xs, h1, h2, h3, h4, by rw [h5] at z'; exact z'⟩))
    · exact Gives.flat sub rfl fun Q z' => .inr (.inr (.inr ⟨d, ds, h1, h2, h3, h4, by rw [h5] at z'; exact z'⟩))
  | err _ _ _ _ => rw [q] at e; cases e
  | stuck => rw [q] at e; cases e
theorem od_notIn : OpD (gm X cm) (rNotInA X.K) (inR true) := by
  refine ⟨fun x y => bind_noerr inD_noerr fun a c ks es ds h => (by cases h), fun F H x y v u rv sub hx hy e => ?_⟩
  unfold inR at e
  cases q : inD x y with
  | ok k =>
    rw [q] at e
    cases e
    rcases inD_ok sub hx hy q with ⟨c, z, h1, h2, h3⟩ | ⟨i, j, h1, h2, h3⟩ | ⟨p, xs, h1, h2, h3, h4, h5⟩ | ⟨d, ds, h1, h2, h3, h4, h5⟩
    · exact Gives.flat sub rfl fun Q z' => .inl ⟨c, z, h1, h2, by rw [h3] at z'; exact z'⟩
    · exact Gives.flat sub rfl fun Q z' => .inr (.inl ⟨i, j, h1, h2, by rw [h3] at z'; exact z'⟩)
    · exact Gives.flat sub rfl fun Q z' => .inr (.inr (.inl ⟨p, xs, h1, h2, h3, h4, by rw [h5] at z'; exact z'⟩))
    · exact Gives.flat sub rfl fun Q z' => .inr (.inr (.inr ⟨d, ds, h1, h2, h3, h4, by rw [h5] at z'; exact z'⟩))
  | err _ _ _ _ => rw [q] at e; cases e
  | stuck => rw [q] at e; cases e
theorem ej_in (hu : X.A.units + 65 < cLine) (ha : EJ cm X a fa) (hb : EJ cm X b fb) (hm : behindInMarks .In b = false := by rfl) : EJ cm X (.Compare a [.In] [b] pos) (e2 (inR false) fa fb) := ej_cmp (opr_in hu) od_in ha hb hm
theorem ej_notIn (hu : X.A.units + 65 < cLine) (ha : EJ cm X a fa) (hb : EJ cm X b fb) (hm : behindInMarks .NotIn b = false := by rfl) : EJ cm X (.Compare a [.NotIn] [b] pos) (e2 (inR true) fa fb) := ej_cmp (opr_notIn hu) od_notIn ha hb hm
theorem tj_in (hu : X.A.units + 65 < cLine) (ha : EJ cm X a fa) (hb : EJ cm X b fb) (hm : behindInMarks .In b = false := by rfl) : TJ cm X (.Compare a [.In] [b] pos) (tVal (e2 (inR false) fa fb)) := tj_cmp (opr_in hu) od_in ha hb hm
theorem tj_notIn (hu : X.A.units + 65 < cLine) (ha : EJ cm X a fa) (hb : EJ cm X b fb) (hm : behindInMarks .NotIn b = false := by rfl) : TJ cm X (.Compare a [.NotIn] [b] pos) (tVal (e2 (inR true) fa fb)) := tj_cmp (opr_notIn hu) od_notIn ha hb hm
def asTr (rv : Rv) : R Bool := match rv with
  | .fro (.bl b) => .ok b
  | _ => .stuck
theorem asTr_noerr {rv : Rv} : ∀ c ks es ds, asTr rv ≠ .err c ks es ds := by
  intro c ks es ds h
  unfold asTr at h
  split at h <;> cases h
theorem asTr_ok {rv : Rv} {b : Bool} (h : asTr rv = .ok b) : rv = .fro (.bl b) := by
  unfold asTr at h
  split at h
  · cases h; rfl
  · cases h
def e3 (g g' : D → D → R Rv) (fa fb fc : EF) : EF := fun ds => (fa ds).bind fun (p : Rv × DS) => (fb p.2).bind fun (q : Rv × DS) => (peek q.2 p.1).bind fun x => (peek q.2 q.1).bind fun y => (g x y).bind fun rv => (asTr rv).bind fun k =>
  if k then (fc q.2).bind fun (s : Rv × DS) => (peek s.2 q.1).bind fun y => (peek s.2 s.1).bind fun z => (g' y z).bind fun rv => .ok (rv, s.2) else .ok (.fro (.bl false), q.2)
theorem e3_t {W : WX} {σ : St} {H : Hp} {Q : VK} {g g' : D → D → R Rv} {r r' : R2} (ho : OpD (gm X cm) r g) (ho' : OpD (gm X cm) r' g') (w : tE (gm X cm) W (e3 g g' fa fb fc) σ H Q) :
    tChain r r' (tE (gm X cm) W fa) (tE (gm X cm) W fb) (tE (gm X cm) W fc) σ H Q := by
  obtain ⟨F, ds, r0, w⟩ := w
  unfold e3 at w
  rw [R.wp_bind] at w
  refine tE_go (Step.refl r0) w fun p va H1 F1 w1 s1 oka _ => ?_
  rw [R.wp_bind] at w1
  refine tE_go s1 w1 fun q vb H2 F2 w2 s2 okb _ => ?_
  have s12 := s1.trans s2
  rw [R.wp_bind] at w2
  obtain ⟨x, ex, w2⟩ := R.wp_pure peek_noerr w2
  rw [R.wp_bind] at w2
  obtain ⟨y, ey, w2⟩ := R.wp_pure peek_noerr w2
  rw [R.wp_bind] at w2
  obtain ⟨rv, er, w2⟩ := R.wp_pure (ho.ne x y) w2
  rw [R.wp_bind] at w2
  obtain ⟨k, ek, w3⟩ := R.wp_pure asTr_noerr w2
  clear w2
  cases asTr_ok ek
  refine ho.run F2 H2 x y va vb _ s2.rl.sub (peek_ok s2.rl (oka.stay s2) ex) (peek_ok s2.rl okb ey) er _ fun v F' H' m => ?_
  obtain ⟨z1, z2, z3⟩ := fin_made s12 m
  refine ⟨k, z2, ?_⟩
  cases k with
  | true =>
    rw [if_pos rfl] at w3 ⊢
    rw [R.wp_bind] at w3
    refine tE_go z1 w3 fun s vc H3 F3 w3 s3 okc _ => ?_
    rw [R.wp_bind] at w3
    obtain ⟨y', ey', w3⟩ := R.wp_pure peek_noerr w3
    rw [R.wp_bind] at w3
    obtain ⟨z, ez, w3⟩ := R.wp_pure peek_noerr w3
    rw [R.wp_bind] at w3
    obtain ⟨rv', er', w3⟩ := R.wp_pure (ho'.ne y' z) w3
    refine ho'.run F3 H3 y' z vb vc rv' s3.rl.sub (peek_ok s3.rl ((okb.stay (m.step s12.rl)).stay s3) ey') (peek_ok s3.rl okc ez) er' Q fun v' F'' H'' m' => ?_
    obtain ⟨y1, y2, y3⟩ := fin_made (z1.trans s3) m'
    exact w3 v' H'' F'' y1 y2 y3
  | false =>
    rw [if_neg (by decide)] at w3 ⊢
    exact w3 (.bl false) H' F' z1 rfl trivial
theorem ej_chain {op op' : CmpOp} {g g' : D → D → R Rv} {r r' : R2} (o : OpR X (compareOp op) r) (o' : OpR X (compareOp op') r') (ho : OpD (gm X cm) r g) (ho' : OpD (gm X cm) r' g') (ha : EJ cm X a fa) (hb : EJ cm X b fb) (hc : EJ cm X c fc)
    (hm : lastMarks [op, op'] [b, c] = false := by with_unfolding_all rfl) : EJ cm X (.Compare a [op, op'] [b, c] pos) (e3 g g' fa fb fc) :=
  ej_by (fun W tk => pe_chain o o' (ha W tk) (hb W tk) (hc W tk) hm) fun W σ H Q w => e3_t ho ho' w
theorem tj_chain {op op' : CmpOp} {g g' : D → D → R Rv} {r r' : R2} (o : OpR X (compareOp op) r) (o' : OpR X (compareOp op') r') (ho : OpD (gm X cm) r g) (ho' : OpD (gm X cm) r' g') (ha : EJ cm X a fa) (hb : EJ cm X b fb) (hc : EJ cm X c fc)
    (hm : lastMarks [op, op'] [b, c] = false := by with_unfolding_all rfl) : TJ cm X (.Compare a [op, op'] [b, c] pos) (tVal (e3 g g' fa fb fc)) :=
  tj_by (fun W tk => pt_chain o o' (ha W tk) (hb W tk) (hc W tk) hm) fun W σ H Q w => e3_t ho ho' w
def ixD (x y : D) : R Rv := match y with
  | .int i => match x with
    | .lst xs => match atI xs i with
      | some d => .ok (.fro d)
      | none => .stuck
    | .tup xs => match atI xs i with
      | some d => .ok (.fro d)
      | none => .stuck
    | .scr ns => match atI ns i with
      | some n => .ok (.fro (.int n))
      | none => .stuck
    | .str z => if z.length ≤ cap then match atI z.cps.toList i with
      | some c => .ok (.fro (.str ⟨#[c]⟩))
      | none => .stuck
      else .stuck
    | _ => .stuck
  | _ => .stuck
theorem reps_at {Γ : Gm} {F : Hp} {xs : List D} {vs : List V} {i : Int} {d : D} (h : Reps Γ F xs vs) (e : atI xs i = some d) : ∃ v, atI vs i = some v ∧ Rep Γ F d v := by
  unfold atI at e ⊢
  rw [h.length]
  cases q : ixN xs.length i with
  | none => rw [q] at e; cases e
  | some j =>
    rw [q] at e
    obtain ⟨v, h1, h2⟩ := h.get e
    exact ⟨v, h1, h2⟩
theorem od_ix : OpD (gm X cm) (rIx X.K) ixD := by
  refine ⟨fun x y c ks es ds h => ?_, fun F H x y v u rv sub hx hy e => ?_⟩
  · unfold ixD at h
    split at h
    · split at h
      · split at h <;> cases h
      · split at h <;> cases h
      · split at h <;> cases h
      · split at h
        · split at h <;> cases h
        · cases h
      · cases h
    · cases h
  · unfold ixD at e
    split at e
    · rename_i i
      cases pk_int hy
      split at e
      · rename_i xs
        split at e
        · rename_i d q
          cases e
          obtain ⟨p, vs, rfl, h1, hr⟩ := hx.list sub
          obtain ⟨w, h2, h3⟩ := reps_at hr q
          exact Gives.flat sub h3 fun Q z => .inl ⟨p, vs, i, w, rfl, rfl, SqL.of h1, h2, z⟩
        · cases e
      · rename_i xs
        split at e
        · rename_i d q
          cases e
          obtain ⟨p, vs, rfl, h1, hr⟩ := hx.tup sub
          obtain ⟨w, h2, h3⟩ := reps_at hr q
          exact Gives.flat sub h3 fun Q z => .inr (.inl ⟨p, vs, i, w, rfl, rfl, h1, h2, z⟩)
        · cases e
      · rename_i ns
        split at e
        · rename_i n q
          cases e
          obtain ⟨p, rfl, h1⟩ := hx.scr sub
          refine Gives.flat sub (v := .int n) rfl fun Q z => .inl ⟨p, _, i, .int n, rfl, rfl, h1, ?_, z⟩
          unfold atI at q ⊢
          rw [List.length_map]
          cases q2 : ixN ns.length i with
          | none => rw [q2] at q; cases q
          | some j =>
            rw [q2] at q
            show (ns.map V.int)[j]? = _
            rw [List.getElem?_map, show ns[j]? = some n from q]
            rfl
        · cases e
      · rename_i z
        by_cases hz : z.length ≤ cap
        · rw [if_pos hz] at e
          split at e
          · rename_i c q
            cases e
            cases pk_str hx
            exact Gives.flat sub rfl fun Q k => .inr (.inr ⟨z, i, c, rfl, rfl, cap_le hz, q, k⟩)
          · cases e
        · rw [if_neg hz] at e; cases e
      · cases e
    · cases e
theorem ej_ix (ha : EJ cm X a fa) (hb : EJ cm X b fb) (hs : PlainIx b := by intro _ _; rfl) : EJ cm X (.Subscript a b pos) (e2 ixD fa fb) := ej_2 od_ix (fun ha hb => pe_ix ix_seq ha hb hs) ha hb
abbrev OF := DS → R (Option Int × DS)
def tO (Γ : Gm) (W : WX) (f : OF) : TO := fun σ H Q => ∃ F ds, Rl Γ ds σ H F ∧ (f ds).wp (fun p => ∀ H' F', Step Γ ds σ H F p.2 σ H' F' → Q p.1 H') (ErrK Γ W ds σ H F)
def OJ (cm : CT) (X : Cx) (e : Option Expr) (f : OF) : Prop := ∀ W, Takes X W → PO X e (tO (gm X cm) W f)
theorem po_imp {X : Cx} {e : Option Expr} {t t' : TO} (h : PO X e t) (q : ∀ σ H Q, t' σ H Q → t σ H Q) : PO X e t' := ⟨fun pins s σ H Q I w => h.run pins s σ H Q I (q σ H Q w)⟩
def oNo : OF := fun ds => .ok (none, ds)
def oInt (f : EF) : OF := fun ds => (f ds).bind fun (p : Rv × DS) => match p.1 with
  | .fro (.int i) => .ok (some i, p.2)
  | _ => .stuck
theorem oj_no : OJ cm X none oNo := fun W tk => po_imp po_none fun σ H Q ⟨F, ds, r, w⟩ => w H F (Step.refl r)
theorem oj_int (h : EJ cm X a fa) : OJ cm X (some a) (oInt fa) := fun W tk => po_imp (po_some (h W tk)) fun σ H Q ⟨F, ds, r, w⟩ => by
  unfold oInt at w
  rw [R.wp_bind] at w
  refine tE_go (Step.refl r) w fun p v H1 F1 w1 s1 ok fr => ?_
  obtain ⟨rv, ds1⟩ := p
  dsimp only at w1 s1 ok fr
  split at w1
  · rename_i i
    exact ⟨i, ok, w1 H1 F1 s1⟩
  · exact False.elim w1
def cutD (xs : List D) (lo hi : Option Int) : List D := (xs.drop (HT.sIx xs.length 0 lo)).take (HT.sIx xs.length xs.length hi - HT.sIx xs.length 0 lo)
theorem reps_cut {Γ : Gm} {F : Hp} {xs : List D} {vs : List V} {lo hi : Option Int} (h : Reps Γ F xs vs) : Reps Γ F (cutD xs lo hi) (cutV vs lo hi) := by
  unfold cutD cutV
  rw [h.length]
  exact (h.drop _).take _
def slD (x : D) (lo hi : Option Int) : R Rv := match x with
  | .lst xs => .ok (.own (.lst (cutD xs lo hi)))
  | .tup xs => .ok (.fro (.tup (cutD xs lo hi)))
  | .str z => if z.length ≤ cap then .ok (.fro (.str (cutS z lo hi))) else .stuck
  | _ => .stuck
theorem slD_noerr {x : D} {lo hi : Option Int} : ∀ c ks es ds, slD x lo hi ≠ .err c ks es ds := by
  intro c ks es ds h
  unfold slD at h
  split at h
  · cases h
  · cases h
  · split at h <;> cases h
  · cases h
def rSl (K : PySem.W.Frag) : V → Option Int → Option Int → Hp → VK → Prop := fun x lo hi H Q => rSlL K x lo hi H Q ∨ rSlA K x lo hi H Q ∨ rSlS x lo hi H Q
theorem slr_all : SlR X (rSl X.K) := sl_list.or (sl_tupA.or sl_str)
theorem cut_whole {xs : List D} {lo hi : Option Int} (h1 : HT.sIx xs.length 0 lo = 0) (h2 : HT.sIx xs.length xs.length hi = xs.length) : cutD xs lo hi = xs := by
  unfold cutD
  rw [h1, h2]
  simp
theorem slD_ok {F H : Hp} {x : D} {v : V} {lo hi : Option Int} {rv : Rv} (sub : Same F H) (hx : Pk (gm X cm) F H x v) (e : slD x lo hi = .ok rv) : Gives (gm X cm) F H rv (rSl X.K v lo hi) := by
  unfold slD at e
  split at e
  · rename_i xs
    cases e
    obtain ⟨p, vs, rfl, h1, hr⟩ := hx.list sub
    intro Q q
    exact .inl ⟨p, vs, rfl, SqL.of h1, fun l hl => q _ _ _ (Made.own sub hl ⟨_, upd_same, reps_cut hr⟩)⟩
  · rename_i xs
    cases e
    have hx' := hx
    obtain ⟨p, vs, rfl, h1, hr⟩ := hx.tup sub
    intro Q q
    refine .inr (.inl ⟨p, vs, rfl, h1, fun hw => ?_, fun hw l hl => q _ _ _ (Made.fro sub hl ⟨l, _, rfl, SqT.of upd_same, Reps.mono (same_fro sub hl) _ _ (reps_cut hr)⟩)⟩)
    rw [hr.length] at hw
    rw [cut_whole hw.1 hw.2] at q
    rcases hx' with hx' | ⟨_, _, z⟩
    · exact q _ _ _ (Made.flat sub hx')
    · exact z.elim
  · rename_i z
    by_cases hz : z.length ≤ cap
    · rw [if_pos hz] at e
      cases e
      cases pk_str hx
      exact Gives.flat sub rfl fun Q k => .inr (.inr ⟨z, rfl, cap_le hz, k⟩)
    · rw [if_neg hz] at e; cases e
  · cases e
def eSl (fe : EF) (fl fh : OF) : EF := fun ds => (fe ds).bind fun (p : Rv × DS) => (fl p.2).bind fun (l : Option Int × DS) => (fh l.2).bind fun (h : Option Int × DS) => (peek h.2 p.1).bind fun x => (slD x l.1 h.1).bind fun rv => .ok (rv, h.2)
theorem tO_go {Γ : Gm} {W : WX} {ds0 ds : DS} {σ : St} {H0 F0 H F : Hp} {f : OF} {K : Option Int × DS → Prop} {Q : Option Int → Hp → Prop} (s : Step Γ ds0 σ H0 F0 ds σ H F) (h : (f ds).wp K (ErrK Γ W ds0 σ H0 F0))
    (k : ∀ p H' F', K p → Step Γ ds σ H F p.2 σ H' F' → Q p.1 H') : tO Γ W f σ H Q :=
  ⟨F, ds, s.rl, R.wp_mono h (fun p _ hp H' F' s' => k p H' F' hp s') (ErrK.from s)⟩
theorem ej_sl {lo hi : Option Expr} {fl fh : OF} {p2 : Pos} (ha : EJ cm X a fa) (hl : OJ cm X lo fl) (hh : OJ cm X hi fh) : EJ cm X (.Subscript a (.Slice lo hi none p2) pos) (eSl fa fl fh) := fun W tk => by
  refine pe_imp (pe_slice slr_all (ha W tk) (hl W tk) (hh W tk)) fun σ H Q ⟨F, ds, r, w⟩ => ?_
  unfold eSl at w
  rw [R.wp_bind] at w
  refine tE_go (Step.refl r) w fun p v H1 F1 w1 s1 ok fr => ?_
  rw [R.wp_bind] at w1
  refine tO_go s1 w1 fun l H2 F2 w2 s2 => ?_
  have s12 := s1.trans s2
  rw [R.wp_bind] at w2
  refine tO_go s12 w2 fun h H3 F3 w3 s3 => ?_
  have s13 := s12.trans s3
  rw [R.wp_bind] at w3
  obtain ⟨x, ex, w3⟩ := R.wp_pure peek_noerr w3
  rw [R.wp_bind] at w3
  obtain ⟨rv, er, w3⟩ := R.wp_pure slD_noerr w3
  refine slD_ok s3.rl.sub (peek_ok s3.rl ((ok.stay s2).stay s3) ex) er Q fun v' F' H' m => ?_
  obtain ⟨z1, z2, z3⟩ := fin_made s13 m
  exact w3 v' H' F' z1 z2 z3
end
def put (ds : DS) (i : Nat) (d : D) : DS := match ds[i]? with
  | some (Sl.own _) => ds.set i (Sl.own d)
  | some (Sl.bor _) => ds.set i (Sl.bor d)
  | _ => ds
def mineOf (ds : DS) (i : Nat) : R D := match ds[i]? with
  | some (Sl.own d) => .ok d
  | some (Sl.bor d) => .ok d
  | _ => .stuck
theorem mineOf_noerr {ds : DS} {i : Nat} : ∀ c ks es ds', mineOf ds i ≠ .err c ks es ds' := by
  intro c ks es ds' h
  unfold mineOf at h
  split at h <;> cases h
theorem mineOf_ok {ds : DS} {i : Nat} {d : D} (h : mineOf ds i = .ok d) : Mine ds i d := by
  unfold mineOf at h
  split at h
  · rename_i q; cases h; exact .inl q
  · rename_i q; cases h; exact .inr q
  · cases h
section
variable {Γ : Gm} {ds0 ds : DS} {σ0 σ : St} {H0 F0 H F : Hp} {i : Nat} {a : Addr} {d d' : D} {o o' : HO}
theorem put_mine (m : Mine ds i d) {j : Nat} {e : D} (h : Mine (put ds i d') j e) : (j = i ∧ e = d') ∨ (j ≠ i ∧ Mine ds j e) := by
  by_cases q : j = i
  · subst q
    refine .inl ⟨rfl, ?_⟩
    unfold Mine put at h
    rcases m with m | m
    · rw [m] at h
      dsimp only at h
      rw [List.getElem?_set_self (List.getElem?_eq_some_iff.mp m).1] at h
      rcases h with h | h <;> cases h; rfl
    · rw [m] at h
      dsimp only at h
      rw [List.getElem?_set_self (List.getElem?_eq_some_iff.mp m).1] at h
      rcases h with h | h <;> cases h; rfl
  · refine .inr ⟨q, ?_⟩
    unfold put at h
    rcases m with m | m
    · rw [m] at h
      dsimp only at h
      exact mine_set_ne h q
    · rw [m] at h
      dsimp only at h
      exact mine_set_ne h q
theorem put_get (m : Mine ds i d) {j : Nat} (ne : j ≠ i) : (put ds i d')[j]? = ds[j]? := by
  unfold put
  rcases m with m | m <;> rw [m] <;> dsimp only <;> rw [List.getElem?_set_ne (Ne.symm ne)]
theorem put_at (m : Mine ds i d) : Mine (put ds i d') i d' := by
  unfold put
  rcases m with m | m <;> rw [m] <;> dsimp only
  · exact .inl (List.getElem?_set_self (List.getElem?_eq_some_iff.mp m).1)
  · exact .inr (List.getElem?_set_self (List.getElem?_eq_some_iff.mp m).1)
theorem put_len : (put ds i d').length = ds.length := by
  unfold put
  split <;> first | rw [List.length_set] | rfl
theorem put_bor (m : Mine ds i d) {j : Nat} {e : D} (h : ds[j]? = some (Sl.bor e)) : ∃ e', (put ds i d')[j]? = some (Sl.bor e') := by
  by_cases q : j = i
  · subst q
    refine ⟨d', ?_⟩
    unfold put
    rw [h]
    exact List.getElem?_set_self (List.getElem?_eq_some_iff.mp h).1
  · exact ⟨e, by rw [put_get m q]; exact h⟩
theorem put_fro (m : Mine ds i d) {j : Nat} {e : D} (h : (put ds i d')[j]? = some (Sl.fro e)) : ds[j]? = some (Sl.fro e) := by
  by_cases q : j = i
  · subst q
    rcases put_at (d' := d') m with z | z <;> rw [h] at z <;> cases z
  · rw [put_get m q] at h; exact h
theorem write_mine (s : Step Γ ds0 σ0 H0 F0 ds σ H F) (m : Mine ds i d) (ha : σ[i]? = some (some (.ref a))) (ho : H a = some o) (ob : ObjAt Γ F (upd H a o') a d') : Step Γ ds0 σ0 H0 F0 (put ds i d') σ (upd H a o') F := by
  have r := s.rl
  obtain ⟨a', e1, nF, oldOb⟩ := r.own i d m
  rw [ha] at e1; cases e1
  have hown : Own ds σ a := ⟨i, d, m, ha⟩
  refine ⟨⟨fun b u q => by rw [upd_ne (fun e => by rw [e, nF] at q; cases q)]; exact r.sub b u q, by rw [put_len]; exact r.len, fun j e q => r.fro j e (put_fro m q), fun j e q => ?_, fun j k e e' b h1 h2 h3 h4 => ?_, r.tb.write ho ((oldOb.nt ho).1) ((oldOb.nt ho).2)⟩, s.fs, fun b u q nt n => ?_, s.new, fun b ⟨j, e, q1, q2⟩ => ?_, fun j e q => ?_, by rw [put_len]; exact s.ln, fun b u q => ?_⟩
  · rcases put_mine m q with ⟨rfl, rfl⟩ | ⟨ne, q⟩
    · exact ⟨a, ha, nF, ob⟩
    · obtain ⟨b, h1, h2, h3⟩ := r.own j e q
      have nb : b ≠ a := by rintro rfl; exact ne (r.apart j i e d b q m h1 ha)
      exact ⟨b, h1, h2, h3.mono (Same.refl F) fun o q => by rw [upd_ne nb]; exact q⟩
  · have f : ∀ {j : Nat} {e : D}, Mine (put ds i d') j e → ∃ e', Mine ds j e' := fun {j e} h => by
      rcases put_mine m h with ⟨rfl, rfl⟩ | ⟨_, q⟩
      · exact ⟨d, m⟩
      · exact ⟨e, q⟩
    obtain ⟨e1, m1⟩ := f h1
    obtain ⟨e2, m2⟩ := f h2
    exact r.apart j k e1 e2 b m1 m2 h3 h4
  · have nb : b ≠ a := by
      rintro rfl
      rcases s.ow b hown with z | z
      · exact n z
      · rw [q] at z; cases z
    rw [upd_ne nb]
    exact s.keep b u q nt n
  · rcases put_mine m q1 with ⟨rfl, rfl⟩ | ⟨_, q⟩
    · exact s.ow b ⟨j, d, m, q2⟩
    · exact s.ow b ⟨j, e, q, q2⟩
  · obtain ⟨⟨e', z1⟩, z2⟩ := s.bor j e q
    exact ⟨put_bor m z1, z2⟩
  · by_cases e : b = a
    · subst e; exact ⟨_, upd_same⟩
    · rw [upd_ne e]; exact s.there b u q
end
end DL
namespace DL
open PySem PySem.Spec PyProof.Rows L2
theorem ObjAt.is_lst {Γ : Gm} {F H : Hp} {a : Addr} {xs : List D} (h : ObjAt Γ F H a (.lst xs)) : ∃ vs, H a = some (.lst vs) ∧ Reps Γ F xs vs := h
def lstOf (ds : DS) (i : Nat) : R (List D) := (mineOf ds i).bind fun d => match d with
  | .lst xs => .ok xs
  | _ => .stuck
theorem lstOf_noerr {ds : DS} {i : Nat} : ∀ c ks es ds', lstOf ds i ≠ .err c ks es ds' := bind_noerr mineOf_noerr fun a c ks es ds h => by
  split at h <;> cases h
theorem lstOf_ok {ds : DS} {i : Nat} {xs : List D} (h : lstOf ds i = .ok xs) : Mine ds i (.lst xs) := by
  unfold lstOf at h
  cases e : mineOf ds i with
  | ok d =>
    rw [e] at h
    dsimp only [R.bind] at h
    split at h
    · cases h; exact mineOf_ok e
    · cases h
  | err _ _ _ _ => rw [e] at h; cases h
  | stuck => rw [e] at h; cases h
structure MutD (Γ : Gm) (r : V → List V → Hp → VK → Prop) (g : List D → List D → R (List D × D)) : Prop where
  ne : ∀ xs es c ks fs ds, g xs es ≠ .err c ks fs ds
  run : ∀ (F H : Hp) (xs es ys : List D) (d : D) (vs us : List V) (l : Addr), Same F H → H l = some (.lst vs) → F l = none → Reps Γ F xs vs → Reps Γ F es us → g xs es = .ok (ys, d) → ∀ Q : VK, (∀ ws v, Reps Γ F ys ws → Rep Γ F d v → Q v (upd H l (.lst ws))) → r (.ref l) us H Q
def asSlot : Rv → R Nat
  | .slot i => .ok i
  | _ => .stuck
theorem asSlot_noerr {rv : Rv} : ∀ c ks es ds, asSlot rv ≠ .err c ks es ds := by
  intro c ks es ds h
  unfold asSlot at h
  split at h <;> cases h
theorem asSlot_ok {rv : Rv} {i : Nat} (h : asSlot rv = .ok i) : rv = .slot i := by
  unfold asSlot at h
  split at h
  · cases h; rfl
  · cases h
def eMut (g : List D → List D → R (List D × D)) (fo : EF) (fa : AF) : EF := fun ds => (fo ds).bind fun (p : Rv × DS) => (asSlot p.1).bind fun i => (lstOf p.2 i).bind fun _ => (fa p.2).bind fun (q : List Rv × DS) => (takes q.2 q.1).bind fun (z : List D × DS) =>
  (lstOf z.2 i).bind fun xs => (g xs z.1).bind fun (w : List D × D) => .ok (.fro w.2, put z.2 i (.lst w.1))
section
variable {cm : CT} {X : Cx} {o : Expr} {es : List Expr} {fo : EF} {fa : AF} {r : V → List V → Hp → VK → Prop} {g : List D → List D → R (List D × D)}
theorem mut_t {W : WX} {σ : St} {H : Hp} {Q : VK} (M : MutD (gm X cm) r g) (w : tE (gm X cm) W (eMut g fo fa) σ H Q) : tBM X.K "list" r (tE (gm X cm) W fo) (tA (gm X cm) W fa) σ H Q := by
  obtain ⟨F, ds, r0, w⟩ := w
  unfold eMut at w
  rw [R.wp_bind] at w
  refine tE_go (Step.refl r0) w fun p v H1 F1 w1 s1 ok _ => ?_
  rw [R.wp_bind] at w1
  obtain ⟨i, ei, w2⟩ := R.wp_pure asSlot_noerr w1
  clear w1
  have ok : RvOk (gm X cm) (.slot i) v p.2 σ H1 F1 := by rw [← asSlot_ok ei]; exact ok
  rw [R.wp_bind] at w2
  obtain ⟨xs0, e0, w2⟩ := R.wp_pure lstOf_noerr w2
  obtain ⟨a, ha, nF, ob⟩ := s1.rl.own i _ (lstOf_ok e0)
  rw [show σ[i]? = some (some v) from ok] at ha; cases ha
  obtain ⟨vs0, hv0, _⟩ := ob.is_lst
  refine ⟨.inl ⟨rfl, vs0, SqL.of hv0⟩, ?_⟩
  rw [R.wp_bind] at w2
  refine tA_go s1 w2 fun q us H2 F2 w3 s2 oks frs => ?_
  rw [R.wp_bind] at w3
  obtain ⟨z, ez, w3⟩ := R.wp_pure takes_noerr w3
  rw [R.wp_bind] at w3
  obtain ⟨xs, ex, w3⟩ := R.wp_pure lstOf_noerr w3
  rw [R.wp_bind] at w3
  obtain ⟨y, ey, w3⟩ := R.wp_pure (M.ne xs z.1) w3
  have frs0 : Freshs q.1 us H := fun i d a q1 q2 => s1.back (frs i d a q1 q2)
  obtain ⟨F3, s3, rps, fs⟩ := takes_step (s1.trans s2) oks frs0 ez
  obtain ⟨a', ha', nF', ob'⟩ := s3.rl.own i _ (lstOf_ok ex)
  rw [show σ[i]? = some (some (V.ref a)) from ok] at ha'; cases ha'
  obtain ⟨vs, hv, hr⟩ := ob'.is_lst
  refine M.run F3 H2 xs z.1 y.1 y.2 vs us a s3.rl.sub hv nF' hr rps (by rw [ey]) Q fun ws v' hws hd => ?_
  exact w3 v' _ F3 (write_mine s3 (lstOf_ok ex) ok hv ⟨ws, upd_same, hws⟩) hd trivial
end
def appD (xs es : List D) : R (List D × D) := match es with
  | [d] => if xs.length ≤ cap then .ok (xs ++ [d], .non) else .stuck
  | _ => .stuck
def popD (xs es : List D) : R (List D × D) := match es with
  | [] => match xs[xs.length - 1]? with
    | some d => .ok (xs.dropLast, d)
    | none => .stuck
  | [.int i] => match ixN xs.length i with
    | some j => match xs[j]? with
      | some d => if small i then .ok (xs.eraseIdx j, d) else .stuck
      | none => .stuck
    | none => .stuck
  | _ => .stuck
theorem Reps.dropLast {Γ : Gm} {H : Hp} {ds : List D} {vs : List V} (h : Reps Γ H ds vs) : Reps Γ H ds.dropLast vs.dropLast := by
  rw [List.dropLast_eq_take, List.dropLast_eq_take, h.length]
  exact h.take _
theorem Reps.eraseIdx {Γ : Gm} {H : Hp} : ∀ {ds : List D} {vs : List V} (j : Nat), Reps Γ H ds vs → Reps Γ H (ds.eraseIdx j) (vs.eraseIdx j)
  | [], vs, j, h => by cases (show vs = [] from h); exact Reps.nil
  | d :: ds, vs, 0, h => by
    obtain ⟨v, r, rfl, h1, h2⟩ := h
    exact h2
  | d :: ds, vs, j + 1, h => by
    obtain ⟨v, r, rfl, h1, h2⟩ := h
    exact ⟨v, r.eraseIdx j, rfl, h1, Reps.eraseIdx j h2⟩
section
variable {cm : CT} {X : Cx} {o e : Expr} {es : List Expr} {fo : EF} {fa : AF} {apos cpos : Pos}
theorem md_append : MutD (gm X cm) rAppend appD := by
  refine ⟨fun xs es c ks fs ds h => ?_, fun F H xs es ys d vs us l sub hl nF hr he e Q q => ?_⟩
  · unfold appD at h
    split at h
    · split at h <;> cases h
    · cases h
  · unfold appD at e
    split at e
    · rename_i d0
      by_cases hc : xs.length ≤ cap
      · rw [if_pos hc] at e
        cases e
        obtain ⟨v, vr, rfl, h1, h2⟩ := he
        cases (show vr = [] from h2)
        exact ⟨l, vs, v, rfl, rfl, hl, by rw [hr.length]; exact cap_lt hc, q _ _ (hr.append ⟨v, [], rfl, h1, rfl⟩) rfl⟩
      · rw [if_neg hc] at e; cases e
    · cases e
def rPopA : V → List V → Hp → VK → Prop := fun x vs H Q => rPop x vs H Q ∨ rPopAt x vs H Q
theorem mt_popA : MtM X "list.pop" rPopA := MtR.or (X := X) mt_pop mt_popAt
theorem md_pop : MutD (gm X cm) rPopA popD := by
  refine ⟨fun xs es c ks fs ds h => ?_, fun F H xs es ys d vs us l sub hl nF hr he e Q q => ?_⟩
  · unfold popD at h
    split at h
    · split at h <;> cases h
    · split at h
      · split at h
        · split at h <;> cases h
        · cases h
      · cases h
    · cases h
  · unfold popD at e
    split at e
    · split at e
      · rename_i d0 hd
        cases e
        cases (show us = [] from he)
        obtain ⟨v, h1, h2⟩ := hr.get hd
        rw [← hr.length] at h1
        exact .inl ⟨l, vs, v, rfl, rfl, hl, h1, q _ _ hr.dropLast h2⟩
      · cases e
    · rename_i i
      split at e
      · rename_i j hj
        split at e
        · rename_i d0 hd
          by_cases hs : small i = true
          · rw [if_pos hs] at e
            cases e
            obtain ⟨v, vr, rfl, h1, h2⟩ := he
            cases (show vr = [] from h2)
            cases (show v = V.int i from h1)
            obtain ⟨w, h3, h4⟩ := hr.get hd
            obtain ⟨k1, k2, k3, k4⟩ := ixN_seq hj
            have hs' := small_ok hs
            exact .inr ⟨l, vs, i, j, w, rfl, rfl, hl, by omega, by omega, by rw [hr.length]; exact k1, h3, q _ _ (hr.eraseIdx j) h4⟩
          · rw [if_neg hs] at e; cases e
        · cases e
      · cases e
    · cases e
theorem ej_append (ho : EJ cm X o fo) (ha : AJ cm X [e] fa) (hbase : attributeBase o "append" X.env (eval o X.env) = eval o X.env := by rfl) (hline : (apos.endLine == cpos.line) = true := by rfl) (hs : starEach [e] X.env = (false, eval e X.env) :: starEach [] X.env := by rfl) :
    EJ cm X (.Call (.Attribute o "append" apos) [e] [] cpos) (eMut appD fo fa) := ej_by (fun W tk => pe_bm PySem.F.plainAttrs_list PySem.F.slot_list_append PySem.F.type_list_append mt_append (ho W tk) (ha W tk) hbase (by rw [hs]; rfl) hline hs (by rfl)) fun W σ H Q w => mut_t md_append w
theorem ej_popAt (ho : EJ cm X o fo) (ha : AJ cm X [e] fa) (hbase : attributeBase o "pop" X.env (eval o X.env) = eval o X.env := by rfl) (hline : (apos.endLine == cpos.line) = true := by rfl) (hs : starEach [e] X.env = (false, eval e X.env) :: starEach [] X.env := by rfl) :
    EJ cm X (.Call (.Attribute o "pop" apos) [e] [] cpos) (eMut popD fo fa) := ej_by (fun W tk => pe_bm PySem.F.plainAttrs_list PySem.F.slot_list_pop PySem.F.type_list_pop mt_popA (ho W tk) (ha W tk) hbase (by rw [hs]; rfl) hline hs (by rfl)) fun W σ H Q w => mut_t md_pop w
def asInt : Rv → R Int
  | .fro (.int k) => .ok k
  | _ => .stuck
theorem asInt_noerr {rv : Rv} : ∀ c ks es ds, asInt rv ≠ .err c ks es ds := by
  intro c ks es ds h
  unfold asInt at h
  split at h <;> cases h
theorem asInt_ok {rv : Rv} {k : Int} (h : asInt rv = .ok k) : rv = .fro (.int k) := by
  unfold asInt at h
  split at h
  · cases h; rfl
  · cases h
def setIx (xs : List D) (k : Int) (d : D) : R (List D) := match ixN xs.length k with
  | some j => .ok (xs.set j d)
  | none => .stuck
theorem setIx_noerr {xs : List D} {k : Int} {d : D} : ∀ c ks es ds, setIx xs k d ≠ .err c ks es ds := by
  intro c ks es ds h
  unfold setIx at h
  split at h <;> cases h
def sSetIx (fo fi fe : EF) : SF := fun ds => (fe ds).toS fun p => (take p.2 p.1).toS fun z => (fo z.2).toS fun o => (asSlot o.1).toS fun j => (fi o.2).toS fun i => (asInt i.1).toS fun k => (lstOf i.2 j).toS fun xs => (setIx xs k z.1).toS fun ys => .nx (put i.2 j (.lst ys))
theorem tE_goS' {Γ : Gm} {W : WX} {ds0 ds : DS} {σ : St} {H0 F0 H F : Hp} {f : EF} {K : Rv × DS → Prop} {Q : VK} (s : Step Γ ds0 σ H0 F0 ds σ H F) (h : (f ds).wp K (ErrS Γ W ds0 σ H0 F0))
    (k : ∀ p v H' F', K p → Step Γ ds σ H F p.2 σ H' F' → RvOk Γ p.1 v p.2 σ H' F' → Fresh p.1 v H → Q v H') : tE Γ W f σ H Q :=
  tE_go s (R.wp_mono h (fun a _ h => h) ErrS.toK) k
variable {i : Expr} {fi fe : EF} {spos tpos : Pos}
theorem sj_setIx (he : EJ cm X e fe) (ho : EJ cm X o fo) (hi : EJ cm X i fi) (hs : swapsWithSole [.Subscript o i tpos] e spos.line X.env = pure false := by rfl) (hw : swappedStores [.Subscript o i tpos] e X.env = pure none := by rfl)
    (h1 : (assignEach [.Subscript o i tpos] X.env).map (·.2) = [assign (.Subscript o i tpos) X.env] := by rfl) (ha : ∀ v, assign (.Subscript o i tpos) X.env v = (do
      let ov ← holding [v] (eval o X.env)
      let iv ← holding [v, ov] (eval i X.env)
      standAt tpos
      holding [v, ov, iv] (setItem ov iv v)
      release [v, ov, iv] []) := by intro _; rfl) : SJ cm X (.Assign [.Subscript o i tpos] e spos) (sSetIx fo fi fe) := fun W tk => by
  refine ps_imp (ps_asg (he W tk) (pg_sub (ho W tk) (hi W tk) set_list ha) hs hw h1) fun D σ H ⟨F, ds, r, w⟩ => ?_
  unfold sSetIx at w
  rw [R.toS_wp] at w
  refine tE_goS r w fun p v H1 F1 w1 s1 ok fr => ?_
  rw [R.toS_wp] at w1
  obtain ⟨z, ez, w1⟩ := R.wp_pure take_noerr w1
  obtain ⟨F2, s2, rp, _, _, _⟩ := take_step s1 ok fr ez
  rw [R.toS_wp] at w1
  refine tE_goS' s2 w1 fun q ov H3 F3 w3 s3 ok3 _ => ?_
  rw [R.toS_wp] at w3
  obtain ⟨j, ej, w4⟩ := R.wp_pure asSlot_noerr w3
  clear w3
  have ok3 : RvOk (gm X cm) (.slot j) ov q.2 σ H3 F3 := by rw [← asSlot_ok ej]; exact ok3
  rw [R.toS_wp] at w4
  have s23 := s2.trans s3
  refine tE_goS' s23 w4 fun t iv H4 F4 w5 s4 ok4 _ => ?_
  rw [R.toS_wp] at w5
  obtain ⟨k, ek, w6⟩ := R.wp_pure asInt_noerr w5
  clear w5
  have ok4 : RvOk (gm X cm) (.fro (.int k)) iv t.2 σ H4 F4 := by rw [← asInt_ok ek]; exact ok4
  rw [R.toS_wp] at w6
  obtain ⟨xs, ex, w6⟩ := R.wp_pure lstOf_noerr w6
  rw [R.toS_wp] at w6
  obtain ⟨ys, ey, w6⟩ := R.wp_pure setIx_noerr w6
  have s24 := s23.trans s4
  obtain ⟨a, ha', nF, ob⟩ := s24.rl.own j _ (lstOf_ok ex)
  rw [show σ[j]? = some (some ov) from ok3] at ha'; cases ha'
  obtain ⟨vs, hv, hr⟩ := ob.is_lst
  unfold setIx at ey
  split at ey
  · rename_i n hn
    cases ey
    refine ⟨a, vs, k, n, rfl, ok4, hv, by rw [hr.length]; exact hn, ?_⟩
    refine w6 σ _ F4 (write_mine s24 (lstOf_ok ex) ok3 hv ⟨_, upd_same, hr.set n (Rep.mono (s3.fs.trans s4.fs) _ _ rp)⟩)
  · cases ey
def sAsgG (f : EF) (g : GF) : SF := fun ds => (f ds).toS fun p => (take p.2 p.1).toS fun z => match g z.1 z.2 with
  | .ok ds' => .nx ds'
  | _ => .stuck
variable {tg : Expr} {ix : List Nat} {gt : GF}
theorem sj_asgG (he : EJ cm X e fe) (hg : GJ cm X tg ix gt) (hs : swapsWithSole [tg] e spos.line X.env = pure false := by rfl) (hw : swappedStores [tg] e X.env = pure none := by rfl)
    (h1 : (assignEach [tg] X.env).map (·.2) = [assign tg X.env] := by rfl) : SJ cm X (.Assign [tg] e spos) (sAsgG fe gt) := fun W tk => by
  refine ps_imp (ps_asg (he W tk) hg hs hw h1) fun D σ H ⟨F, ds, r, w⟩ => ?_
  unfold sAsgG at w
  rw [R.toS_wp] at w
  refine tE_goS r w fun p v H1 F1 w1 s1 ok fr => ?_
  rw [R.toS_wp] at w1
  obtain ⟨z, ez, w1⟩ := R.wp_pure take_noerr w1
  obtain ⟨F2, s2, rp, _, _, _⟩ := take_step s1 ok fr ez
  refine ⟨F2, z.2, z.1, s2.rl, rp, ?_⟩
  cases eg : gt z.1 z.2 with
  | ok ds' =>
    simp only [eg] at w1
    exact fun σ' H' F' s' _ => w1 σ' H' F' (s2.trans s')
  | err _ _ _ _ => simp only [eg] at w1; exact w1.elim
  | stuck => simp only [eg] at w1; exact w1.elim
/-- waiting values no more hang on slots -/
def prep (ds : DS) : List Rv → R (List Rv × DS)
  | [] => .ok ([], ds)
  | .own d :: r => (prep ds r).bind fun (q : List Rv × DS) => .ok (.own d :: q.1, q.2)
  | .fro d :: r => (prep ds r).bind fun (q : List Rv × DS) => .ok (.fro d :: q.1, q.2)
  | .slot _ :: _ => .stuck
theorem prep_noerr : ∀ {rvs : List Rv} {ds : DS} (c : Nat) (ks : List Str) (es : List D) (ds' : DS), prep ds rvs ≠ .err c ks es ds'
  | [], ds, c, ks, es, ds', h => by cases h
  | .own d :: r, ds, c, ks, es, ds', h => by
    unfold prep at h
    exact bind_noerr prep_noerr (fun a c ks es ds h => by cases h) _ _ _ _ h
  | .fro d :: r, ds, c, ks, es, ds', h => by
    unfold prep at h
    exact bind_noerr prep_noerr (fun a c ks es ds h => by cases h) _ _ _ _ h
  | .slot _ :: _, ds, c, ks, es, ds', h => by cases h
def notSlot : Rv → Bool
  | .slot _ => false
  | _ => true
def noSlot (rvs : List Rv) : Bool := rvs.all notSlot
def two (rvs : List Rv) : R (Rv × Rv) := match rvs with
  | [a, b] => if notSlot a && notSlot b then .ok (a, b) else .stuck
  | _ => .stuck
theorem two_noerr {rvs : List Rv} : ∀ c ks es ds, two rvs ≠ .err c ks es ds := by
  intro c ks es ds h
  unfold two at h
  split at h
  · split at h <;> cases h
  · cases h
def sPar (i j : Nat) (fa : AF) : SF := fun ds => (fa ds).toS fun p => (two p.1).toS fun ab => (store i ab.1 p.2).toS fun ds1 => (store j ab.2 ds1).toS fun ds2 => .nx ds2
/-- a value that is no slot's waits for a store -/
theorem RvOk.stored {Γ : Gm} {ds ds' : DS} {σ : St} {H F F' : Hp} {a b : Rv} {v u : V} {i : Nat} {ds0 : DS} {σ0 : St} {H0 F0 : Hp} (na : notSlot a = true) (nb : notSlot b = true) (oka : RvOk Γ a v ds σ H F) (okb : RvOk Γ b u ds σ H F)
    (ap : ∀ d e c, a = .own d → b = .own e → v = .ref c → u = .ref c → False) (h : store i a ds = .ok ds') (s : Step Γ ds0 σ0 H0 F0 ds' (σ.set i (some v)) H F') (hF : Same F F') (hFn : ∀ d, a = .own d → F' = F) (hFf : ∀ d, a = .fro d → F' = F) : RvOk Γ b u ds' (σ.set i (some v)) H F' := by
  have eF : F' = F := by
    cases a with
    | fro d => exact hFf d rfl
    | own d => exact hFn d rfl
    | slot k => cases na
  subst eF
  cases b with
  | fro d => exact okb
  | slot k => cases nb
  | own d =>
    obtain ⟨c, e, nF, ob, no⟩ := okb
    refine ⟨c, e, nF, ob, fun ⟨j, d', m, q⟩ => ?_⟩
    unfold store at h
    split at h
    · cases h
    · cases h
    · split at h
      · rename_i d1
        cases h
        by_cases z : j = i
        · subst z
          have hj : j < σ.length := by
            have := (List.getElem?_eq_some_iff.mp q).1
            simpa using this
          rw [List.getElem?_set_self hj] at q
          cases q
          exact ap d1 d c rfl rfl rfl e
        · rw [List.getElem?_set_ne (Ne.symm z)] at q
          exact no ⟨j, d', mine_set_ne m z, q⟩
      · rename_i rv' nrv
        cases a with
        | own d1 => exact nrv d1 rfl
        | slot k => cases na
        | fro d1 =>
          cases h
          obtain ⟨ne, m'⟩ := mine_set m
          rw [List.getElem?_set_ne (Ne.symm ne)] at q
          exact no ⟨j, d', m', q⟩
theorem store_step1 {Γ : Gm} {ds0 ds ds' : DS} {σ0 σ : St} {H0 F0 H F : Hp} {i : Nat} {rv : Rv} {v : V} (s : Step Γ ds0 σ0 H0 F0 ds σ H F) (ns : notSlot rv = true) (ok : RvOk Γ rv v ds σ H F) (fr : Fresh rv v H0) (h : store i rv ds = .ok ds') : Step Γ ds0 σ0 H0 F0 ds' (σ.set i (some v)) H F := by
  unfold store at h
  split at h
  · cases h
  · cases h
  · rename_i n1 n2
    have hi : i < ds.length := by
      cases e : ds[i]? with
      | none => exact absurd e n2
      | some x => exact (List.getElem?_eq_some_iff.mp e).1
    have hb : ∀ e, ds[i]? ≠ some (Sl.bor e) := fun e z => n1 e z
    split at h
    · rename_i d
      cases h
      exact set_own s ok fr hb hi
    · rename_i rv' nrv
      cases rv with
      | own d => exact absurd rfl (nrv d)
      | slot k => cases ns
      | fro d =>
        cases h
        exact set_fro s ok hb hi
theorem sj_par {i j : Nat} {x y : Str} {a b : Expr} {px py pt : Pos} {kt k2 pt2} (hc : X.calm = true) (hN : X.N.Nodup) (hi : X.N[i]? = some x) (hj : X.N[j]? = some y) (hij : i ≠ j)
    (hx : X.env.scope.names.lookup x = some .local) (hy : X.env.scope.names.lookup y = some .local) (ha : AJ cm X [a, b] fa)
    (hw : swappedStores [.Tuple [.Name x px, .Name y py] kt pt] (.Tuple [a, b] k2 pt2) X.env = pure (some [x, y]))
    (hs : swapsWithSole [.Tuple [.Name x px, .Name y py] kt pt] (.Tuple [a, b] k2 pt2) spos.line X.env = pure false := by rfl) :
    SJ cm X (.Assign [.Tuple [.Name x px, .Name y py] kt pt] (.Tuple [a, b] k2 pt2) spos) (sPar i j fa) := fun W tk => by
  refine ps_imp (ps_par hc hN hi hj hij hx hy (ha W tk) hw hs) fun D σ H ⟨F, ds, r, w⟩ => ?_
  unfold sPar at w
  rw [R.toS_wp] at w
  refine tA_go (Step.refl r) (R.wp_mono w (fun a _ h => h) ErrS.toK) fun p vs H1 F1 w1 s1 ok fr => ?_
  rw [R.toS_wp] at w1
  obtain ⟨⟨a1, b1⟩, e2, w2⟩ := R.wp_pure two_noerr w1
  clear w1
  obtain ⟨rvs, ds1⟩ := p
  dsimp only at w2 s1 ok fr e2
  unfold two at e2
  split at e2
  · rename_i a' b'
    by_cases hn : (notSlot a' && notSlot b') = true
    · rw [if_pos hn] at e2
      cases e2
      simp only [Bool.and_eq_true] at hn
      obtain ⟨v, ev, okv⟩ := ok.ok 0 _ rfl
      obtain ⟨u, eu, oku⟩ := ok.ok 1 _ rfl
      have hl := ok.len
      cases vs with
      | nil => cases ev
      | cons v0 vs =>
        cases vs with
        | nil => simp at hl
        | cons v1 vs =>
          cases vs with
          | cons _ _ => simp at hl
          | nil =>
            simp at ev eu; subst ev; subst eu
            refine ⟨v0, v1, rfl, ?_⟩
            rw [R.toS_wp] at w2
            obtain ⟨ds2, ed, w2⟩ := R.wp_pure store_noerr w2
            rw [R.toS_wp] at w2
            obtain ⟨ds3, ed3, w2⟩ := R.wp_pure store_noerr w2
            have f1 : Fresh a1 v0 H := by
              cases a1 with
              | fro d => trivial
              | own d => exact fun c q => fr 0 d c rfl (by rw [q]; rfl)
              | slot k => cases hn.1
            have f2 : Fresh b1 v1 H := by
              cases b1 with
              | fro d => trivial
              | own d => exact fun c q => fr 1 d c rfl (by rw [q]; rfl)
              | slot k => cases hn.2
            have s2 := store_step1 s1 hn.1 okv f1 ed
            have ok2 := RvOk.stored hn.1 hn.2 okv oku (fun d e c q1 q2 q3 q4 => by
              have := ok.apart 0 1 d e c (by rw [q1]; rfl) (by rw [q2]; rfl) (by rw [q3]; rfl) (by rw [q4]; rfl)
              cases this) ed s2 (Same.refl _) (fun _ _ => rfl) (fun _ _ => rfl)
            have s3 := store_step1 s2 hn.2 ok2 f2 ed3
            exact w2 _ H1 F1 s3
    · rw [if_neg hn] at e2; cases e2
  · cases e2
end
end DL
namespace DL
open PySem PySem.Spec PyProof.Rows L2
section
variable {cm : CT} {X : Cx}
theorem pks1 {Γ : Gm} {F H : Hp} {d : D} {vs : List V} (h : Pks Γ F H [d] vs) : ∃ v, vs = [v] ∧ Pk Γ F H d v := by
  cases h with
  | cons h1 h2 => cases h2; exact ⟨_, rfl, h1⟩
theorem pks2 {Γ : Gm} {F H : Hp} {d e : D} {vs : List V} (h : Pks Γ F H [d, e] vs) : ∃ v u, vs = [v, u] ∧ Pk Γ F H d v ∧ Pk Γ F H e u := by
  cases h with
  | cons h1 h2 =>
    cases h2 with
    | cons h2 h3 => cases h3; exact ⟨_, _, rfl, h1, h2⟩
def lenD (xs : List D) : R Rv := match xs with
  | [.lst l] => okI l.length
  | [.tup l] => okI l.length
  | [.scr l] => okI l.length
  | [.str z] => if z.length ≤ cap then okI z.length else .stuck
  | _ => .stuck
def rLenA (K : PySem.W.Frag) : List V → Hp → VK → Prop := fun xs H Q => (∃ p ys, xs = [.ref p] ∧ (SqL K H p ys ∨ SqT K H p ys) ∧ Q (.int ys.length) H) ∨ ∃ z, xs = [.str z] ∧ z.length ≤ sizeLine ∧ Q (.int z.length) H
theorem call_lenA : CallR X (.builtin "len") (rLenA X.K) := call_len_seq.or call_len_str
theorem cd_len : CallD (gm X cm) (rLenA X.K) lenD := by
  refine ⟨fun xs c ks es ds h => ?_, fun F H xs vs rv sub h e => ?_⟩
  · unfold lenD at h
    split at h <;> first | cases h | (split at h <;> cases h)
  · unfold lenD at e
    split at e
    · rename_i l
      cases e
      obtain ⟨v, rfl, hp⟩ := pks1 h
      obtain ⟨p, ws, rfl, h1, h2⟩ := hp.list sub
      refine Gives.flat sub (v := .int ws.length) (by rw [h2.length]; rfl) fun Q q => .inl ⟨p, ws, rfl, .inl (SqL.of h1), q⟩
    · rename_i l
      cases e
      obtain ⟨v, rfl, hp⟩ := pks1 h
      obtain ⟨p, ws, rfl, h1, h2⟩ := hp.tup sub
      refine Gives.flat sub (v := .int ws.length) (by rw [h2.length]; rfl) fun Q q => .inl ⟨p, ws, rfl, .inr h1, q⟩
    · rename_i l
      cases e
      obtain ⟨v, rfl, hp⟩ := pks1 h
      obtain ⟨p, rfl, h1⟩ := hp.scr sub
      refine Gives.flat sub (v := .int (l.map V.int).length) (by rw [List.length_map]; rfl) fun Q q => .inl ⟨p, _, rfl, .inl h1, q⟩
    · rename_i z
      by_cases hz : z.length ≤ cap
      · rw [if_pos hz] at e
        cases e
        obtain ⟨v, rfl, hp⟩ := pks1 h
        cases pk_str hp
        exact Gives.flat sub (v := .int z.length) rfl fun Q q => .inr ⟨z, rfl, cap_le hz, q⟩
      · rw [if_neg hz] at e; cases e
    · cases e
def absD (xs : List D) : R Rv := match xs with
  | [.int i] => okI (if i < 0 then -i else i)
  | _ => .stuck
theorem cd_abs : CallD (gm X cm) (fun xs H Q => ∃ i, xs = [.int i] ∧ Q (.int (if i < 0 then -i else i)) H) absD := by
  refine ⟨fun xs c ks es ds h => ?_, fun F H xs vs rv sub h e => ?_⟩
  · unfold absD at h
    split at h <;> first | cases h | (split at h <;> cases h)
  · unfold absD at e
    split at e
    · rename_i i
      cases e
      obtain ⟨v, rfl, hp⟩ := pks1 h
      cases pk_int hp
      exact Gives.flat sub rfl fun Q q => ⟨i, rfl, q⟩
    · cases e
def intD (xs : List D) : R Rv := match xs with
  | [.int i] => okI i
  | [.bl k] => okI (if k then 1 else 0)
  | _ => .stuck
theorem cd_int : CallD (gm X cm) (fun xs H Q => (∃ i, xs = [.int i] ∧ Q (.int i) H) ∨ ∃ k, xs = [.bl k] ∧ Q (.int (if k then 1 else 0)) H) intD := by
  refine ⟨fun xs c ks es ds h => ?_, fun F H xs vs rv sub h e => ?_⟩
  · unfold intD at h
    split at h <;> first | cases h | (split at h <;> cases h)
  · unfold intD at e
    split at e
    · rename_i i
      cases e
      obtain ⟨v, rfl, hp⟩ := pks1 h
      cases pk_int hp
      exact Gives.flat sub rfl fun Q q => .inl ⟨i, rfl, q⟩
    · rename_i k
      cases e
      obtain ⟨v, rfl, hp⟩ := pks1 h
      cases pk_bl hp
      exact Gives.flat sub rfl fun Q q => .inr ⟨k, rfl, q⟩
    · cases e
def boolD (xs : List D) : R Rv := match xs with
  | [.int i] => okB (i != 0)
  | [.bl k] => okB k
  | _ => .stuck
theorem cd_bool : CallD (gm X cm) (fun xs H Q => (∃ i, xs = [.int i] ∧ Q (.bl (i != 0)) H) ∨ ∃ k, xs = [.bl k] ∧ Q (.bl k) H) boolD := by
  refine ⟨fun xs c ks es ds h => ?_, fun F H xs vs rv sub h e => ?_⟩
  · unfold boolD at h
    split at h <;> first | cases h | (split at h <;> cases h)
  · unfold boolD at e
    split at e
    · rename_i i
      cases e
      obtain ⟨v, rfl, hp⟩ := pks1 h
      cases pk_int hp
      exact Gives.flat sub rfl fun Q q => .inl ⟨i, rfl, q⟩
    · rename_i k
      cases e
      obtain ⟨v, rfl, hp⟩ := pks1 h
      cases pk_bl hp
      exact Gives.flat sub rfl fun Q q => .inr ⟨k, rfl, q⟩
    · cases e
def strD (xs : List D) : R Rv := match xs with
  | [.int i] => if decide (i.natAbs.log2 < 1920) then .ok (.fro (.str (toString i))) else .stuck
  | [.str s] => .ok (.fro (.str s))
  | _ => .stuck
theorem call_strA : CallR X (.type "str") (fun xs H Q => (∃ i, xs = [.int i] ∧ i.natAbs.log2 < 1920 ∧ Q (.str (toString i)) H) ∨ ∃ a, xs = [.str a] ∧ Q (.str a) H) := call_str_int.or SkE.call_str_str
theorem cd_str : CallD (gm X cm) (fun xs H Q => (∃ i, xs = [.int i] ∧ i.natAbs.log2 < 1920 ∧ Q (.str (toString i)) H) ∨ ∃ a, xs = [.str a] ∧ Q (.str a) H) strD := by
  refine ⟨fun xs c ks es ds h => ?_, fun F H xs vs rv sub h e => ?_⟩
  · unfold strD at h
    split at h <;> first | cases h | (split at h <;> cases h)
  · unfold strD at e
    split at e
    · rename_i i
      by_cases hz : decide (i.natAbs.log2 < 1920) = true
      · rw [if_pos hz] at e
        cases e
        obtain ⟨v, rfl, hp⟩ := pks1 h
        cases pk_int hp
        exact Gives.flat sub rfl fun Q q => .inl ⟨i, rfl, of_decide_eq_true hz, q⟩
      · rw [if_neg hz] at e; cases e
    · rename_i s
      cases e
      obtain ⟨v, rfl, hp⟩ := pks1 h
      cases pk_str hp
      exact Gives.flat sub rfl fun Q q => .inr ⟨s, rfl, q⟩
    · cases e
def mmD (g : Int → Int → Int) (xs : List D) : R Rv := match xs with
  | [.int i, .int j] => okI (g i j)
  | _ => .stuck
def maxD : List D → R Rv := mmD fun i j => if j > i then j else i
def minD : List D → R Rv := mmD fun i j => if j < i then j else i
theorem cd_mm {g : Int → Int → Int} : CallD (gm X cm) (fun xs H Q => ∃ i j, xs = [.int i, .int j] ∧ Q (.int (g i j)) H) (mmD g) := by
  refine ⟨fun xs c ks es ds h => ?_, fun F H xs vs rv sub h e => ?_⟩
  · unfold mmD at h
    split at h <;> first | cases h | (split at h <;> cases h)
  · unfold mmD at e
    split at e
    · rename_i i j
      cases e
      obtain ⟨v, u, rfl, h1, h2⟩ := pks2 h
      cases pk_int h1
      cases pk_int h2
      exact Gives.flat sub rfl fun Q q => ⟨i, j, rfl, q⟩
    · cases e
def reprD (xs : List D) : R Rv := match xs with
  | [.bl k] => .ok (.fro (.str (if k then "True" else "False")))
  | _ => .stuck
theorem call_repr_bl : CallR X (.builtin "repr") (fun xs H Q => ∃ k : Bool, xs = [.bl k] ∧ Q (.str (if k then "True" else "False")) H) := by
  intro pins s σ H xs us Q I r ⟨k, ex, q⟩
  subst ex
  obtain ⟨u, rfl, rx⟩ := vals1 r
  cases rx
  exact PySem.P.repr_of_bool ⟨.str (if k then "True" else "False"), H, I.tok _, ⟨_, rfl⟩, q⟩
theorem cd_repr : CallD (gm X cm) (fun xs H Q => ∃ k : Bool, xs = [.bl k] ∧ Q (.str (if k then "True" else "False")) H) reprD := by
  refine ⟨fun xs c ks es ds h => ?_, fun F H xs vs rv sub h e => ?_⟩
  · unfold reprD at h
    split at h <;> first | cases h | (split at h <;> cases h)
  · unfold reprD at e
    split at e
    · rename_i k
      cases e
      obtain ⟨v, rfl, hp⟩ := pks1 h
      cases pk_bl hp
      exact Gives.flat sub rfl fun Q q => ⟨k, rfl, q⟩
    · cases e
def listD (xs : List D) : R Rv := match xs with
  | [.lst l] => .ok (.own (.lst l))
  | [.tup l] => .ok (.own (.lst l))
  | [.scr l] => .ok (.own (.lst (l.map .int)))
  | [.str z] => if z.length ≤ cap then .ok (.own (.lst (signs z))) else .stuck
  | _ => .stuck
def signV (z : Str) : List V := z.cps.toList.map fun c => V.str ⟨#[c]⟩
theorem reps_signs {Γ : Gm} {F : Hp} (z : Str) : Reps Γ F (signs z) (signV z) := by
  unfold signs signV
  generalize z.cps.toList = l
  induction l with
  | nil => rfl
  | cons c l ih => exact ⟨_, _, rfl, rfl, ih⟩
theorem vals_signs {z : Str} {acc : Array Value} (h : ItemsOf (SignAt z) acc z.cps.size) : Vals (signV z) acc.toList := by
  obtain ⟨h1, h2⟩ := h
  have aux : ∀ (l : List Nat) (us : List Value), us.length = l.length → (∀ (j : Nat) (v : Value), us[j]? = some v → ∃ (c : Nat) (t : Tok), l[j]? = some c ∧ v = Value.str ⟨#[c]⟩ t) → Vals (l.map fun c => V.str ⟨#[c]⟩) us := by
    intro l
    induction l with
    | nil =>
      intro us hl _
      have : us = [] := List.eq_nil_of_length_eq_zero hl
      subst this
      exact .nil
    | cons c l ih =>
      intro us hl hv
      cases us with
      | nil => simp at hl
      | cons u us =>
        obtain ⟨c', t, e1, e2⟩ := hv 0 u rfl
        simp at e1
        subst e1
        exact .cons ⟨t, e2⟩ (ih us (by simpa using hl) fun j v q => hv (j + 1) v (by simpa using q))
  refine aux _ _ (by simp [h1]) fun j v q => ?_
  obtain ⟨c, t, e1, e2⟩ := h2 j v (by simpa using q)
  exact ⟨c, t, by simpa using e1, e2⟩
def rListA (K : PySem.W.Frag) : List V → Hp → VK → Prop := fun xs H Q => (∃ p ys, xs = [.ref p] ∧ (SqL K H p ys ∨ SqT K H p ys) ∧ ∀ l, H l = none → Q (.ref l) (upd H l (.lst ys))) ∨
  ∃ z, xs = [.str z] ∧ z.length ≤ sizeLine ∧ ∀ l, H l = none → Q (.ref l) (upd H l (.lst (signV z)))
theorem call_list_txt (hc : X.calm = true) : CallR X (.type "list") (fun xs H Q => ∃ z, xs = [.str z] ∧ z.length ≤ sizeLine ∧ ∀ l, H l = none → Q (.ref l) (upd H l (.lst (signV z)))) := by
  intro pins s σ H xs us Q I r ⟨z, ex, hz, q⟩
  subst ex
  obtain ⟨u, rfl, rx⟩ := vals1 r
  obtain ⟨t, rfl⟩ := rx
  refine PySem.call_list_str (I.ok.hd hc) z t (fun h' tk acc' c' hk hS hacc => ?_) hz
  refine ⟨.ref s.heap.objs.size, _, I.laid (t' := tk) (o := .lst (signV z)) hk (Nat.le_refl _) ?_, rfl, q _ (I.hok.fresh (Nat.le_refl _))⟩
  refine ⟨by unfold signV; rw [List.length_map, Array.length_toList]; exact hz, acc'.toList, c', vals_signs hacc, ?_⟩
  rw [hS]
theorem call_listA (hc : X.calm = true) : CallR X (.type "list") (rListA X.K) := call_list_of.or (call_list_txt hc)
theorem cd_list : CallD (gm X cm) (rListA X.K) listD := by
  refine ⟨fun xs c ks es ds h => ?_, fun F H xs vs rv sub h e => ?_⟩
  · unfold listD at h
    split at h <;> first | cases h | (split at h <;> cases h)
  · unfold listD at e
    split at e
    · rename_i l
      cases e
      obtain ⟨v, rfl, hp⟩ := pks1 h
      obtain ⟨p, ws, rfl, h1, h2⟩ := hp.list sub
      exact fun Q q => .inl ⟨p, ws, rfl, .inl (SqL.of h1), fun l hl => q _ _ _ (Made.own sub hl ⟨ws, upd_same, h2⟩)⟩
    · rename_i l
      cases e
      obtain ⟨v, rfl, hp⟩ := pks1 h
      obtain ⟨p, ws, rfl, h1, h2⟩ := hp.tup sub
      exact fun Q q => .inl ⟨p, ws, rfl, .inr h1, fun l hl => q _ _ _ (Made.own sub hl ⟨ws, upd_same, h2⟩)⟩
    · rename_i l
      cases e
      obtain ⟨v, rfl, hp⟩ := pks1 h
      obtain ⟨p, rfl, h1⟩ := hp.scr sub
      exact fun Q q => .inl ⟨p, _, rfl, .inl h1, fun l' hl => q _ _ _ (Made.own sub hl ⟨_, upd_same, reps_ints l⟩)⟩
    · rename_i z
      by_cases hz : z.length ≤ cap
      · rw [if_pos hz] at e
        cases e
        obtain ⟨v, rfl, hp⟩ := pks1 h
        cases pk_str hp
        exact fun Q q => .inr ⟨z, rfl, cap_le hz, fun l hl => q _ _ _ (Made.own sub hl ⟨_, upd_same, reps_signs z⟩)⟩
      · rw [if_neg hz] at e; cases e
    · cases e
def tupleD (xs : List D) : R Rv := match xs with
  | [.lst l] => .ok (.fro (.tup l))
  | [.tup l] => .ok (.fro (.tup l))
  | _ => .stuck
def rTupA (K : PySem.W.Frag) : List V → Hp → VK → Prop := fun xs H Q => ∃ p ys, xs = [.ref p] ∧ ((SqL K H p ys ∧ ∀ l, H l = none → Q (.ref l) (upd H l (.tup ys))) ∨ (SqT K H p ys ∧ Q (.ref p) H))
theorem cd_tuple : CallD (gm X cm) (rTupA X.K) tupleD := by
  refine ⟨fun xs c ks es ds h => ?_, fun F H xs vs rv sub h e => ?_⟩
  · unfold tupleD at h
    split at h <;> first | cases h | (split at h <;> cases h)
  · unfold tupleD at e
    split at e
    · rename_i l
      cases e
      obtain ⟨v, rfl, hp⟩ := pks1 h
      obtain ⟨p, ws, rfl, h1, h2⟩ := hp.list sub
      exact fun Q q => ⟨p, ws, rfl, .inl ⟨SqL.of h1, fun l hl => q _ _ _ (Made.fro sub hl ⟨l, ws, rfl, SqT.of upd_same, Reps.mono (same_fro sub hl) _ _ h2⟩)⟩⟩
    · rename_i l
      cases e
      obtain ⟨v, rfl, hp⟩ := pks1 h
      have h' := hp
      obtain ⟨p, ws, rfl, h1, h2⟩ := hp.tup sub
      refine fun Q q => ⟨p, ws, rfl, .inr ⟨h1, ?_⟩⟩
      rcases h' with h' | ⟨_, _, z⟩
      · exact q _ _ _ (Made.flat sub h')
      · exact z.elim
    · cases e
def bools : List D → Option (List Bool)
  | [] => some []
  | .bl b :: r => (bools r).map (b :: ·)
  | _ :: _ => none
def allD (xs : List D) : R Rv := match xs with
  | [.lst l] => match bools l with
    | some bs => okB (bs.all id)
    | none => .stuck
  | _ => .stuck
def anyD (xs : List D) : R Rv := match xs with
  | [.lst l] => match bools l with
    | some bs => okB (bs.any id)
    | none => .stuck
  | _ => .stuck
theorem bools_vals {Γ : Gm} {F : Hp} : ∀ {l : List D} {bs : List Bool} {vs : List V}, bools l = some bs → Reps Γ F l vs → vs = bs.map V.bl
  | [], bs, vs, e, h => by cases e; exact h
  | .bl b :: r, bs, vs, e, h => by
    unfold bools at e
    cases q : bools r with
    | none => rw [q] at e; cases e
    | some bs' =>
      rw [q] at e
      cases e
      obtain ⟨v, vr, rfl, h1, h2⟩ := h
      cases (show v = V.bl b from h1)
      rw [bools_vals q h2]; rfl
  | .non :: _, bs, vs, e, h => by cases e
  | .int _ :: _, bs, vs, e, h => by cases e
  | .str _ :: _, bs, vs, e, h => by cases e
  | .lst _ :: _, bs, vs, e, h => by cases e
  | .scr _ :: _, bs, vs, e, h => by cases e
  | .tup _ :: _, bs, vs, e, h => by cases e
  | .ins _ _ _ :: _, bs, vs, e, h => by cases e
  | .cls _ :: _, bs, vs, e, h => by cases e
theorem bools_reads {h : Heap} : ∀ {bs : List Bool} {us : List Value}, Vals (bs.map V.bl) us → ∃ as, ReadsAll h us (bs.map PyData.bool) as
  | [], us, r => by cases r; exact ⟨_, .nil⟩
  | b :: bs, us, r => by
    cases r with
    | cons r1 r2 =>
      cases r1
      obtain ⟨as, q⟩ := bools_reads (h := h) r2
      exact ⟨_, .cons (.bool b) q⟩
theorem bools_all (bs : List Bool) : (bs.map PyData.bool).all PyData.truthy = bs.all id := by
  induction bs with
  | nil => rfl
  | cons b bs ih => simp only [List.map_cons, List.all_cons, ih]; rfl
theorem bools_any (bs : List Bool) : (bs.map PyData.bool).any PyData.truthy = bs.any id := by
  induction bs with
  | nil => rfl
  | cons b bs ih => simp only [List.map_cons, List.any_cons, ih]; rfl
def rAllB (K : PySem.W.Frag) (g : List Bool → Bool) : List V → Hp → VK → Prop := fun xs H Q => ∃ p bs, xs = [.ref p] ∧ SqL K H p (bs.map V.bl) ∧ Q (.bl (g bs)) H
theorem bools_plain (bs : List Bool) : PyData.plainAll (bs.map PyData.bool) = true := by
  induction bs with
  | nil => rfl
  | cons b bs ih => rw [List.map_cons]; unfold PyData.plainAll; rw [ih]; rfl
theorem call_allB (hc : X.calm = true) : CallR X (.builtin "all") (rAllB X.K fun bs => bs.all id) := by
  intro pins s σ H xs us Q I r ⟨p, bs, ex, hq, q⟩
  subst ex
  obtain ⟨u, rfl, rx⟩ := vals1 r
  cases rx
  obtain ⟨its, rv, pl, hz⟩ := I.list hq
  obtain ⟨as, ra⟩ := bools_reads (h := s.heap) rv
  refine PySem.W.all_list_data (I.ok.hd hc) pl.isList (by simpa using ra) (bools_plain bs) (fun x hx => ?_) fun h' tk hk => ?_
  · obtain ⟨b, _, rfl⟩ := List.mem_map.mp hx
    trivial
  · rw [bools_all]
    exact ⟨.bl _, H, I.kept (t' := tk) hk, rfl, q⟩
theorem call_anyB (hc : X.calm = true) : CallR X (.builtin "any") (rAllB X.K fun bs => bs.any id) := by
  intro pins s σ H xs us Q I r ⟨p, bs, ex, hq, q⟩
  subst ex
  obtain ⟨u, rfl, rx⟩ := vals1 r
  cases rx
  obtain ⟨its, rv, pl, hz⟩ := I.list hq
  obtain ⟨as, ra⟩ := bools_reads (h := s.heap) rv
  refine PySem.W.any_list_data (I.ok.hd hc) pl.isList (by simpa using ra) (bools_plain bs) (fun x hx => ?_) fun h' tk hk => ?_
  · obtain ⟨b, _, rfl⟩ := List.mem_map.mp hx
    trivial
  · rw [bools_any]
    exact ⟨.bl _, H, I.kept (t' := tk) hk, rfl, q⟩
theorem cd_all : CallD (gm X cm) (rAllB X.K fun bs => bs.all id) allD := by
  refine ⟨fun xs c ks es ds h => ?_, fun F H xs vs rv sub h e => ?_⟩
  · unfold allD at h
    split at h <;> first | cases h | (split at h <;> cases h)
  · unfold allD at e
    split at e
    · rename_i l
      split at e
      · rename_i bs hb
        cases e
        obtain ⟨v, rfl, hp⟩ := pks1 h
        obtain ⟨p, ws, rfl, h1, h2⟩ := hp.list sub
        cases bools_vals hb h2
        exact Gives.flat sub rfl fun Q q => ⟨p, bs, rfl, SqL.of h1, q⟩
      · cases e
    · cases e
theorem cd_any : CallD (gm X cm) (rAllB X.K fun bs => bs.any id) anyD := by
  refine ⟨fun xs c ks es ds h => ?_, fun F H xs vs rv sub h e => ?_⟩
  · unfold anyD at h
    split at h <;> first | cases h | (split at h <;> cases h)
  · unfold anyD at e
    split at e
    · rename_i l
      split at e
      · rename_i bs hb
        cases e
        obtain ⟨v, rfl, hp⟩ := pks1 h
        obtain ⟨p, ws, rfl, h1, h2⟩ := hp.list sub
        cases bools_vals hb h2
        exact Gives.flat sub rfl fun Q q => ⟨p, bs, rfl, SqL.of h1, q⟩
      · cases e
    · cases e
def sortC (l : List Nat) : List Nat := l.mergeSort (PySem.W.dataLe false fun c => PyData.str ⟨#[c]⟩)
def sortedD (xs : List D) : R Rv := match xs with
  | [.str z] => if z.length ≤ cap then .ok (.own (.lst ((sortC z.cps.toList).map fun c => .str ⟨#[c]⟩))) else .stuck
  | _ => .stuck
theorem eachIs_vals : ∀ {l : List Nat} {us : List Value}, PySem.W.EachIs (fun v c => L2.RelV (V.str ⟨#[c]⟩) v) us l → Vals (l.map fun c => V.str ⟨#[c]⟩) us
  | [], us, h => by cases h; exact .nil
  | c :: l, us, h => by
    cases h with
    | cons h1 h2 => exact .cons h1 (eachIs_vals h2)
theorem vals_eachIs : ∀ {l : List Nat} {us : List Value}, Vals (l.map fun c => V.str ⟨#[c]⟩) us → PySem.W.EachIs (fun v c => L2.RelV (V.str ⟨#[c]⟩) v) us l
  | [], us, h => by cases h; exact .nil
  | c :: l, us, h => by
    cases h with
    | cons h1 h2 => exact .cons h1 (vals_eachIs h2)
theorem call_sorted_txt (hc : X.calm = true) (hu : X.A.units + 64 < cLine) : CallR X (.builtin "sorted") (fun xs H Q => ∃ z, xs = [.str z] ∧ z.length ≤ sizeLine ∧ ∀ l, H l = none → Q (.ref l) (upd H l (.lst ((sortC z.cps.toList).map fun c => V.str ⟨#[c]⟩)))) := by
  intro pins s σ H xs us Q I r ⟨z, ex, hz, q⟩
  subst ex
  obtain ⟨u, rfl, rx⟩ := vals1 r
  obtain ⟨t, rfl⟩ := rx
  refine Calls.call_function_entry PyProof.Rows.kind_sorted PyProof.Rows.plain_sorted PyProof.Rows.entry_sorted (PyProof.Rows.args_sorted1 _) ?_
  unfold Builtin.«sorted»
  refine wpAny_bind (m := checkCount "sorted" 1 1 _) (wpAny_pure ?_)
  refine wpAny_bind (PySem.wpAny_collect_str (A := X.A.in1) (I.ok.hd hc) z t (fun s1 acc hk hg hd ho hacc => ?_) hz)
  obtain ⟨h1, g1, d1, t1, o1⟩ := s1
  obtain ⟨h0, g0, d0, t0, o0⟩ := s
  dsimp only at hg hd ho hk
  subst hg hd ho
  have hlen : acc.toList.length = z.cps.toList.length := by rw [Array.length_toList, Array.length_toList]; exact hacc.1
  have hL : acc.toList.length ≤ sizeLine := by rw [hlen, Array.length_toList]; exact hz
  refine wpAny_bind (wpAny_newList ?_ hL)
  have ho : (h1.push { cls := .type "list", data := .seq acc.toList.toArray }).get? h1.objs.size = some (PyProof.Rows.seqObj "list" acc.toList.toArray 0) := Heap.get?_push_size _ rfl
  have ve := vals_eachIs (vals_signs hacc)
  refine wpAny_bind (wpAny_holding (PySem.W.list_sort_data (s := ⟨h1.push { cls := .type "list", data := .seq acc.toList.toArray }, _, _, _, _⟩) (enc := fun c => PyData.str ⟨#[c]⟩) ho ve (ve.mono fun v c hr => ?_) (fun d hd d' hd' => ?_) (.inr fun d hd => ?_) (by rw [← ve.length]; exact hL) (fun b _ => ?_) fun out ho2 eo => wpAny_pure ⟨_, rfl, ?_⟩))
  · obtain ⟨t', rfl⟩ := hr
    exact ⟨[], .str _ _, by simp⟩
  · obtain ⟨b, _, rfl⟩ := List.mem_map.mp hd
    obtain ⟨b', _, rfl⟩ := List.mem_map.mp hd'
    rfl
  · obtain ⟨b, _, rfl⟩ := List.mem_map.mp hd
    exact ⟨fun h => (nomatch h), fun xs h => (nomatch h)⟩
  · show X.A.in1.units + 1 + 0 < cLine
    show X.A.units + 1 + 1 + 0 < cLine
    omega
  · obtain ⟨e, he⟩ := PyProof.Rows.sortedHeap_at (out := out.toArray) ho
    have kp : ∀ b o, h1.get? b = some o → (PyProof.Rows.sortedHeap (h1.push { cls := .type "list", data := .seq acc.toList.toArray }) h1.objs.size acc.toList out.toArray).get? b = some o := fun b o hb => by
      have hlt := Heap.lt_size hb
      rw [PyProof.Rows.sortedHeap_old (Nat.ne_of_lt hlt) (by rw [Heap.size_push]; exact Nat.lt_succ_of_lt hlt)]
      exact Heap.get?_push_of_some _ hb
    have I1 := I.kept (h' := h1) (t' := t1) hk
    refine ⟨.ref h1.objs.size, _, I1.laid (t' := t1) (o := .lst ((sortC z.cps.toList).map fun c => V.str ⟨#[c]⟩)) kp (Nat.le_refl _) ?_, rfl, q _ (I1.hok.fresh (Nat.le_refl _))⟩
    refine ⟨?_, out, e, eachIs_vals eo, he⟩
    rw [List.length_map]
    unfold sortC
    rw [List.length_mergeSort, Array.length_toList]
    exact hz
theorem cd_sorted : CallD (gm X cm) (fun xs H Q => ∃ z, xs = [.str z] ∧ z.length ≤ sizeLine ∧ ∀ l, H l = none → Q (.ref l) (upd H l (.lst ((sortC z.cps.toList).map fun c => V.str ⟨#[c]⟩)))) sortedD := by
  refine ⟨fun xs c ks es ds h => ?_, fun F H xs vs rv sub h e => ?_⟩
  · unfold sortedD at h
    split at h <;> first | cases h | (split at h <;> cases h)
  · unfold sortedD at e
    split at e
    · rename_i z
      by_cases hz : z.length ≤ cap
      · rw [if_pos hz] at e
        cases e
        obtain ⟨v, rfl, hp⟩ := pks1 h
        cases pk_str hp
        refine fun Q q => ⟨z, rfl, cap_le hz, fun l hl => q _ _ _ (Made.own sub hl ⟨_, upd_same, ?_⟩)⟩
        generalize sortC z.cps.toList = l
        induction l with
        | nil => rfl
        | cons c l ih => exact ⟨_, _, rfl, rfl, ih⟩
      · rw [if_neg hz] at e; cases e
    · cases e
end
end DL
namespace DL
open PySem PySem.Spec PyProof.Rows L2
def blNames : List Str := ["len", "abs", "int", "bool", "str", "repr", "max", "min", "list", "tuple", "all", "any", "sorted", "isinstance", "range", "zip", "enumerate", "super", "sum", "set", "dict"]
/-- the module's names hide none of the built-ins used -/
abbrev NoB (mg : Str → Option Value) : Prop := ∀ x ∈ blNames, mg x = none
section
variable {cm : CT} {X : Cx} {e : Expr} {es : List Expr} {fa : AF} {p pos : Pos}
theorem ej_bfun {x : Str} {id : String} {g : List D → R Rv} {r : List V → Hp → VK → Prop} (hc : CallR X (.builtin id) r) (cd : CallD (gm X cm) r g) (hv : bootBuiltins x = some (.builtin id)) (hn : x ≠ "__name__") (hdb : (x == ("__debug__" : Str)) = false)
    (hm : X.mg x = none) (h : AJ cm X (e :: es) fa) (hg : Gl X x) (he : starEach (e :: es) X.env = (false, eval e X.env) :: starEach es X.env) (hpl : (backTo pos (starEach es X.env)).any (·.1) = false) :
    EJ cm X (.Call (.Name x p) (e :: es) [] pos) (eCB g fa) := ej_cb cd (fun ha => pe_callB hc hg hm hv ha hn hdb he hpl) h
theorem ej_btyp {x : Str} {T : String} {g : List D → R Rv} {r : List V → Hp → VK → Prop} (hc : CallR X (.type T) r) (cd : CallD (gm X cm) r g) (hv : bootBuiltins x = some (.type T)) (hn : x ≠ "__name__") (hdb : (x == ("__debug__" : Str)) = false)
    (hm : X.mg x = none) (h : AJ cm X (e :: es) fa) (hg : Gl X x) (he : starEach (e :: es) X.env = (false, eval e X.env) :: starEach es X.env) (hpl : (backTo pos (starEach es X.env)).any (·.1) = false) :
    EJ cm X (.Call (.Name x p) (e :: es) [] pos) (eCB g fa) := ej_cb cd (fun ha => pe_callTy hc hg hm hv ha hn hdb he hpl) h
theorem bb_len : bootBuiltins "len" = some (.builtin "len") := by decide +kernel
theorem bb_abs : bootBuiltins "abs" = some (.builtin "abs") := by decide +kernel
theorem bb_repr : bootBuiltins "repr" = some (.builtin "repr") := by decide +kernel
theorem bb_max : bootBuiltins "max" = some (.builtin "max") := by decide +kernel
theorem bb_min : bootBuiltins "min" = some (.builtin "min") := by decide +kernel
theorem bb_all : bootBuiltins "all" = some (.builtin "all") := by decide +kernel
theorem bb_any : bootBuiltins "any" = some (.builtin "any") := by decide +kernel
theorem bb_sorted : bootBuiltins "sorted" = some (.builtin "sorted") := by decide +kernel
theorem bb_isi : bootBuiltins "isinstance" = some (.builtin "isinstance") := by decide +kernel
theorem bb_int : bootBuiltins "int" = some (.type "int") := by decide +kernel
theorem bb_bool : bootBuiltins "bool" = some (.type "bool") := by decide +kernel
theorem bb_str : bootBuiltins "str" = some (.type "str") := by decide +kernel
theorem bb_list : bootBuiltins "list" = some (.type "list") := by decide +kernel
theorem bb_tuple : bootBuiltins "tuple" = some (.type "tuple") := by decide +kernel
variable (nb : NoB X.mg) (h : AJ cm X (e :: es) fa)
include nb h
theorem ej_len (hg : Gl X "len" := by rfl) (he : starEach (e :: es) X.env = (false, eval e X.env) :: starEach es X.env := by rfl) (hpl : (backTo pos (starEach es X.env)).any (·.1) = false := by rfl) : EJ cm X (.Call (.Name "len" p) (e :: es) [] pos) (eCB lenD fa) :=
  ej_bfun call_lenA cd_len bb_len (by decide) (by decide) (nb _ (by decide)) h hg he hpl
theorem ej_abs (hg : Gl X "abs" := by rfl) (he : starEach (e :: es) X.env = (false, eval e X.env) :: starEach es X.env := by rfl) (hpl : (backTo pos (starEach es X.env)).any (·.1) = false := by rfl) : EJ cm X (.Call (.Name "abs" p) (e :: es) [] pos) (eCB absD fa) :=
  ej_bfun call_abs cd_abs bb_abs (by decide) (by decide) (nb _ (by decide)) h hg he hpl
theorem ej_repr (hg : Gl X "repr" := by rfl) (he : starEach (e :: es) X.env = (false, eval e X.env) :: starEach es X.env := by rfl) (hpl : (backTo pos (starEach es X.env)).any (·.1) = false := by rfl) : EJ cm X (.Call (.Name "repr" p) (e :: es) [] pos) (eCB reprD fa) :=
  ej_bfun call_repr_bl cd_repr bb_repr (by decide) (by decide) (nb _ (by decide)) h hg he hpl
theorem ej_max (hc : X.calm = true) (hg : Gl X "max" := by rfl) (he : starEach (e :: es) X.env = (false, eval e X.env) :: starEach es X.env := by rfl) (hpl : (backTo pos (starEach es X.env)).any (·.1) = false := by rfl) : EJ cm X (.Call (.Name "max" p) (e :: es) [] pos) (eCB maxD fa) :=
  ej_bfun (call_max2 hc) cd_mm bb_max (by decide) (by decide) (nb _ (by decide)) h hg he hpl
theorem ej_min (hc : X.calm = true) (hg : Gl X "min" := by rfl) (he : starEach (e :: es) X.env = (false, eval e X.env) :: starEach es X.env := by rfl) (hpl : (backTo pos (starEach es X.env)).any (·.1) = false := by rfl) : EJ cm X (.Call (.Name "min" p) (e :: es) [] pos) (eCB minD fa) :=
  ej_bfun (call_min2 hc) cd_mm bb_min (by decide) (by decide) (nb _ (by decide)) h hg he hpl
theorem ej_all (hc : X.calm = true) (hg : Gl X "all" := by rfl) (he : starEach (e :: es) X.env = (false, eval e X.env) :: starEach es X.env := by rfl) (hpl : (backTo pos (starEach es X.env)).any (·.1) = false := by rfl) : EJ cm X (.Call (.Name "all" p) (e :: es) [] pos) (eCB allD fa) :=
  ej_bfun (call_allB hc) cd_all bb_all (by decide) (by decide) (nb _ (by decide)) h hg he hpl
theorem ej_any (hc : X.calm = true) (hg : Gl X "any" := by rfl) (he : starEach (e :: es) X.env = (false, eval e X.env) :: starEach es X.env := by rfl) (hpl : (backTo pos (starEach es X.env)).any (·.1) = false := by rfl) : EJ cm X (.Call (.Name "any" p) (e :: es) [] pos) (eCB anyD fa) :=
  ej_bfun (call_anyB hc) cd_any bb_any (by decide) (by decide) (nb _ (by decide)) h hg he hpl
theorem ej_sorted (hc : X.calm = true) (hu : X.A.units + 64 < cLine) (hg : Gl X "sorted" := by rfl) (he : starEach (e :: es) X.env = (false, eval e X.env) :: starEach es X.env := by rfl) (hpl : (backTo pos (starEach es X.env)).any (·.1) = false := by rfl) : EJ cm X (.Call (.Name "sorted" p) (e :: es) [] pos) (eCB sortedD fa) :=
  ej_bfun (call_sorted_txt hc hu) cd_sorted bb_sorted (by decide) (by decide) (nb _ (by decide)) h hg he hpl
theorem ej_intC (hg : Gl X "int" := by rfl) (he : starEach (e :: es) X.env = (false, eval e X.env) :: starEach es X.env := by rfl) (hpl : (backTo pos (starEach es X.env)).any (·.1) = false := by rfl) : EJ cm X (.Call (.Name "int" p) (e :: es) [] pos) (eCB intD fa) :=
  ej_btyp call_int1 cd_int bb_int (by decide) (by decide) (nb _ (by decide)) h hg he hpl
theorem ej_boolC (hg : Gl X "bool" := by rfl) (he : starEach (e :: es) X.env = (false, eval e X.env) :: starEach es X.env := by rfl) (hpl : (backTo pos (starEach es X.env)).any (·.1) = false := by rfl) : EJ cm X (.Call (.Name "bool" p) (e :: es) [] pos) (eCB boolD fa) :=
  ej_btyp call_bool1 cd_bool bb_bool (by decide) (by decide) (nb _ (by decide)) h hg he hpl
theorem ej_strC (hg : Gl X "str" := by rfl) (he : starEach (e :: es) X.env = (false, eval e X.env) :: starEach es X.env := by rfl) (hpl : (backTo pos (starEach es X.env)).any (·.1) = false := by rfl) : EJ cm X (.Call (.Name "str" p) (e :: es) [] pos) (eCB strD fa) :=
  ej_btyp call_strA cd_str bb_str (by decide) (by decide) (nb _ (by decide)) h hg he hpl
theorem ej_listC (hc : X.calm = true) (hg : Gl X "list" := by rfl) (he : starEach (e :: es) X.env = (false, eval e X.env) :: starEach es X.env := by rfl) (hpl : (backTo pos (starEach es X.env)).any (·.1) = false := by rfl) : EJ cm X (.Call (.Name "list" p) (e :: es) [] pos) (eCB listD fa) :=
  ej_btyp (call_listA hc) cd_list bb_list (by decide) (by decide) (nb _ (by decide)) h hg he hpl
theorem ej_tupleC (hg : Gl X "tuple" := by rfl) (he : starEach (e :: es) X.env = (false, eval e X.env) :: starEach es X.env := by rfl) (hpl : (backTo pos (starEach es X.env)).any (·.1) = false := by rfl) : EJ cm X (.Call (.Name "tuple" p) (e :: es) [] pos) (eCB tupleD fa) :=
  ej_btyp call_tuple_of cd_tuple bb_tuple (by decide) (by decide) (nb _ (by decide)) h hg he hpl
end
def asStr : Rv → R Str
  | .fro (.str a) => .ok a
  | _ => .stuck
theorem asStr_noerr {rv : Rv} : ∀ c ks es ds, asStr rv ≠ .err c ks es ds := by
  intro c ks es ds h
  unfold asStr at h
  split at h <;> cases h
theorem asStr_ok {rv : Rv} {a : Str} (h : asStr rv = .ok a) : rv = .fro (.str a) := by
  unfold asStr at h
  split at h
  · cases h; rfl
  · cases h
def eS1 (g : Str → D → R Rv) (fo fe : EF) : EF := fun ds => (fo ds).bind fun (p : Rv × DS) => (asStr p.1).bind fun a => (fe p.2).bind fun (q : Rv × DS) => (peek q.2 q.1).bind fun y => (g a y).bind fun rv => .ok (rv, q.2)
structure Mt1D (Γ : Gm) (r : V → List V → Hp → VK → Prop) (g : Str → D → R Rv) : Prop where
  ne : ∀ a y c ks es ds, g a y ≠ .err c ks es ds
  run : ∀ F H a y u rv, Same F H → Pk Γ F H y u → g a y = .ok rv → Gives Γ F H rv (r (.str a) [u])
section
variable {cm : CT} {X : Cx} {o e : Expr} {fo fe : EF} {apos pos : Pos} {g : Str → D → R Rv} {r : V → List V → Hp → VK → Prop}
theorem s1_t {W : WX} {σ : St} {H : Hp} {Q : VK} (M : Mt1D (gm X cm) r g) (w : tE (gm X cm) W (eS1 g fo fe) σ H Q) : tM1 r (tE (gm X cm) W fo) (tE (gm X cm) W fe) σ H Q := by
  obtain ⟨F, ds, r0, w⟩ := w
  unfold eS1 at w
  rw [R.wp_bind] at w
  refine tE_go (Step.refl r0) w fun p v H1 F1 w1 s1 ok _ => ?_
  rw [R.wp_bind] at w1
  obtain ⟨a, ea, w2⟩ := R.wp_pure asStr_noerr w1
  clear w1
  have ok : RvOk (gm X cm) (.fro (.str a)) v p.2 σ H1 F1 := by rw [← asStr_ok ea]; exact ok
  cases (show v = V.str a from ok)
  refine ⟨⟨a, rfl⟩, ?_⟩
  rw [R.wp_bind] at w2
  refine tE_go s1 w2 fun q u H2 F2 w3 s2 ok2 _ => ?_
  rw [R.wp_bind] at w3
  obtain ⟨y, ey, w3⟩ := R.wp_pure peek_noerr w3
  rw [R.wp_bind] at w3
  obtain ⟨rv, er, w3⟩ := R.wp_pure (M.ne a y) w3
  refine M.run F2 H2 a y u rv s2.rl.sub (peek_ok s2.rl ok2 ey) er Q fun v' F' H' m => ?_
  obtain ⟨z1, z2, z3⟩ := fin_made (s1.trans s2) m
  exact w3 v' H' F' z1 z2 z3
def strsOf : List D → Option (List Str)
  | [] => some []
  | .str s :: r => (strsOf r).map (s :: ·)
  | _ :: _ => none
theorem strsOf_vals {Γ : Gm} {F : Hp} : ∀ {l : List D} {bs : List Str} {vs : List V}, strsOf l = some bs → Reps Γ F l vs → vs = bs.map V.str
  | [], bs, vs, e, h => by cases e; exact h
  | .str b :: r, bs, vs, e, h => by
    unfold strsOf at e
    cases q : strsOf r with
    | none => rw [q] at e; cases e
    | some bs' =>
      rw [q] at e
      cases e
      obtain ⟨v, vr, rfl, h1, h2⟩ := h
      cases (show v = V.str b from h1)
      rw [strsOf_vals q h2]; rfl
  | .non :: _, bs, vs, e, h => by cases e
  | .int _ :: _, bs, vs, e, h => by cases e
  | .bl _ :: _, bs, vs, e, h => by cases e
  | .lst _ :: _, bs, vs, e, h => by cases e
  | .scr _ :: _, bs, vs, e, h => by cases e
  | .tup _ :: _, bs, vs, e, h => by cases e
  | .ins _ _ _ :: _, bs, vs, e, h => by cases e
  | .cls _ :: _, bs, vs, e, h => by cases e
def joinS (a : Str) (ys : List Str) : R Rv := if (ys.map (·.length)).sum + ys.length * a.length ≤ cap then .ok (.fro (.str (Txt.join a ys))) else .stuck
def joinD (a : Str) (y : D) : R Rv := match y with
  | .lst l => match strsOf l with
    | some ys => joinS a ys
    | none => .stuck
  | .tup l => match strsOf l with
    | some ys => joinS a ys
    | none => .stuck
  | _ => .stuck
def rJoin (K : PySem.W.Frag) : V → List V → Hp → VK → Prop := fun x xs H Q => ∃ a p, ∃ ys : List Str, x = .str a ∧ xs = [.ref p] ∧ (SqL K H p (ys.map V.str) ∨ SqT K H p (ys.map V.str)) ∧
      (ys.map (·.length)).sum + ys.length * a.length ≤ 16777216 ∧ Q (.str (Txt.join a ys)) H
theorem md_join : Mt1D (gm X cm) (rJoin X.K) joinD := by
  refine ⟨fun a y c ks es ds h => ?_, fun F H a y u rv sub hy e => ?_⟩
  · unfold joinD joinS at h
    split at h
    · split at h
      · split at h <;> cases h
      · cases h
    · split at h
      · split at h <;> cases h
      · cases h
    · cases h
  · unfold joinD at e
    split at e
    · split at e
      · rename_i l ys hs
        unfold joinS at e
        by_cases hc : (ys.map (·.length)).sum + ys.length * a.length ≤ cap
        · rw [if_pos hc] at e
          cases e
          obtain ⟨p, ws, rfl, h1, h2⟩ := hy.list sub
          cases strsOf_vals hs h2
          exact Gives.flat sub rfl fun Q q => ⟨a, p, ys, rfl, rfl, .inl (SqL.of h1), Nat.le_trans hc (by decide), q⟩
        · rw [if_neg hc] at e; cases e
      · cases e
    · split at e
      · rename_i l ys hs
        unfold joinS at e
        by_cases hc : (ys.map (·.length)).sum + ys.length * a.length ≤ cap
        · rw [if_pos hc] at e
          cases e
          obtain ⟨p, ws, rfl, h1, h2⟩ := hy.tup sub
          cases strsOf_vals hs h2
          exact Gives.flat sub rfl fun Q q => ⟨a, p, ys, rfl, rfl, .inr h1, Nat.le_trans hc (by decide), q⟩
        · rw [if_neg hc] at e; cases e
      · cases e
    · cases e
def splitD (a : Str) (y : D) : R Rv := match y with
  | .str b => if !(b.length == 0) && decide (a.length ≤ cap) then .ok (.own (.lst ((Txt.split a b).map D.str))) else .stuck
  | _ => .stuck
def rSplit : V → List V → Hp → VK → Prop := fun x xs H Q => ∃ a b, x = .str a ∧ xs = [.str b] ∧ (b.length == 0) = false ∧ a.length + 2 ≤ sizeLine ∧ rNewStrs (Txt.split a b) H Q
theorem reps_strs {Γ : Gm} {F : Hp} : ∀ ys : List Str, Reps Γ F (ys.map D.str) (ys.map V.str)
  | [] => rfl
  | y :: r => ⟨_, _, rfl, rfl, reps_strs r⟩
theorem md_split : Mt1D (gm X cm) rSplit splitD := by
  refine ⟨fun a y c ks es ds h => ?_, fun F H a y u rv sub hy e => ?_⟩
  · unfold splitD at h
    split at h
    · split at h <;> cases h
    · cases h
  · unfold splitD at e
    split at e
    · rename_i b
      by_cases hc : (!(b.length == 0) && decide (a.length ≤ cap)) = true
      · rw [if_pos hc] at e
        cases e
        cases pk_str hy
        simp only [Bool.and_eq_true, Bool.not_eq_true', decide_eq_true_eq] at hc
        exact fun Q q => ⟨a, b, rfl, rfl, hc.1, by have := hc.2; rw [sizeLine_eq]; unfold cap at this; omega, fun p hp => q _ _ _ (Made.own sub hp ⟨_, upd_same, reps_strs _⟩)⟩
      · rw [if_neg hc] at e; cases e
    · cases e
def findD (a : Str) (y : D) : R Rv := match y with
  | .str b => .ok (.fro (.int (Txt.find a b)))
  | _ => .stuck
theorem md_find : Mt1D (gm X cm) (fun x xs H Q => ∃ a b, x = .str a ∧ xs = [.str b] ∧ Q (.int (Txt.find a b)) H) findD := by
  refine ⟨fun a y c ks es ds h => ?_, fun F H a y u rv sub hy e => ?_⟩
  · unfold findD at h
    split at h <;> cases h
  · unfold findD at e
    split at e
    · rename_i b
      cases e
      cases pk_str hy
      exact Gives.flat sub rfl fun Q q => ⟨a, b, rfl, rfl, q⟩
    · cases e
def indexD (a : Str) (y : D) : R Rv := match y with
  | .str b => match Builtin.Str.occurrences a b 0 a.length 1 with
    | i :: _ => .ok (.fro (.int (i : Nat)))
    | [] => .stuck
  | _ => .stuck
theorem md_index : Mt1D (gm X cm) (fun x xs H Q => ∃ a b i rest, x = .str a ∧ xs = [.str b] ∧ Builtin.Str.occurrences a b 0 a.length 1 = i :: rest ∧ Q (.int (i : Nat)) H) indexD := by
  refine ⟨fun a y c ks es ds h => ?_, fun F H a y u rv sub hy e => ?_⟩
  · unfold indexD at h
    split at h
    · split at h <;> cases h
    · cases h
  · unfold indexD at e
    split at e
    · rename_i b
      split at e
      · rename_i i rest ho
        cases e
        cases pk_str hy
        exact Gives.flat sub rfl fun Q q => ⟨a, b, i, rest, rfl, rfl, ho, q⟩
      · cases e
    · cases e
variable (ho : EJ cm X o fo) (he : EJ cm X e fe)
include ho he
theorem ej_join (hs : starEach [e] X.env = [(false, eval e X.env)] := by rfl) (hbase : attributeBase o "join" X.env (eval o X.env) = eval o X.env := by rfl) (hline : (apos.endLine == pos.line) = true := by rfl) :
    EJ cm X (.Call (.Attribute o "join" apos) [e] [] pos) (eS1 joinD fo fe) := ej_by (fun W tk => pe_m1 F.slot_str_join F.type_str_join mt_join (ho W tk) (he W tk) hs hbase hline) fun W σ H Q w => s1_t md_join w
theorem ej_split (hs : starEach [e] X.env = [(false, eval e X.env)] := by rfl) (hbase : attributeBase o "split" X.env (eval o X.env) = eval o X.env := by rfl) (hline : (apos.endLine == pos.line) = true := by rfl) :
    EJ cm X (.Call (.Attribute o "split" apos) [e] [] pos) (eS1 splitD fo fe) := ej_by (fun W tk => pe_m1 F.slot_str_split F.type_str_split mt_split (ho W tk) (he W tk) hs hbase hline) fun W σ H Q w => s1_t md_split w
theorem ej_find (hs : starEach [e] X.env = [(false, eval e X.env)] := by rfl) (hbase : attributeBase o "find" X.env (eval o X.env) = eval o X.env := by rfl) (hline : (apos.endLine == pos.line) = true := by rfl) :
    EJ cm X (.Call (.Attribute o "find" apos) [e] [] pos) (eS1 findD fo fe) := ej_by (fun W tk => pe_m1 F.slot_str_find F.type_str_find mt_find (ho W tk) (he W tk) hs hbase hline) fun W σ H Q w => s1_t md_find w
theorem ej_sindex (hs : starEach [e] X.env = [(false, eval e X.env)] := by rfl) (hbase : attributeBase o "index" X.env (eval o X.env) = eval o X.env := by rfl) (hline : (apos.endLine == pos.line) = true := by rfl) :
    EJ cm X (.Call (.Attribute o "index" apos) [e] [] pos) (eS1 indexD fo fe) := ej_by (fun W tk => pe_m1 F.slot_str_index F.type_str_index mt_sindex (ho W tk) (he W tk) hs hbase hline) fun W σ H Q w => s1_t md_index w
end
def kindOfD : D → Option String
  | .non => some "NoneType"
  | .bl _ => some "bool"
  | .int _ => some "int"
  | .str _ => some "str"
  | .lst _ => some "list"
  | .tup _ => some "tuple"
  | _ => none
/-- a class of one's own among the built-in types: never but for object -/
def isT (T : String) (d : D) : R Rv := match kindOfD d with
  | some a => match kitB a T with
    | some b => okB b
    | none => .stuck
  | none => .stuck
theorem isT_noerr {T : String} {d : D} : ∀ c ks es ds, isT T d ≠ .err c ks es ds := by
  intro c ks es ds h
  unfold isT at h
  split at h
  · split at h <;> cases h
  · cases h
theorem pk_ty {K : PySem.W.Frag} {cm : CT} {F H : Hp} {d : D} {v : V} {a : String} (sub : Same F H) (h : Pk ⟨K, cm⟩ F H d v) (e : kindOfD d = some a) : TyX K H v (.type a) := by
  cases d with
  | non => cases e; cases pk_non h; exact .base .non
  | bl b => cases e; cases pk_bl h; exact .base (.bl b)
  | int i => cases e; cases pk_int h; exact .base (.int i)
  | str s => cases e; cases pk_str h; exact .base (.str s)
  | lst xs =>
    cases e
    obtain ⟨p, vs, rfl, h1, _⟩ := h.list sub
    exact .base (.lst h1)
  | tup xs =>
    cases e
    obtain ⟨p, vs, rfl, h1, _⟩ := h.tup sub
    rcases h1 with (h1 | ⟨o, h1⟩) | h1
    · exact .base (.tup h1)
    · exact .fTuple h1
    · obtain ⟨o, _, _, lk, hc, _⟩ := h1
      exact .kTuple lk hc
  | scr _ => cases e
  | ins _ _ _ => cases e
  | cls _ => cases e
def eIsT (T : String) (f : EF) : EF := fun ds => (f ds).bind fun (p : Rv × DS) => (peek p.2 p.1).bind fun d => (isT T d).bind fun rv => .ok (rv, p.2)
section
variable {cm : CT} {X : Cx} {e : Expr} {fe : EF} {p p2 pos : Pos}
theorem ej_isT {x : Str} {T : String} (nb : NoB X.mg) (hx : bootBuiltins x = some (.type T)) (hm : X.mg x = none) (he : EJ cm X e fe) (hn : x ≠ "__name__" := by decide) (hd : (x == ("__debug__" : Str)) = false := by decide) (hgx : Gl X x := by rfl) (hg : Gl X "isinstance" := by rfl)
    (hs : starEach [e, .Name x p2] X.env = (false, eval e X.env) :: starEach [.Name x p2] X.env := by rfl) (hs2 : starEach [.Name x p2] X.env = (false, eval (.Name x p2) X.env) :: starEach [] X.env := by rfl) (hpl : (backTo pos (starEach [.Name x p2] X.env)).any (·.1) = false := by rfl) :
    EJ cm X (.Call (.Name "isinstance" p) [e, .Name x p2] [] pos) (eIsT T fe) := fun W tk => by
  refine pe_imp (pe_callB (X := X) call_isi hg (nb _ (by decide)) bb_isi (pa_cons (he W tk) (pa_cons (pe_bltn (v := .ty T) hgx hm hx rfl hn hd) pa_nil hs2) hs) (by decide) (by decide) hs hpl) fun σ H Q ⟨F, ds, r, w⟩ => ?_
  unfold eIsT at w
  rw [R.wp_bind] at w
  refine tE_go (Step.refl r) w fun q v H1 F1 w1 s1 ok _ => ?_
  rw [R.wp_bind] at w1
  obtain ⟨d, ed, w1⟩ := R.wp_pure peek_noerr w1
  rw [R.wp_bind] at w1
  obtain ⟨rv, er, w1⟩ := R.wp_pure isT_noerr w1
  unfold isT at er
  split at er
  · rename_i a ha
    split at er
    · rename_i b hb
      cases er
      exact ⟨v, .ty T, .type a, .type T, b, rfl, .ty T, pk_ty s1.rl.sub (peek_ok s1.rl ok ed) ha, kit_ty hb, w1 _ H1 F1 s1 rfl trivial⟩
    · cases er
  · cases er
end
end DL
namespace DL
open PySem PySem.Spec PyProof.Rows L2
def fldIx (ks : List Str) (f : Str) : Option Nat := ks.findIdx? (· == f)
def fldD (ks : List Str) (vs : List D) (f : Str) : R D := match fldIx ks f with
  | some i => match vs[i]? with
    | some d => .ok d
    | none => .stuck
  | none => .stuck
theorem zip_lookup : ∀ {ks : List Str} {vs : List V} {f : Str} {i : Nat} {v : V}, fldIx ks f = some i → vs[i]? = some v → (ks.zip vs).lookup f = some v
  | [], vs, f, i, v, h, _ => by cases h
  | k :: ks, vs, f, i, v, h, hv => by
    unfold fldIx at h
    rw [List.findIdx?_cons] at h
    by_cases e : (k == f) = true
    · rw [if_pos e] at h
      cases h
      cases vs with
      | nil => cases hv
      | cons u vs =>
        simp at hv
        subst hv
        rw [List.zip_cons_cons, List.lookup_cons]
        have : (f == k) = true := by rw [beq_iff_eq] at e ⊢; exact e.symm
        rw [this]
    · rw [if_neg e] at h
      cases q : List.findIdx? (· == f) ks with
      | none => rw [q] at h; cases h
      | some j =>
        rw [q] at h
        cases h
        cases vs with
        | nil => simp at hv
        | cons u vs =>
          rw [List.zip_cons_cons, List.lookup_cons]
          have : (f == k) = false := by
            cases z : (f == k) with
            | false => rfl
            | true => rw [beq_iff_eq] at z; subst z; exact absurd (beq_self_eq_true f) e
          rw [this]
          exact zip_lookup (i := j) q (by simpa using hv)
theorem zip_nolookup : ∀ {ks : List Str} {vs : List V} {f : Str}, ks.contains f = false → (ks.zip vs).lookup f = none
  | [], vs, f, _ => rfl
  | k :: ks, [], f, _ => rfl
  | k :: ks, v :: vs, f, h => by
    rw [List.contains_cons, Bool.or_eq_false_iff] at h
    rw [List.zip_cons_cons, List.lookup_cons, h.1]
    exact zip_nolookup h.2
/-- what a class must have for an attribute to be read -/
structure FldOk (K : PySem.W.Frag) (C : Addr) (f : Str) : Prop where
  cl : Cls K C
  no : NoAttr K C f
def insOf (cs : List Nat) (d : D) : R (List Str × List D) := match d with
  | .ins c ks vs => if cs.contains c then .ok (ks, vs) else .stuck
  | _ => .stuck
theorem insOf_noerr {cs : List Nat} {d : D} : ∀ c ks es ds, insOf cs d ≠ .err c ks es ds := by
  intro c ks es ds h
  unfold insOf at h
  split at h
  · split at h <;> cases h
  · cases h
theorem insOf_ok {cs : List Nat} {d : D} {p : List Str × List D} (h : insOf cs d = .ok p) : ∃ c, d = .ins c p.1 p.2 ∧ c ∈ cs := by
  unfold insOf at h
  split at h
  · rename_i c ks vs
    by_cases hc : cs.contains c = true
    · rw [if_pos hc] at h
      cases h
      exact ⟨c, rfl, by simpa using hc⟩
    · rw [if_neg hc] at h; cases h
  · cases h
theorem fldD_noerr {ks' : List Str} {vs : List D} {f : Str} : ∀ c ks es ds, fldD ks' vs f ≠ .err c ks es ds := by
  intro c ks es ds h
  unfold fldD at h
  split at h
  · split at h <;> cases h
  · cases h
def eFld (cs : List Nat) (f : Str) (fe : EF) : EF := fun ds => (fe ds).bind fun (p : Rv × DS) => (peek p.2 p.1).bind fun d => (insOf cs d).bind fun (q : List Str × List D) => (fldD q.1 q.2 f).bind fun x => .ok (.fro x, p.2)
section
variable {cm : CT} {X : Cx} {e : Expr} {fe : EF} {pos : Pos} {cs : List Nat} {f : Str}
theorem ej_fld (hc : ∀ c ∈ cs, FldOk X.K (cm c) f) (he : EJ cm X e fe) (hb : attributeBase e f X.env (eval e X.env) = eval e X.env := by rfl) : EJ cm X (.Attribute e f pos) (eFld cs f fe) := fun W tk => by
  refine pe_imp (pe_fld (he W tk) hb) fun σ H Q ⟨F, ds, r, w⟩ => ?_
  unfold eFld at w
  rw [R.wp_bind] at w
  refine tE_go (Step.refl r) w fun p v H1 F1 w1 s1 ok _ => ?_
  rw [R.wp_bind] at w1
  obtain ⟨d, ed, w1⟩ := R.wp_pure peek_noerr w1
  rw [R.wp_bind] at w1
  obtain ⟨q, eq, w2⟩ := R.wp_pure insOf_noerr w1
  clear w1
  rw [R.wp_bind] at w2
  obtain ⟨x, ex, w2⟩ := R.wp_pure fldD_noerr w2
  obtain ⟨c, rfl, hcs⟩ := insOf_ok eq
  obtain ⟨a, dx, vs, rfl, ha, hl, hr⟩ := (peek_ok s1.rl ok ed).ins s1.rl.sub
  unfold fldD at ex
  split at ex
  · rename_i i hi
    split at ex
    · rename_i d' hd
      cases ex
      obtain ⟨u, h1, h2⟩ := hr.get hd
      exact ⟨a, cm c, dx, _, u, rfl, ha, (hc c hcs).cl, (hc c hcs).no, zip_lookup hi h1, w2 u H1 F1 s1 h2 trivial⟩
    · cases ex
  · cases ex
def putD (ks : List Str) (vs : List D) (f : Str) (d : D) : List Str × List D := match fldIx ks f with
  | some i => (ks, vs.set i d)
  | none => (ks ++ [f], vs ++ [d])
theorem zip_putF : ∀ {ks : List Str} {vs : List V} {f : Str} {v : V}, ks.length = vs.length → putF f v (ks.zip vs) = (match fldIx ks f with | some i => ks.zip (vs.set i v) | none => (ks ++ [f]).zip (vs ++ [v]))
  | [], [], f, v, _ => rfl
  | [], _ :: _, f, v, h => by cases h
  | _ :: _, [], f, v, h => by cases h
  | k :: ks, u :: vs, f, v, h => by
    have ih := zip_putF (ks := ks) (vs := vs) (f := f) (v := v) (by simpa using h)
    unfold fldIx at ih ⊢
    rw [List.findIdx?_cons]
    show (if k = f then (k, v) :: ks.zip vs else (k, u) :: putF f v (ks.zip vs)) = _
    by_cases e : k = f
    · subst e
      rw [if_pos rfl, if_pos (beq_self_eq_true k)]
      rfl
    · have e' : ¬ (k == f) = true := by rw [beq_iff_eq]; exact e
      rw [if_neg e, if_neg e', ih]
      cases List.findIdx? (· == f) ks with
      | none => rfl
      | some j => rfl
def sSetFld (cs : List Nat) (f : Str) (fo fe : EF) : SF := fun ds => (fe ds).toS fun p => (take p.2 p.1).toS fun z => (fo z.2).toS fun o => (asSlot o.1).toS fun j => (mineOf o.2 j).toS fun d => match d with
  | .ins c ks vs => if cs.contains c && decide (ks.length < 999) then .nx (put o.2 j (.ins c (putD ks vs f z.1).1 (putD ks vs f z.1).2)) else .stuck
  | _ => .stuck
variable {o : Expr} {fo : EF} {pos' : Pos}
theorem sj_setFld (hc : ∀ c ∈ cs, FldOk X.K (cm c) f) (he : EJ cm X e fe) (ho : EJ cm X o fo) (hs : swapsWith e (some (.Attribute o f pos')) pos.line X.env = pure false := by rfl) : SJ cm X (.Assign [.Attribute o f pos'] e pos) (sSetFld cs f fo fe) := fun W tk => by
  refine ps_imp (ps_fld (ho W tk) (he W tk) hs) fun D σ H ⟨F, ds, r, w⟩ => ?_
  unfold sSetFld at w
  rw [R.toS_wp] at w
  refine tE_goS r w fun p v H1 F1 w1 s1 ok fr => ?_
  rw [R.toS_wp] at w1
  obtain ⟨z, ez, w1⟩ := R.wp_pure take_noerr w1
  obtain ⟨F2, s2, rp, _, _, _⟩ := take_step s1 ok fr ez
  rw [R.toS_wp] at w1
  refine tE_goS' s2 w1 fun q ov H3 F3 w3 s3 ok3 _ => ?_
  rw [R.toS_wp] at w3
  obtain ⟨j, ej, w4⟩ := R.wp_pure asSlot_noerr w3
  clear w3
  have ok3 : RvOk (gm X cm) (.slot j) ov q.2 σ H3 F3 := by rw [← asSlot_ok ej]; exact ok3
  rw [R.toS_wp] at w4
  obtain ⟨d, ed, w5⟩ := R.wp_pure mineOf_noerr w4
  clear w4
  have s23 := s2.trans s3
  split at w5
  · rename_i c ks vs
    by_cases hcc : (cs.contains c && decide (ks.length < 999)) = true
    · rw [if_pos hcc] at w5
      simp only [Bool.and_eq_true, decide_eq_true_eq] at hcc
      obtain ⟨a, ha', nF, ob⟩ := s23.rl.own j _ (mineOf_ok ed)
      rw [show σ[j]? = some (some ov) from ok3] at ha'; cases ha'
      obtain ⟨dx, us, hv, hl, hr⟩ := ob
      have hmem : c ∈ cs := by simpa using hcc.1
      have hlu : ks.length = us.length := by rw [hl, ← hr.length]
      refine ⟨a, cm c, dx, _, rfl, hv, (hc c hmem).cl, (hc c hmem).no, by rw [List.length_zip]; have := Nat.min_le_left ks.length us.length; omega, ?_⟩
      have rp3 : Rep (gm X cm) F3 z.1 v := Rep.mono s3.fs _ _ rp
      refine w5 σ _ F3 (write_mine s23 (mineOf_ok ed) ok3 hv ?_)
      rw [zip_putF hlu]
      unfold putD
      cases hi : fldIx ks f with
      | some i => exact ⟨dx, us.set i v, upd_same, by rw [List.length_set]; exact hl, hr.set i rp3⟩
      | none => exact ⟨dx, us ++ [v], upd_same, by rw [List.length_append, List.length_append, hl] <;> rfl, hr.append ⟨v, [], rfl, rp3, rfl⟩⟩
    · rw [if_neg hcc] at w5
      exact False.elim w5
  · exact False.elim w5
end
abbrev spV (Γ : Gm) (fn : FnF) : Sp := fun vs H Q E => spD Γ vs.length fn vs H Q E
abbrev FR (cm : CT) (P : Program) (w : World) (K : PySem.W.Frag) (mg : Str → Option Value) (base : Heap) (k : Nat) (f : Addr) (fn : FnF) : Prop := L2.FnR P w K mg base (L2.CX P w) k f (spV ⟨K, cm⟩ fn)
def fnN (n : Nat) (fn : FnF) : FnF := fun sl => if sl.length = n then fn sl else .stuck
section
variable {cm : CT} {P : Program} {w : World} {K : PySem.W.Frag} {mg : Str → Option Value} {base : Heap} {k : Nat} {f : Addr} {fd : FuncData} {ps : List Str} {fn : FnF}
theorem spV_N {Γ : Gm} {n : Nat} {vs : List V} {H : Hp} {Q : VK} {E : XK} (h : spV Γ (fnN n fn) vs H Q E) : spD Γ n fn vs H Q E := by
  obtain ⟨F, sl, hl, r, w⟩ := h
  unfold fnN at w
  by_cases e : sl.length = n
  · rw [if_pos e] at w
    exact ⟨F, sl, by have := r.len; rw [List.length_map] at this; omega, r, w⟩
  · rw [if_neg e] at w
    exact False.elim w
theorem fr_of (F : FJ cm P w K mg base k f fd ps fn) (hb : Binds K fd ps []) : FR cm P w K mg base k f (fnN ps.length fn) :=
  (FnOk.raw F hb .nil).imp fun vs H Q E h => by
    rw [List.append_nil]
    exact spV_N h
end
section
variable {X : Cx} {CX : CXT} {k : Nat} {f C : Addr} {sp : Sp} {E : L2.St → XK} {x m : Str} {e o : Expr} {es : List Expr} {ta : TE} {t : TA} {p pos apos : Pos} {σ : L2.St}
theorem run_frS {pins : List (Addr × Obj)} {H : Hp} {s : Shared} {Q : VK} {us : List Value} {vs : List V} (F : L2.FnR X.prog X.w X.K X.mg X.base CX k f sp) (hr : Room k X.A) (hx : PassesAt CX X σ (E σ)) (I : Inv X pins σ H s) (r : Vals vs us) (h : sp vs H Q (E σ)) :
    wpAny (model X.prog X.w) X.A (call (.ref f) us) (EP X pins σ Q) X.xe s := by
  refine wpAny_call (codeAny_mono (F X.A X.stack s H us vs Q (E σ) hr I.env0 r h) fun r s' hq => ?_)
  cases r with
  | error e => exact hx pins H s e s' I hq
  | ok fl =>
    cases fl with
    | ret u => exact I.after hq
    | next => exact False.elim hq
    | brk => exact False.elim hq
    | cont => exact False.elim hq
theorem pe_callF (F : L2.FnR X.prog X.w X.K X.mg X.base CX k f sp) (hr : Room k X.A) (hg : Gl X x) (hm : X.mg x = some (.ref f)) (hk : PySem.W.keepIn X.K (.ref f) = true) (hx : ∀ σ, PassesAt CX X σ (E σ))
    (ha : PA X (e :: es) t) (hdb : (x == ("__debug__" : Str)) = false) (he : starEach (e :: es) X.env = (false, eval e X.env) :: starEach es X.env) (hpl : (backTo pos (starEach es X.env)).any (·.1) = false) :
    PE X (.Call (.Name x p) (e :: es) [] pos) (tCallS sp E t) := by
  refine ⟨fun pins s σ H Q I h => ?_⟩
  refine wpAny_Call_Name_kw (ld_glob I hg hm ?_ hdb)
  refine PySem.W.callWith_K (h₀ := X.base) I.ok.mod.kin hk (thn (ha.run pos pins s σ H _ I h) fun us s1 ⟨vs, H1, I1, r, q⟩ => ⟨I1.kIn, ?_⟩) he hpl
  exact run_frS F hr (hx σ) I1 r q
theorem pe_callF0 (F : L2.FnR X.prog X.w X.K X.mg X.base CX k f sp) (hr : Room k X.A) (hg : Gl X x) (hm : X.mg x = some (.ref f)) (hk : PySem.W.keepIn X.K (.ref f) = true) (hx : ∀ σ, PassesAt CX X σ (E σ))
    (hdb : (x == ("__debug__" : Str)) = false) : PE X (.Call (.Name x p) [] [] pos) (tCallS sp E tNil) := by
  refine ⟨fun pins s σ H Q I h => ?_⟩
  refine wpAny_Call_Name_kw (ld_glob I hg hm ?_ hdb)
  exact PySem.W.callWith_K0 I.kIn hk (run_frS (us := []) F hr (hx σ) I .nil h)
theorem pe_callFs (F : L2.FnR X.prog X.w X.K X.mg X.base CX k f sp) (hr : Room k X.A) (hg : Gl X x) (hm : X.mg x = some (.ref f)) (hk : PySem.W.keepIn X.K (.ref f) = true) (hx : ∀ σ, PassesAt CX X σ (E σ))
    (ha : PA X (e :: es) t) (hdb : (x == ("__debug__" : Str)) = false) (he : starEach (e :: es) X.env = (false, eval e X.env) :: starEach es X.env) (hst : (backTo pos (starEach es X.env)).any (·.1) = true) :
    PE X (.Call (.Name x p) (e :: es) [] pos) (tCallS sp E t) := by
  refine ⟨fun pins s σ H Q I h => ?_⟩
  refine wpAny_Call_Name_kw (ld_glob I hg hm ?_ hdb)
  refine PySem.W.callWith_S2 (h₀ := X.base) I.ok.mod.kin hk (thn (ha.run pos pins s σ H _ I h) fun us s1 ⟨vs, H1, I1, r, q⟩ => ⟨I1.kIn, ?_⟩) he hst
  exact run_frS F hr (hx σ) I1 r q
/-- o.m(..): the object first, then the arguments -/
def tMethF (C : Addr) (m : Str) (sp : Sp) (E : L2.St → XK) (ta : TE) (t : TA) : TE := fun σ H Q => ta σ H fun x H1 => ∃ a dx fs, x = .ref a ∧ H1 a = some (.ins C dx fs) ∧ fs.lookup m = none ∧
  t σ H1 fun vs H2 => sp (x :: vs) H2 Q (E σ)
theorem pe_methF {pl : Sem Bool} (he : PE X o ta) (c : Cls X.K C) (hm : Meth X.K C m f) (F : L2.FnR X.prog X.w X.K X.mg X.base CX k f sp) (hr : Room k X.A) (hx : ∀ σ, PassesAt CX X σ (E σ)) (ha : PA X (e :: es) t)
    (hst : starEach (e :: es) X.env = (false, eval e X.env) :: starEach es X.env) (hpl : (backTo pos (starEach es X.env)).any (·.1) = false)
    (ht : eval (.Call (.Attribute o m apos) (e :: es) [] pos) X.env = (do
      let ov ← eval o X.env
      standAt apos.atName
      let (f, first) ← holding [ov] (getMethod ov m pl)
      callWith pos f first (backTo pos (starEach (e :: es) X.env)) (backToKw pos (keywordEach [] X.env)))) :
    PE X (.Call (.Attribute o m apos) (e :: es) [] pos) (tMethF C m sp E ta t) := by
  refine ⟨fun pins s σ H Q I h => ?_⟩
  refine PySem.W.methodCall_KW (pl := pl) (thn (he.run pins s σ H _ I h) fun u s1 ⟨x, H1, I1, rx, a, dx, fs, ex, ea, l, q⟩ => ?_) ht
  subst ex
  obtain rfl : u = Value.ref a := rx
  refine getmeth_ok I1 ea c hm l ?_
  refine PySem.W.callWith_K (first := [.ref a]) (h₀ := X.base) I.ok.mod.kin hm.kp (thn (ha.run pos pins s1 σ H1 _ I1 q) fun us s2 ⟨vs, H2, I2, r, q2⟩ => ⟨I2.kIn, ?_⟩) hst hpl
  exact run_frS (us := .ref a :: us) (vs := .ref a :: vs) F hr (hx σ) I2 (.cons rfl r) q2
theorem pe_methF0 {pl : Sem Bool} (he : PE X o ta) (c : Cls X.K C) (hm : Meth X.K C m f) (F : L2.FnR X.prog X.w X.K X.mg X.base CX k f sp) (hr : Room k X.A) (hx : ∀ σ, PassesAt CX X σ (E σ))
    (ht : eval (.Call (.Attribute o m apos) [] [] pos) X.env = (do
      let ov ← eval o X.env
      standAt apos.atName
      let (f, first) ← holding [ov] (getMethod ov m pl)
      callWith pos f first (backTo pos (starEach [] X.env)) (backToKw pos (keywordEach [] X.env)))) :
    PE X (.Call (.Attribute o m apos) [] [] pos) (tMethF C m sp E ta tNil) := by
  refine ⟨fun pins s σ H Q I h => ?_⟩
  refine PySem.W.methodCall_KW (pl := pl) (thn (he.run pins s σ H _ I h) fun u s1 ⟨x, H1, I1, rx, a, dx, fs, ex, ea, l, q⟩ => ?_) ht
  subst ex
  obtain rfl : u = Value.ref a := rx
  refine getmeth_ok I1 ea c hm l ?_
  exact PySem.W.callWith_K0 (first := [.ref a]) I1.kIn hm.kp (run_frS (us := [.ref a]) (vs := [.ref a]) F hr (hx σ) I1 (.cons rfl .nil) q)
def tMakeF (C : Addr) (sp : Sp) (E : L2.St → XK) (t : TA) : TE := fun σ H Q => t σ H fun vs H1 => ∀ x dx, H1 x = Option.none → H1 dx = Option.none → dx ≠ x →
  sp (V.ref x :: vs) (upd (upd H1 dx (.own x)) x (.ins C dx [])) (fun v H2 => v = .non ∧ Q (.ref x) H2) (E σ)
theorem run_makeF {pins : List (Addr × Obj)} {H : Hp} {s : Shared} {Q : VK} {us : List Value} {vs : List V} (M : Mk X.K C f) (F : L2.FnR X.prog X.w X.K X.mg X.base CX k f sp) (hr : Room (k + 1) X.A) (hx : PassesAt CX X σ (E σ)) (I : Inv X pins σ H s) (r : Vals vs us)
    (h : ∀ x dx, H x = Option.none → H dx = Option.none → dx ≠ x → sp (V.ref x :: vs) (upd (upd H dx (.own x)) x (.ins C dx [])) (fun v H2 => v = .non ∧ Q (.ref x) H2) (E σ)) :
    wpAny (model X.prog X.w) X.A (call (.ref C) us) (EP X pins σ Q) X.xe s := by
  have hq := h (s.heap.objs.size + 1) s.heap.objs.size (I.hok.fresh (Nat.le_succ _)) (I.hok.fresh (Nat.le_refl _)) (Nat.ne_of_lt (Nat.lt_succ_self _))
  have I2 := Inv.made (C := C) I
  have r2 : Vals (V.ref (s.heap.objs.size + 1) :: vs) (Value.ref (s.heap.objs.size + 1) :: us) := .cons rfl r
  refine wpAny_call (make_map (f := f) I.kIn M.makes M.init (beq_iff_eq.mp M.fn) (codeAny_mono (F _ X.stack _ _ (Value.ref (s.heap.objs.size + 1) :: us) _ _ (E σ) (hr.make C us []) (I2.env0.make C us []) r2 hq) fun r s' hq' => ?_))
  cases r with
  | error e => exact hx pins _ _ e s' I2 hq'
  | ok fl =>
    cases fl with
    | ret u =>
      obtain ⟨v, H', I3, rv, ev, q3⟩ := I2.after hq'
      subst ev
      exact ⟨rv, ⟨V.ref (s.heap.objs.size + 1), H', I3, rfl, q3⟩⟩
    | next => exact False.elim hq'
    | brk => exact False.elim hq'
    | cont => exact False.elim hq'
theorem pe_makeF (M : Mk X.K C f) (F : L2.FnR X.prog X.w X.K X.mg X.base CX k f sp) (hr : Room (k + 1) X.A) (hg : Gl X x) (hm : X.mg x = some (.ref C)) (hx : ∀ σ, PassesAt CX X σ (E σ)) (ha : PA X (e :: es) t) (hdb : (x == ("__debug__" : Str)) = false)
    (he : starEach (e :: es) X.env = (false, eval e X.env) :: starEach es X.env) (hpl : (backTo pos (starEach es X.env)).any (·.1) = false) : PE X (.Call (.Name x p) (e :: es) [] pos) (tMakeF C sp E t) := by
  refine ⟨fun pins s σ H Q I h => ?_⟩
  refine wpAny_Call_Name_kw (ld_glob I hg hm ?_ hdb)
  refine PySem.W.callWith_K (h₀ := X.base) I.ok.mod.kin M.kp (thn (ha.run pos pins s σ H _ I h) fun us s1 ⟨vs, H1, I1, r, q⟩ => ⟨I1.kIn, ?_⟩) he hpl
  exact run_makeF M F hr (hx σ) I1 r q
theorem pe_makeFs (M : Mk X.K C f) (F : L2.FnR X.prog X.w X.K X.mg X.base CX k f sp) (hr : Room (k + 1) X.A) (hg : Gl X x) (hm : X.mg x = some (.ref C)) (hx : ∀ σ, PassesAt CX X σ (E σ)) (ha : PA X (e :: es) t) (hdb : (x == ("__debug__" : Str)) = false)
    (he : starEach (e :: es) X.env = (false, eval e X.env) :: starEach es X.env) (hst : (backTo pos (starEach es X.env)).any (·.1) = true) : PE X (.Call (.Name x p) (e :: es) [] pos) (tMakeF C sp E t) := by
  refine ⟨fun pins s σ H Q I h => ?_⟩
  refine wpAny_Call_Name_kw (ld_glob I hg hm ?_ hdb)
  refine PySem.W.callWith_S2 (h₀ := X.base) I.ok.mod.kin M.kp (thn (ha.run pos pins s σ H _ I h) fun us s1 ⟨vs, H1, I1, r, q⟩ => ⟨I1.kIn, ?_⟩) he hst
  exact run_makeF M F hr (hx σ) I1 r q
end
def eCallV (fn : FnF) (fa : AF) : EF := fun ds => (fa ds).bind fun (p : List Rv × DS) => callF fn p.1 p.2
section
variable {cm : CT} {X : Cx} {k : Nat} {f : Addr} {fn : FnF} {fa : AF} {e : Expr} {es : List Expr} {x : Str} {p pos : Pos}
theorem callV_t {W : WX} {σ : L2.St} {H : Hp} {Q : VK} (w : tE (gm X cm) W (eCallV fn fa) σ H Q) : tCallS (spV (gm X cm) fn) (WE W) (tA (gm X cm) W fa) σ H Q := by
  obtain ⟨F, ds, r, w⟩ := w
  unfold eCallV at w
  rw [R.wp_bind] at w
  refine tA_go (Step.refl r) w fun p vs H1 F1 w1 s1 ok fr => ?_
  exact call_sp s1 ok fr ok.len.symm w1
theorem ej_callF (Fn : FR cm X.prog X.w X.K X.mg X.base k f fn) (hr : Room k X.A) (hm : X.mg x = some (.ref f)) (hk : PySem.W.keepIn X.K (.ref f) = true) (ha : AJ cm X (e :: es) fa)
    (hg : Gl X x := by rfl) (hdb : (x == ("__debug__" : Str)) = false := by decide) (he : starEach (e :: es) X.env = (false, eval e X.env) :: starEach es X.env := by rfl) (hpl : (backTo pos (starEach es X.env)).any (·.1) = false := by rfl) :
    EJ cm X (.Call (.Name x p) (e :: es) [] pos) (eCallV fn fa) := ej_by (fun W tk => pe_callF Fn hr hg hm hk (fun σ => passAt tk σ) (ha W tk) hdb he hpl) fun W σ H Q w => callV_t w
theorem ej_callF0 (Fn : FR cm X.prog X.w X.K X.mg X.base k f fn) (hr : Room k X.A) (hm : X.mg x = some (.ref f)) (hk : PySem.W.keepIn X.K (.ref f) = true)
    (hg : Gl X x := by rfl) (hdb : (x == ("__debug__" : Str)) = false := by decide) : EJ cm X (.Call (.Name x p) [] [] pos) (eCallV fn aNil) :=
  ej_by (fun W tk => pe_callF0 Fn hr hg hm hk (fun σ => passAt tk σ) hdb) fun W σ H Q w => by
    obtain ⟨F, ds, r, w⟩ := w
    have w : (callF fn [] ds).wp _ _ := w
    exact call_sp (rvs := []) (vs := []) (Step.refl r) ⟨rfl, fun i rv h => by simp at h, fun i j d e a h => by simp at h⟩ (fun i d a h => by simp at h) rfl w
theorem ej_callFs (Fn : FR cm X.prog X.w X.K X.mg X.base k f fn) (hr : Room k X.A) (hm : X.mg x = some (.ref f)) (hk : PySem.W.keepIn X.K (.ref f) = true) (ha : AJ cm X (e :: es) fa)
    (hg : Gl X x := by rfl) (hdb : (x == ("__debug__" : Str)) = false := by decide) (he : starEach (e :: es) X.env = (false, eval e X.env) :: starEach es X.env := by rfl) (hst : (backTo pos (starEach es X.env)).any (·.1) = true := by rfl) :
    EJ cm X (.Call (.Name x p) (e :: es) [] pos) (eCallV fn fa) := ej_by (fun W tk => pe_callFs Fn hr hg hm hk (fun σ => passAt tk σ) (ha W tk) hdb he hst) fun W σ H Q w => callV_t w
end
/-- one more value ahead of others -/
theorem RvsOk.ahead {Γ : Gm} {ds0 ds1 ds2 : DS} {σ : L2.St} {H0 F0 H1 F1 H2 F2 : Hp} {rv : Rv} {v : V} {rvs : List Rv} {vs : List V} (s1 : Step Γ ds0 σ H0 F0 ds1 σ H1 F1) (ok1 : RvOk Γ rv v ds1 σ H1 F1) (fr1 : Fresh rv v H0)
    (s2 : Step Γ ds1 σ H1 F1 ds2 σ H2 F2) (ok2 : RvsOk Γ rvs vs ds2 σ H2 F2) (fr2 : Freshs rvs vs H1) : RvsOk Γ (rv :: rvs) (v :: vs) ds2 σ H2 F2 ∧ Freshs (rv :: rvs) (v :: vs) H0 := by
  have ok1' := ok1.stay s2
  refine ⟨⟨by simp [ok2.len], fun i rv h => ?_, fun i j d e a h1 h2 h3 h4 => ?_⟩, fun i d a h1 h2 => ?_⟩
  · cases i with
    | zero => simp at h; subst h; exact ⟨v, rfl, ok1'⟩
    | succ i => exact ok2.ok i rv (by simpa using h)
  · have cross : ∀ (j : Nat) (d e : D) (a : Addr), rv = .own d → rvs[j]? = some (.own e) → v = .ref a → vs[j]? = some (.ref a) → False := fun j d e a h1 h2 h3 h4 => by
      have n := fr2 j e a h2 h4
      rw [h1] at ok1
      obtain ⟨b, e1, _, ob, _⟩ := ok1
      rw [h3] at e1; cases e1
      obtain ⟨o, ho⟩ := ob.ex
      rw [n] at ho; cases ho
    cases i with
    | zero =>
      cases j with
      | zero => rfl
      | succ j =>
        simp at h1 h3
        exact (cross j d e a h1 (by simpa using h2) h3 (by simpa using h4)).elim
    | succ i =>
      cases j with
      | zero =>
        simp at h2 h4
        exact (cross i e d a h2 (by simpa using h1) h4 (by simpa using h3)).elim
      | succ j => rw [ok2.apart i j d e a (by simpa using h1) (by simpa using h2) (by simpa using h3) (by simpa using h4)]
  · cases i with
    | zero =>
      simp at h1 h2
      rw [h1] at fr1
      exact fr1 a h2
    | succ i => exact s1.back (fr2 i d a (by simpa using h1) (by simpa using h2))
/-- what a method call finds for an object of class c -/
structure MD (cm : CT) (X : Cx) (m : Str) (c : Nat) (fn : FnF) : Prop where
  ex : ∃ (k : Nat) (f : Addr), Cls X.K (cm c) ∧ Meth X.K (cm c) m f ∧ FR cm X.prog X.w X.K X.mg X.base k f fn ∧ Room k X.A
abbrev MTab := List (Nat × FnF)
def methOf (tb : MTab) (m : Str) (d : D) : R (Nat × FnF) := match d with
  | .ins c ks vs => match tb.find? (fun p => p.1 == c) with
    | some p => if ks.contains m then .stuck else .ok p
    | none => .stuck
  | _ => .stuck
theorem methOf_noerr {tb : MTab} {m : Str} {d : D} : ∀ c ks es ds, methOf tb m d ≠ .err c ks es ds := by
  intro c ks es ds h
  unfold methOf at h
  split at h
  · split at h
    · split at h <;> cases h
    · cases h
  · cases h
theorem methOf_ok {tb : MTab} {m : Str} {d : D} {p : Nat × FnF} (h : methOf tb m d = .ok p) : ∃ ks vs, d = .ins p.1 ks vs ∧ p ∈ tb ∧ ks.contains m = false := by
  unfold methOf at h
  split at h
  · rename_i c ks vs
    split at h
    · rename_i q hq
      by_cases hc : ks.contains m = true
      · rw [if_pos hc] at h; cases h
      · rw [if_neg hc] at h
        cases h
        have e : (fun p : Nat × FnF => p.1 == c) p = true := List.find?_some (p := fun p : Nat × FnF => p.1 == c) hq
        have e : (p.1 == c) = true := e
        rw [beq_iff_eq] at e
        exact ⟨ks, vs, by rw [e], List.mem_of_find?_eq_some hq, by simpa using hc⟩
    · cases h
  · cases h
def eMeth (tb : MTab) (m : Str) (fo : EF) (fa : AF) : EF := fun ds => (fo ds).bind fun (p : Rv × DS) => (peek p.2 p.1).bind fun d => (methOf tb m d).bind fun (c : Nat × FnF) => (fa p.2).bind fun (q : List Rv × DS) => callF c.2 (p.1 :: q.1) q.2
section
variable {cm : CT} {X : Cx} {tb : MTab} {m : Str} {fo : EF} {fa : AF} {o e : Expr} {es : List Expr} {p pos apos : Pos}
theorem pe_ex {ι : Type} {t : ι → TE} {P : ι → Prop} (h : ∀ i, P i → PE X e (t i)) : PE X e (fun σ H Q => ∃ i, P i ∧ t i σ H Q) := ⟨fun pins s σ H Q I ⟨i, hi, q⟩ => (h i hi).run pins s σ H Q I q⟩
theorem meth_t {W : WX} {σ : L2.St} {H : Hp} {Q : VK} {ta : WX → TA} (hta : ∀ W σ H Q, tA (gm X cm) W fa σ H Q → ta W σ H Q) (c0 : Nat × FnF) (hc0 : c0 ∈ tb) (w : tE (gm X cm) W (eMeth tb m fo fa) σ H Q) :
    ∃ c : Nat × FnF, c ∈ tb ∧ tMethF (cm c.1) m (spV (gm X cm) c.2) (WE W) (tE (gm X cm) W fo) (ta W) σ H Q := by
  obtain ⟨F, ds, r, w⟩ := w
  unfold eMeth at w
  rw [R.wp_bind] at w
  cases e : fo ds with
  | ok p =>
    have w' := w
    rw [e] at w'
    have w' : ((peek p.2 p.1).bind fun d => (methOf tb m d).bind fun (c : Nat × FnF) => (fa p.2).bind fun (q : List Rv × DS) => callF c.2 (p.1 :: q.1) q.2).wp _ _ := w'
    rw [R.wp_bind] at w'
    obtain ⟨d, ed, w1⟩ := R.wp_pure peek_noerr w'
    rw [R.wp_bind] at w1
    obtain ⟨c, ec, w2⟩ := R.wp_pure methOf_noerr w1
    clear w' w1
    obtain ⟨ks, vs, rfl, hc, hn⟩ := methOf_ok ec
    refine ⟨c, hc, F, ds, r, ?_⟩
    rw [e]
    intro v H1 F1 s1 ok fr
    obtain ⟨a, dx, us, rfl, ha, hl, hr⟩ := (peek_ok s1.rl ok ed).ins s1.rl.sub
    refine ⟨a, dx, _, rfl, ha, zip_nolookup hn, hta W σ H1 _ ?_⟩
    rw [R.wp_bind] at w2
    refine tA_go s1 w2 fun q vs H2 F2 w3 s2 oks frs => ?_
    obtain ⟨z1, z2⟩ := RvsOk.ahead s1 ok fr s2 oks frs
    exact call_sp (s1.trans s2) z1 z2 (by simp [oks.len]) w3
  | err c ks es ds' =>
    rw [e] at w
    refine ⟨c0, hc0, F, ds, r, ?_⟩
    rw [e]
    exact w
  | stuck => rw [e] at w; exact False.elim w
theorem ej_meth {pl : Sem Bool} (ht0 : tb ≠ []) (hd : ∀ c ∈ tb, MD cm X m c.1 c.2) (ho : EJ cm X o fo) (ha : AJ cm X (e :: es) fa) 
    (ht : eval (.Call (.Attribute o m apos) (e :: es) [] pos) X.env = (do
      let ov ← eval o X.env
      standAt apos.atName
      let (f, first) ← holding [ov] (getMethod ov m pl)
      callWith pos f first (backTo pos (starEach (e :: es) X.env)) (backToKw pos (keywordEach [] X.env))) := by rfl)
    (hst : starEach (e :: es) X.env = (false, eval e X.env) :: starEach es X.env := by rfl) (hpl : (backTo pos (starEach es X.env)).any (·.1) = false := by rfl) :
    EJ cm X (.Call (.Attribute o m apos) (e :: es) [] pos) (eMeth tb m fo fa) := fun W tk => by
  obtain ⟨c0, tl, rfl⟩ : ∃ c tl, tb = c :: tl := by
    cases tb with
    | nil => exact absurd rfl ht0
    | cons c tl => exact ⟨c, tl, rfl⟩
  refine pe_imp (pe_ex (P := fun c : Nat × FnF => c ∈ c0 :: tl) (t := fun c => tMethF (cm c.1) m (spV (gm X cm) c.2) (WE W) (tE (gm X cm) W fo) (tA (gm X cm) W fa)) fun c hc => ?_) fun σ H Q w => meth_t (ta := fun W => tA (gm X cm) W fa) (fun _ _ _ _ h => h) c0 (List.mem_cons_self ..) w
  obtain ⟨k, f, h1, h2, h3, h4⟩ := (hd c hc).ex
  exact pe_methF (pl := pl) (ho W tk) h1 h2 h3 h4 (fun σ => passAt tk σ) (ha W tk) hst hpl ht
theorem ej_meth0 {pl : Sem Bool} (ht0 : tb ≠ []) (hd : ∀ c ∈ tb, MD cm X m c.1 c.2) (ho : EJ cm X o fo)
    (ht : eval (.Call (.Attribute o m apos) [] [] pos) X.env = (do
      let ov ← eval o X.env
      standAt apos.atName
      let (f, first) ← holding [ov] (getMethod ov m pl)
      callWith pos f first (backTo pos (starEach [] X.env)) (backToKw pos (keywordEach [] X.env))) := by rfl) :
    EJ cm X (.Call (.Attribute o m apos) [] [] pos) (eMeth tb m fo aNil) := fun W tk => by
  obtain ⟨c0, tl, rfl⟩ : ∃ c tl, tb = c :: tl := by
    cases tb with
    | nil => exact absurd rfl ht0
    | cons c tl => exact ⟨c, tl, rfl⟩
  refine pe_imp (pe_ex (P := fun c : Nat × FnF => c ∈ c0 :: tl) (t := fun c => tMethF (cm c.1) m (spV (gm X cm) c.2) (WE W) (tE (gm X cm) W fo) tNil) fun c hc => ?_) fun σ H Q w => meth_t (ta := fun _ => tNil) (fun W σ H Q ⟨F, ds, r, w⟩ => ?_) c0 (List.mem_cons_self ..) w
  · obtain ⟨k, f, h1, h2, h3, h4⟩ := (hd c hc).ex
    exact pe_methF0 (pl := pl) (ho W tk) h1 h2 h3 h4 (fun σ => passAt tk σ) ht
  · exact w [] H F (Step.refl r) ⟨rfl, fun i rv h => by simp at h, fun i j d e a h => by simp at h⟩ fun i d a h => by simp at h
end
end DL
namespace DL
open PySem PySem.Spec PyProof.Rows L2
structure PD (cm : CT) (X : Cx) (f : Str) (c : Nat) (fn : FnF) : Prop where
  ex : ∃ (k : Nat) (p g : Addr) (fd : FuncData) (ps : List Str), Cls X.K (cm c) ∧ PropOf X.K (cm c) f p g ∧ FJ cm X.prog X.w X.K X.mg X.base k g fd ps fn ∧ Binds X.K fd ps [] ∧ ps.length = 1 ∧ Room (k + 1) X.A
def propOf (tb : MTab) (d : D) : R (Nat × FnF) := match d with
  | .ins c ks vs => match tb.find? (fun p => p.1 == c) with
    | some p => .ok p
    | none => .stuck
  | _ => .stuck
theorem propOf_noerr {tb : MTab} {d : D} : ∀ c ks es ds, propOf tb d ≠ .err c ks es ds := by
  intro c ks es ds h
  unfold propOf at h
  split at h
  · split at h <;> cases h
  · cases h
theorem propOf_ok {tb : MTab} {d : D} {p : Nat × FnF} (h : propOf tb d = .ok p) : ∃ ks vs, d = .ins p.1 ks vs ∧ p ∈ tb := by
  unfold propOf at h
  split at h
  · rename_i c ks vs
    split at h
    · rename_i q hq
      cases h
      have e : (fun p : Nat × FnF => p.1 == c) p = true := List.find?_some (p := fun p : Nat × FnF => p.1 == c) hq
      have e : (p.1 == c) = true := e
      rw [beq_iff_eq] at e
      exact ⟨ks, vs, by rw [e], List.mem_of_find?_eq_some hq⟩
    · cases h
  · cases h
def eProp (tb : MTab) (fo : EF) : EF := fun ds => (fo ds).bind fun (p : Rv × DS) => (peek p.2 p.1).bind fun d => (propOf tb d).bind fun (c : Nat × FnF) => noE (callF c.2 [p.1] p.2)
theorem cx_no {P : Program} {w : World} {X : Cx} : Passes (L2.CX P w) X (fun _ _ _ => False) := by
  rintro pins σ H s e s' I ⟨a, B, H', cls, d, ea, fl, hok, ub, na, os, ag, he⟩
  exact he.elim
section
variable {cm : CT} {X : Cx} {tb : MTab} {f : Str} {fo : EF} {o : Expr} {pos : Pos}
theorem rvs_one {Γ : Gm} {rv : Rv} {v : V} {ds : DS} {σ : L2.St} {H F : Hp} (ok : RvOk Γ rv v ds σ H F) : RvsOk Γ [rv] [v] ds σ H F := by
  refine ⟨rfl, fun i rv' h => ?_, fun i j d e a h1 h2 h3 h4 => ?_⟩
  · cases i with
    | zero => simp at h; subst h; exact ⟨v, rfl, ok⟩
    | succ i => simp at h
  · cases i with
    | zero =>
      cases j with
      | zero => rfl
      | succ j => simp at h2
    | succ i => simp at h1
theorem freshs_one {rv : Rv} {v : V} {H : Hp} (fr : Fresh rv v H) : Freshs [rv] [v] H := fun i d a h1 h2 => by
  cases i with
  | zero =>
    simp at h1 h2
    rw [h1] at fr
    exact fr a h2
  | succ i => simp at h1
theorem prop_t {W : WX} {σ : L2.St} {H : Hp} {Q : VK} (c0 : Nat × FnF) (hc0 : c0 ∈ tb) (w : tE (gm X cm) W (eProp tb fo) σ H Q) :
    ∃ c : Nat × FnF, c ∈ tb ∧ tProp (cm c.1) (spD (gm X cm) 1 c.2) [] (fun _ _ _ => False) (tE (gm X cm) W fo) σ H Q := by
  obtain ⟨F, ds, r, w⟩ := w
  unfold eProp at w
  rw [R.wp_bind] at w
  cases e : fo ds with
  | ok p =>
    have w' := w
    rw [e] at w'
    have w' : ((peek p.2 p.1).bind fun d => (propOf tb d).bind fun (c : Nat × FnF) => noE (callF c.2 [p.1] p.2)).wp _ _ := w'
    rw [R.wp_bind] at w'
    obtain ⟨d, ed, w1⟩ := R.wp_pure peek_noerr w'
    rw [R.wp_bind] at w1
    obtain ⟨c, ec, w2⟩ := R.wp_pure propOf_noerr w1
    clear w' w1
    obtain ⟨ks, vs, rfl, hc⟩ := propOf_ok ec
    refine ⟨c, hc, F, ds, r, ?_⟩
    rw [e]
    intro v H1 F1 s1 ok fr
    obtain ⟨a, dx, us, rfl, ha, hl, hr⟩ := (peek_ok s1.rl ok ed).ins s1.rl.sub
    refine ⟨a, dx, _, rfl, ha, ?_⟩
    have z := call_sp (W := WNo) (Q := Q) (n := 1) s1 (rvs_one ok) (freshs_one fr) rfl (noE_wp w2)
    exact z
  | err c ks es ds' =>
    rw [e] at w
    refine ⟨c0, hc0, F, ds, r, ?_⟩
    rw [e]
    exact w
  | stuck => rw [e] at w; exact False.elim w
theorem ej_prop (ht0 : tb ≠ []) (hd : ∀ c ∈ tb, PD cm X f c.1 c.2) (ho : EJ cm X o fo) (hab : attributeBase o f X.env (eval o X.env) = eval o X.env := by rfl) : EJ cm X (.Attribute o f pos) (eProp tb fo) := fun W tk => by
  obtain ⟨c0, tl, rfl⟩ : ∃ c tl, tb = c :: tl := by
    cases tb with
    | nil => exact absurd rfl ht0
    | cons c tl => exact ⟨c, tl, rfl⟩
  refine pe_imp (pe_ex (P := fun c : Nat × FnF => c ∈ c0 :: tl) (t := fun c => tProp (cm c.1) (spD (gm X cm) 1 c.2) [] (fun _ _ _ => False) (tE (gm X cm) W fo)) fun c hc => ?_) fun σ H Q w => prop_t c0 (List.mem_cons_self ..) w
  obtain ⟨k, p, g, fd, ps, h1, h2, h3, h4, h5, h6⟩ := (hd c hc).ex
  have h3 : FnOk X.prog X.w X.K X.mg X.base (L2.CX X.prog X.w) k g fd ps (spD (gm X cm) 1 c.2) := by rw [← h5]; exact h3
  exact pe_prop (ho W tk) h1 h2 h3 h6 h4 .nil cx_no hab
end
def eMake (c : Nat) (fn : FnF) (fa : AF) : EF := fun ds => (fa ds).bind fun (p : List Rv × DS) => match callF fn (.slot p.2.length :: p.1) (p.2 ++ [Sl.own (.ins c [] [])]) with
  | .ok (.fro .non, ds') => match ds'[p.2.length]? with
    | some (Sl.own d) => .ok (.own d, ds'.take p.2.length)
    | _ => .stuck
  | .err c ks es ds' => .err c ks es (ds'.take p.2.length)
  | _ => .stuck
section
variable {Γ : Gm} {ds ds0 ds' : DS} {σ : L2.St} {H F H0 F0 H' F' : Hp} {x dx : Addr} {c : Nat} {o : HO}
theorem ext_get {ds : DS} {s t : Sl} {i : Nat} (h : (ds ++ [s])[i]? = some t) : (i < ds.length ∧ ds[i]? = some t) ∨ (i = ds.length ∧ s = t) := by
  by_cases hi : i < ds.length
  · rw [List.getElem?_append_left hi] at h
    exact .inl ⟨hi, h⟩
  · rw [List.getElem?_append_right (by omega)] at h
    have : i - ds.length = 0 := by
      cases q : i - ds.length with
      | zero => rfl
      | succ n => rw [q] at h; simp at h
    rw [this] at h
    simp at h
    exact .inr ⟨by omega, h⟩
theorem ext_rl (r : Rl Γ ds σ H F) (hx : H x = none) (hd : H dx = none) (ne : dx ≠ x) : Rl Γ (ds ++ [Sl.own (.ins c [] [])]) (σ ++ [some (.ref x)]) (upd (upd H dx o) x (.ins (Γ.cm c) dx [])) F ∧ Same H (upd (upd H dx o) x (.ins (Γ.cm c) dx [])) := by
  have same : Same H (upd (upd H dx o) x (.ins (Γ.cm c) dx [])) := fun b u q => by
    rw [upd_ne (fun e => by rw [e, hx] at q; cases q), upd_ne (fun e => by rw [e, hd] at q; cases q)]
    exact q
  have fx : F x = none := by
    cases q : F x with
    | none => rfl
    | some u => rw [r.sub x u q] at hx; cases hx
  have mine : ∀ {i : Nat} {d : D}, Mine (ds ++ [Sl.own (.ins c [] [])]) i d → (i < ds.length ∧ Mine ds i d) ∨ (i = ds.length ∧ d = .ins c [] []) := fun {i d} m => by
    rcases m with m | m
    · rcases ext_get m with ⟨h1, h2⟩ | ⟨h1, h2⟩
      · exact .inl ⟨h1, .inl h2⟩
      · cases h2; exact .inr ⟨h1, rfl⟩
    · rcases ext_get m with ⟨h1, h2⟩ | ⟨h1, h2⟩
      · exact .inl ⟨h1, .inr h2⟩
      · cases h2
  have low : ∀ {i : Nat}, i < ds.length → (σ ++ [some (V.ref x)])[i]? = σ[i]? := fun {i} h => List.getElem?_append_left (by rw [← r.len]; exact h)
  have top : (σ ++ [some (V.ref x)])[ds.length]? = some (some (.ref x)) := by
    rw [r.len, List.getElem?_append_right (Nat.le_refl _)]
    simp
  have notx : ∀ {i : Nat} {d : D} {a : Addr}, Mine ds i d → σ[i]? = some (some (.ref a)) → a ≠ x := fun {i d a} m e ea => by
    obtain ⟨b, h1, _, h3⟩ := r.own i d m
    rw [e] at h1; cases h1
    obtain ⟨u, hu⟩ := h3.ex
    rw [ea, hx] at hu; cases hu
  refine ⟨⟨r.sub.trans same, by rw [List.length_append, List.length_append, r.len] <;> rfl, fun i d h => ?_, fun i d m => ?_, fun i j d e a h1 h2 h3 h4 => ?_, r.tb.of same fun b o h => .inl h⟩, same⟩
  · rcases ext_get h with ⟨h1, h2⟩ | ⟨h1, h2⟩
    · rw [low h1]
      exact r.fro i d h2
    · cases h2
  · rcases mine m with ⟨h1, h2⟩ | ⟨rfl, rfl⟩
    · rw [low h1]
      obtain ⟨b, k1, k2, k3⟩ := r.own i d h2
      exact ⟨b, k1, k2, k3.mono (Same.refl F) fun o q => same b o q⟩
    · exact ⟨x, top, fx, dx, [], upd_same, rfl, rfl⟩
  · rcases mine h1 with ⟨i1, m1⟩ | ⟨rfl, rfl⟩
    · rw [low i1] at h3
      rcases mine h2 with ⟨j1, m2⟩ | ⟨rfl, rfl⟩
      · rw [low j1] at h4
        exact r.apart i j d e a m1 m2 h3 h4
      · rw [top] at h4; cases h4
        exact absurd rfl (notx m1 h3)
    · rw [top] at h3; cases h3
      rcases mine h2 with ⟨j1, m2⟩ | ⟨rfl, rfl⟩
      · rw [low j1] at h4
        exact absurd rfl (notx m2 h4)
      · rfl
/-- the new object's slot is dropped -/
theorem ext_drop (s0 : Step Γ ds0 σ H0 F0 ds σ H F) (hx : H x = none) (hd : H dx = none) (ne : dx ≠ x) (s : Step Γ (ds ++ [Sl.own (.ins c [] [])]) (σ ++ [some (.ref x)]) (upd (upd H dx o) x (.ins (Γ.cm c) dx [])) F ds' (σ ++ [some (.ref x)]) H' F') :
    Step Γ ds0 σ H0 F0 (ds'.take ds.length) σ H' F' ∧ ∀ d, ds'[ds.length]? = some (Sl.own d) → RvOk Γ (.own d) (.ref x) (ds'.take ds.length) σ H' F' ∧ Fresh (.own d) (.ref x) H0 := by
  have r := s0.rl
  obtain ⟨rx, same⟩ := ext_rl (o := o) (c := c) r hx hd ne
  have hl : ds'.length = ds.length + 1 := by rw [s.ln, List.length_append] <;> rfl
  have low : ∀ {i : Nat}, i < ds.length → (σ ++ [some (V.ref x)])[i]? = σ[i]? := fun {i} h => List.getElem?_append_left (by rw [← r.len]; exact h)
  have top : (σ ++ [some (V.ref x)])[ds.length]? = some (some (.ref x)) := by
    rw [r.len, List.getElem?_append_right (Nat.le_refl _)]
    simp
  have tk : ∀ {i : Nat} {t : Sl}, (ds'.take ds.length)[i]? = some t → i < ds.length ∧ ds'[i]? = some t := fun {i t} h => by
    have hi : i < (ds'.take ds.length).length := (List.getElem?_eq_some_iff.mp h).1
    rw [List.length_take] at hi
    have hi' : i < ds.length := by omega
    rw [List.getElem?_take_of_lt hi'] at h
    exact ⟨hi', h⟩
  have mine : ∀ {i : Nat} {d : D}, Mine (ds'.take ds.length) i d → i < ds.length ∧ Mine ds' i d := fun {i d} m => by
    rcases m with m | m
    · obtain ⟨a, b⟩ := tk m; exact ⟨a, .inl b⟩
    · obtain ⟨a, b⟩ := tk m; exact ⟨a, .inr b⟩
  have ownx : ∀ b, Own (ds ++ [Sl.own (.ins c [] [])]) (σ ++ [some (.ref x)]) b → Own ds σ b ∨ b = x := fun b ⟨i, d, m, q⟩ => by
    have : (i < ds.length ∧ Mine ds i d) ∨ i = ds.length := by
      rcases m with m | m
      · rcases ext_get m with ⟨h1, h2⟩ | ⟨h1, h2⟩
        · exact .inl ⟨h1, .inl h2⟩
        · exact .inr h1
      · rcases ext_get m with ⟨h1, h2⟩ | ⟨h1, h2⟩
        · exact .inl ⟨h1, .inr h2⟩
        · exact .inr h1
    rcases this with ⟨h1, h2⟩ | rfl
    · rw [low h1] at q
      exact .inl ⟨i, d, h2, q⟩
    · rw [top] at q; cases q; exact .inr rfl
  have none_of : ∀ b, upd (upd H dx o) x (.ins (Γ.cm c) dx []) b = none → H b = none := fun b h => by
    cases q : H b with
    | none => rfl
    | some u => rw [same b u q] at h; cases h
  have rl' : Rl Γ (ds'.take ds.length) σ H' F' := by
    refine ⟨s.rl.sub, by rw [List.length_take, hl, ← r.len]; omega, fun i d h => ?_, fun i d m => ?_, fun i j d e a h1 h2 h3 h4 => ?_, s.rl.tb⟩
    · obtain ⟨h1, h2⟩ := tk h
      have := s.rl.fro i d h2
      rw [low h1] at this
      exact this
    · obtain ⟨h1, h2⟩ := mine m
      have := s.rl.own i d h2
      rw [low h1] at this
      exact this
    · obtain ⟨i1, m1⟩ := mine h1
      obtain ⟨j1, m2⟩ := mine h2
      exact s.rl.apart i j d e a m1 m2 (by rw [low i1]; exact h3) (by rw [low j1]; exact h4)
  have one : Step Γ ds σ H F (ds'.take ds.length) σ H' F' := by
    refine ⟨rl', s.fs, fun b u q nt n => s.keep b u (same b u q) nt fun z => ?_, fun b u q => ?_, fun b ⟨i, d, m, q⟩ => ?_, fun i d q => ?_, by rw [List.length_take, hl]; omega, fun b u q => s.there b u (same b u q)⟩
    · rcases ownx b z with y | rfl
      · exact n y
      · rw [hx] at q; cases q
    · rcases s.new b u q with z | z | z
      · exact .inl z
      · exact .inr (.inl (none_of b z))
      · rcases ownx b z with y | rfl
        · exact .inr (.inr y)
        · exact .inr (.inl hx)
    · obtain ⟨h1, h2⟩ := mine m
      rcases s.ow b ⟨i, d, h2, by rw [low h1]; exact q⟩ with z | z
      · rcases ownx b z with y | rfl
        · exact .inl y
        · exact .inr hx
      · exact .inr (none_of b z)
    · have hi : i < ds.length := (List.getElem?_eq_some_iff.mp q).1
      obtain ⟨⟨d', z⟩, _⟩ := s.bor i d (by rw [List.getElem?_append_left hi]; exact q)
      exact ⟨⟨d', by rw [List.getElem?_take_of_lt hi]; exact z⟩, rfl⟩
  refine ⟨s0.trans one, fun d hd' => ?_⟩
  obtain ⟨a, k1, k2, k3⟩ := s.rl.own ds.length d (.inl hd')
  rw [top] at k1; cases k1
  refine ⟨⟨x, rfl, k2, k3, fun ⟨i, e, m, q⟩ => ?_⟩, fun b e => by cases e; exact s0.back hx⟩
  obtain ⟨h1, h2⟩ := mine m
  have := s.rl.apart i ds.length e d x h2 (.inl hd') (by rw [low h1]; exact q) top
  omega
theorem ext_ok {rvs : List Rv} {vs : List V} (r : Rl Γ ds σ H F) (hx : H x = none) (hd : H dx = none) (ne : dx ≠ x) (ok : RvsOk Γ rvs vs ds σ H F) :
    RvsOk Γ (.slot ds.length :: rvs) (.ref x :: vs) (ds ++ [Sl.own (.ins c [] [])]) (σ ++ [some (.ref x)]) (upd (upd H dx o) x (.ins (Γ.cm c) dx [])) F := by
  obtain ⟨rx, same⟩ := ext_rl (o := o) (c := c) r hx hd ne
  have low : ∀ {i : Nat}, i < ds.length → (σ ++ [some (V.ref x)])[i]? = σ[i]? := fun {i} h => List.getElem?_append_left (by rw [← r.len]; exact h)
  have top : (σ ++ [some (V.ref x)])[ds.length]? = some (some (.ref x)) := by
    rw [r.len, List.getElem?_append_right (Nat.le_refl _)]
    simp
  refine ⟨by simp [ok.len], fun i rv h => ?_, fun i j d e a h1 h2 h3 h4 => ?_⟩
  · cases i with
    | zero =>
      simp at h; subst h
      exact ⟨.ref x, rfl, top⟩
    | succ i =>
      obtain ⟨v, e1, k⟩ := ok.ok i rv (by simpa using h)
      refine ⟨v, by simpa using e1, ?_⟩
      cases rv with
      | fro d => exact k
      | own d =>
        obtain ⟨a, ea, na, ob, no⟩ := k
        refine ⟨a, ea, na, ob.mono (Same.refl F) fun u q => same a u q, fun ⟨j, d', m, q⟩ => ?_⟩
        obtain ⟨u, hu⟩ := ob.ex
        have : (j < ds.length ∧ Mine ds j d') ∨ j = ds.length := by
          rcases m with m | m
          · rcases ext_get m with ⟨h1, h2⟩ | ⟨h1, h2⟩
            · exact .inl ⟨h1, .inl h2⟩
            · exact .inr h1
          · rcases ext_get m with ⟨h1, h2⟩ | ⟨h1, h2⟩
            · exact .inl ⟨h1, .inr h2⟩
            · exact .inr h1
        rcases this with ⟨h1, h2⟩ | rfl
        · rw [low h1] at q
          exact no ⟨j, d', h2, q⟩
        · rw [top] at q; cases q
          rw [hx] at hu; cases hu
      | slot j =>
        have k : σ[j]? = some (some v) := k
        show (σ ++ [some (V.ref x)])[j]? = _
        rw [List.getElem?_append_left (List.getElem?_eq_some_iff.mp k).1]
        exact k
  · cases i with
    | zero => simp at h1
    | succ i =>
      cases j with
      | zero => simp at h2
      | succ j => rw [ok.apart i j d e a (by simpa using h1) (by simpa using h2) (by simpa using h3) (by simpa using h4)]
end
section
variable {Γ : Gm} {ds ds1 : DS} {σ : L2.St} {H F H1 F1 : Hp} {x dx : Addr} {c : Nat} {o : HO}
theorem ext_step (s : Step Γ ds σ H F ds1 σ H1 F1) (r : Rl Γ ds σ H F) (hx : H1 x = none) (hd : H1 dx = none) (ne : dx ≠ x) :
    Step Γ (ds ++ [Sl.own (.ins c [] [])]) (σ ++ [some (.ref x)]) (upd (upd H dx o) x (.ins (Γ.cm c) dx [])) F (ds1 ++ [Sl.own (.ins c [] [])]) (σ ++ [some (.ref x)]) (upd (upd H1 dx o) x (.ins (Γ.cm c) dx [])) F1 := by
  have hx0 := s.back hx
  have hd0 := s.back hd
  obtain ⟨r0, same0⟩ := ext_rl (o := o) (c := c) r hx0 hd0 ne
  obtain ⟨r1, same1⟩ := ext_rl (o := o) (c := c) s.rl hx hd ne
  have low : ∀ {i : Nat}, i < ds.length → (σ ++ [some (V.ref x)])[i]? = σ[i]? := fun {i} h => List.getElem?_append_left (by rw [← r.len]; exact h)
  have top : (σ ++ [some (V.ref x)])[ds.length]? = some (some (.ref x)) := by
    rw [r.len, List.getElem?_append_right (Nat.le_refl _)]
    simp
  have up : ∀ b, Own ds σ b → Own (ds ++ [Sl.own (.ins c [] [])]) (σ ++ [some (.ref x)]) b := fun b ⟨i, d, m, q⟩ => by
    have hi : i < ds.length := by
      rcases m with m | m <;> exact (List.getElem?_eq_some_iff.mp m).1
    refine ⟨i, d, ?_, by rw [low hi]; exact q⟩
    rcases m with m | m
    · exact .inl (by rw [List.getElem?_append_left hi]; exact m)
    · exact .inr (by rw [List.getElem?_append_left hi]; exact m)
  have upx : Own (ds ++ [Sl.own (.ins c [] [])]) (σ ++ [some (.ref x)]) x := ⟨ds.length, .ins c [] [], .inl (by rw [List.getElem?_append_right (Nat.le_refl _)]; simp), top⟩
  have dn : ∀ b, Own (ds1 ++ [Sl.own (.ins c [] [])]) (σ ++ [some (.ref x)]) b → Own ds1 σ b ∨ b = x := fun b ⟨i, d, m, q⟩ => by
    have : (i < ds1.length ∧ Mine ds1 i d) ∨ i = ds1.length := by
      rcases m with m | m
      · rcases ext_get m with ⟨h1, h2⟩ | ⟨h1, h2⟩
        · exact .inl ⟨h1, .inl h2⟩
        · exact .inr h1
      · rcases ext_get m with ⟨h1, h2⟩ | ⟨h1, h2⟩
        · exact .inl ⟨h1, .inr h2⟩
        · exact .inr h1
    rcases this with ⟨h1, h2⟩ | rfl
    · rw [low (by rw [← s.ln]; exact h1)] at q
      exact .inl ⟨i, d, h2, q⟩
    · rw [s.ln, top] at q; cases q; exact .inr rfl
  have cases0 : ∀ b u, upd (upd H dx o) x (.ins (Γ.cm c) dx []) b = some u → b = x ∨ b = dx ∨ H b = some u := fun b u q => by
    by_cases e1 : b = x
    · exact .inl e1
    · rw [upd_ne e1] at q
      by_cases e2 : b = dx
      · exact .inr (.inl e2)
      · rw [upd_ne e2] at q; exact .inr (.inr q)
  have none0 : ∀ b, b ≠ x → b ≠ dx → H b = none → upd (upd H dx o) x (.ins (Γ.cm c) dx []) b = none := fun b e1 e2 q => by rw [upd_ne e1, upd_ne e2]; exact q
  refine ⟨r1, s.fs, fun b u q nt n => ?_, fun b u q => ?_, fun b q => ?_, fun i d q => ?_, by rw [List.length_append, List.length_append, s.ln] <;> rfl, fun b u q => ?_⟩
  · rcases cases0 b u q with rfl | rfl | z
    · exact absurd upx n
    · rw [upd_ne ne, upd_same] at q ⊢; exact q
    · exact same1 b u (s.keep b u z nt fun y => n (up b y))
  · have hb : b ≠ x := fun e => by
      have := s.rl.sub b u q
      rw [e, hx] at this; cases this
    have hb2 : b ≠ dx := fun e => by
      have := s.rl.sub b u q
      rw [e, hd] at this; cases this
    rcases s.new b u q with z | z | z
    · exact .inl z
    · exact .inr (.inl (none0 b hb hb2 z))
    · exact .inr (.inr (up b z))
  · rcases dn b q with z | rfl
    · have hz : b ≠ x ∧ b ≠ dx := by
        obtain ⟨i, d, m, e⟩ := z
        obtain ⟨a, k1, _, k3⟩ := s.rl.own i d m
        rw [e] at k1; cases k1
        obtain ⟨u, hu⟩ := k3.ex
        exact ⟨fun e => (by rw [e, hx] at hu; cases hu), fun e => (by rw [e, hd] at hu; cases hu)⟩
      rcases s.ow b z with y | y
      · exact .inl (up b y)
      · exact .inr (none0 b hz.1 hz.2 y)
    · exact .inl upx
  · rcases ext_get q with ⟨h1, h2⟩ | ⟨h1, h2⟩
    · obtain ⟨⟨d', z⟩, _⟩ := s.bor i d h2
      exact ⟨⟨d', by rw [List.getElem?_append_left (by rw [s.ln]; exact h1)]; exact z⟩, rfl⟩
    · cases h2
  · rcases cases0 b u q with rfl | rfl | z
    · exact ⟨_, upd_same⟩
    · exact ⟨_, by rw [upd_ne ne, upd_same]⟩
    · obtain ⟨u', z'⟩ := s.there b u z
      exact ⟨u', same1 b u' z'⟩
end
section
variable {cm : CT} {X : Cx} {k c : Nat} {f : Addr} {fn : FnF} {fa : AF} {e : Expr} {es : List Expr} {x : Str} {p pos : Pos}
def mkEnd (n : Nat) : R (Rv × DS) → R (Rv × DS)
  | .ok (.fro .non, ds') => match ds'[n]? with
    | some (Sl.own d) => .ok (.own d, ds'.take n)
    | _ => .stuck
  | .err c ks es ds' => .err c ks es (ds'.take n)
  | _ => .stuck
theorem make_t {W : WX} {σ : L2.St} {H : Hp} {Q : VK} (w : tE (gm X cm) W (eMake c fn fa) σ H Q) : tMakeF (cm c) (spV (gm X cm) fn) (WE W) (tA (gm X cm) W fa) σ H Q := by
  obtain ⟨F, ds, r, w⟩ := w
  unfold eMake at w
  rw [R.wp_bind] at w
  refine tA_go (Step.refl r) w fun p vs H1 F1 w1 s1 ok fr => ?_
  intro y dy hy hdy ne
  have okx := ext_ok (o := .own y) (c := c) s1.rl hy hdy ne ok
  have s1x := ext_step (o := .own y) (c := c) s1 r hy hdy ne
  have drop : ∀ {ds' : DS} {H' F' : Hp}, Step (gm X cm) (ds ++ [Sl.own (.ins c [] [])]) (σ ++ [some (.ref y)]) (upd (upd H dy (.own y)) y (.ins (cm c) dy [])) F ds' (σ ++ [some (.ref y)]) H' F' →
      Step (gm X cm) ds σ H F (ds'.take p.2.length) σ H' F' ∧ ∀ d, ds'[p.2.length]? = some (Sl.own d) → RvOk (gm X cm) (.own d) (.ref y) (ds'.take p.2.length) σ H' F' ∧ Fresh (.own d) (.ref y) H := fun {ds' H' F'} s => by
    have := ext_drop (Step.refl r) (s1.back hy) (s1.back hdy) ne s
    rw [← s1.ln] at this
    exact this
  have frx : Freshs (.slot p.2.length :: p.1) (V.ref y :: vs) (upd (upd H dy (.own y)) y (.ins (cm c) dy [])) := fun i d a h1 h2 => by
    cases i with
    | zero => simp at h1
    | succ i =>
      have z1 : p.1[i]? = some (.own d) := by simpa using h1
      have z2 : vs[i]? = some (V.ref a) := by simpa using h2
      obtain ⟨v, e1, k1⟩ := ok.ok i _ z1
      rw [z2] at e1; cases e1
      obtain ⟨b, eb, _, ob, _⟩ := k1
      cases eb
      obtain ⟨u, hu⟩ := ob.ex
      rw [upd_ne (fun e => by rw [e, hy] at hu; cases hu), upd_ne (fun e => by rw [e, hdy] at hu; cases hu)]
      exact fr i d a z1 z2
  have w1 : (mkEnd p.2.length (callF fn (.slot p.2.length :: p.1) (p.2 ++ [Sl.own (.ins c [] [])]))).wp _ _ := w1
  refine call_sp (W := fun cls d _ H => W cls d σ H) s1x okx frx (by simp [ok.len]) ?_
  cases e : callF fn (.slot p.2.length :: p.1) (p.2 ++ [Sl.own (.ins c [] [])]) with
  | ok q =>
    obtain ⟨rv, ds'⟩ := q
    rw [e] at w1
    intro v H' F' s' okv _
    obtain ⟨d1, d2⟩ := drop s'
    unfold mkEnd at w1
    split at w1
    · rename_i ds'' heq
      cases heq
      split at w1
      · rename_i d hd
        obtain ⟨k1, k2⟩ := d2 d hd
        exact ⟨okv, w1 _ _ F' d1 k1 k2⟩
      · exact False.elim w1
    · rename_i heq; cases heq
    · exact False.elim w1
  | err c' ks es ds' =>
    rw [e] at w1
    intro d ws H' F' s' hd hk hr
    exact w1 d ws H' F' (drop s').1 hd hk hr
  | stuck => rw [e] at w1; exact False.elim w1
theorem ej_make (M : Mk X.K (cm c) f) (Fn : FR cm X.prog X.w X.K X.mg X.base k f fn) (hr : Room (k + 1) X.A) (hm : X.mg x = some (.ref (cm c))) (ha : AJ cm X (e :: es) fa)
    (hg : Gl X x := by rfl) (hdb : (x == ("__debug__" : Str)) = false := by decide) (he : starEach (e :: es) X.env = (false, eval e X.env) :: starEach es X.env := by rfl) (hpl : (backTo pos (starEach es X.env)).any (·.1) = false := by rfl) :
    EJ cm X (.Call (.Name x p) (e :: es) [] pos) (eMake c fn fa) := ej_by (fun W tk => pe_makeF M Fn hr hg hm (fun σ => passAt tk σ) (ha W tk) hdb he hpl) fun W σ H Q w => make_t w
theorem ej_makes (M : Mk X.K (cm c) f) (Fn : FR cm X.prog X.w X.K X.mg X.base k f fn) (hr : Room (k + 1) X.A) (hm : X.mg x = some (.ref (cm c))) (ha : AJ cm X (e :: es) fa)
    (hg : Gl X x := by rfl) (hdb : (x == ("__debug__" : Str)) = false := by decide) (he : starEach (e :: es) X.env = (false, eval e X.env) :: starEach es X.env := by rfl) (hst : (backTo pos (starEach es X.env)).any (·.1) = true := by rfl) :
    EJ cm X (.Call (.Name x p) (e :: es) [] pos) (eMake c fn fa) := ej_by (fun W tk => pe_makeFs M Fn hr hg hm (fun σ => passAt tk σ) (ha W tk) hdb he hst) fun W σ H Q w => make_t w
end
def aStar (f : EF) (g : AF) : AF := fun ds => (f ds).bind fun (p : Rv × DS) => (take p.2 p.1).bind fun (q : D × DS) => (seqOf q.1).bind fun xs => (g q.2).bind fun (z : List Rv × DS) => .ok (xs.map Rv.fro ++ z.1, z.2)
where seqOf : D → R (List D)
  | .lst xs => .ok xs
  | .tup xs => .ok xs
  | _ => .stuck
theorem seqOf_noerr {d : D} : ∀ c ks es ds, aStar.seqOf d ≠ .err c ks es ds := by
  intro c ks es ds h
  unfold aStar.seqOf at h
  split at h <;> cases h
theorem RvsOk.fros {Γ : Gm} {ds : DS} {σ : L2.St} {H F : Hp} {xs : List D} {vs us : List V} {rvs : List Rv} (h : Reps Γ F xs vs) (ok : RvsOk Γ rvs us ds σ H F) : RvsOk Γ (xs.map Rv.fro ++ rvs) (vs ++ us) ds σ H F := by
  have hl : vs.length = (xs.map Rv.fro).length := by rw [List.length_map]; exact h.length
  have hi : ∀ {i : Nat} {d : D}, (xs.map Rv.fro ++ rvs)[i]? = some (Rv.own d) → ∃ j, i = xs.length + j ∧ rvs[j]? = some (Rv.own d) := fun {i d} e => by
    by_cases h1 : i < xs.length
    · rw [List.getElem?_append_left (by rw [List.length_map]; exact h1), List.getElem?_map] at e
      cases q : xs[i]? with
      | none => rw [q] at e; cases e
      | some x => rw [q] at e; cases e
    · rw [List.getElem?_append_right (by rw [List.length_map]; omega), List.length_map] at e
      exact ⟨i - xs.length, by omega, e⟩
  refine ⟨by rw [List.length_append, List.length_append, hl, ok.len], fun i rv e => ?_, fun i j d e a h1 h2 h3 h4 => ?_⟩
  · by_cases h1 : i < xs.length
    · rw [List.getElem?_append_left (by rw [List.length_map]; exact h1), List.getElem?_map] at e
      cases q : xs[i]? with
      | none => rw [q] at e; cases e
      | some x =>
        rw [q] at e; cases e
        obtain ⟨v, k1, k2⟩ := h.get q
        exact ⟨v, by rw [List.getElem?_append_left (List.getElem?_eq_some_iff.mp k1).1]; exact k1, k2⟩
    · rw [List.getElem?_append_right (by rw [List.length_map]; omega), List.length_map] at e
      obtain ⟨v, k1, k2⟩ := ok.ok _ rv e
      exact ⟨v, by rw [List.getElem?_append_right (by rw [h.length]; omega), h.length]; exact k1, k2⟩
  · obtain ⟨i', rfl, z1⟩ := hi h1
    obtain ⟨j', rfl, z2⟩ := hi h2
    rw [List.getElem?_append_right (by rw [h.length]; omega), h.length] at h3 h4
    have a1 : xs.length + i' - xs.length = i' := by omega
    have a2 : xs.length + j' - xs.length = j' := by omega
    rw [a1] at h3
    rw [a2] at h4
    rw [ok.apart i' j' d e a z1 z2 h3 h4]
theorem Freshs.fros {xs : List D} {vs us : List V} {rvs : List Rv} {H : Hp} (hl : vs.length = xs.length) (h : Freshs rvs us H) : Freshs (xs.map Rv.fro ++ rvs) (vs ++ us) H := fun i d a h1 h2 => by
  by_cases h3 : i < xs.length
  · rw [List.getElem?_append_left (by rw [List.length_map]; exact h3), List.getElem?_map] at h1
    cases q : xs[i]? with
    | none => rw [q] at h1; cases h1
    | some x => rw [q] at h1; cases h1
  · rw [List.getElem?_append_right (by rw [List.length_map]; omega), List.length_map] at h1
    rw [List.getElem?_append_right (by omega), hl] at h2
    exact h _ d a h1 h2
section
variable {cm : CT} {X : Cx} {e : Expr} {es : List Expr} {fe : EF} {fa : AF} {p : Pos}
theorem aj_star (he : EJ cm X e fe) (hr : AJ cm X es fa) (hs : starEach (.Starred e p :: es) X.env = (true, eval e X.env) :: starEach es X.env := by rfl) : AJ cm X (.Starred e p :: es) (aStar fe fa) := fun W tk => by
  refine pa_imp (StX.pa_star (he W tk) (hr W tk) hs) fun σ H Q ⟨F, ds, r, w⟩ => ?_
  unfold aStar at w
  rw [R.wp_bind] at w
  refine tE_go (Step.refl r) w fun p v H1 F1 w1 s1 ok fr => ?_
  rw [R.wp_bind] at w1
  obtain ⟨q, eq, w1⟩ := R.wp_pure take_noerr w1
  obtain ⟨F2, s2, rp, _, _, _⟩ := take_step s1 ok fr eq
  rw [R.wp_bind] at w1
  obtain ⟨xs, ex, w2⟩ := R.wp_pure seqOf_noerr w1
  clear w1
  rw [R.wp_bind] at w2
  have fin : ∀ (a : Addr) (vs : List V), v = .ref a → Reps (gm X cm) F2 xs vs → tA (gm X cm) W fa σ H1 fun ys H2 => Q (vs ++ ys) H2 := fun a vs ev rs => by
    refine tA_go s2 w2 fun z ys H3 F3 w3 s3 oks frs => ?_
    have rs3 := Reps.mono s3.fs _ _ rs
    exact w3 (vs ++ ys) H3 F3 (s2.trans s3) (RvsOk.fros rs3 oks) (Freshs.fros rs3.length fun i d a h1 h2 => s2.back (frs i d a h1 h2))
  obtain ⟨d, ds2⟩ := q
  cases d with
  | lst l =>
    cases ex
    obtain ⟨a, vs, rfl, h1, h2⟩ := rp
    exact ⟨a, vs, rfl, .inr (SqL.of (s2.rl.sub _ _ h1)), fin a vs rfl h2⟩
  | tup l =>
    cases ex
    obtain ⟨a, vs, rfl, h1, h2⟩ := rp
    exact ⟨a, vs, rfl, .inl (same_t s2.rl.sub h1), fin a vs rfl h2⟩
  | non => cases ex
  | bl _ => cases ex
  | int _ => cases ex
  | str _ => cases ex
  | scr _ => cases ex
  | ins _ _ _ => cases ex
  | cls _ => cases ex
end
end DL
namespace DL
open PySem PySem.Spec PyProof.Rows L2
def frosOf : DS → R (List D)
  | [] => .ok []
  | .fro d :: r => (frosOf r).bind fun ds => .ok (d :: ds)
  | _ :: _ => .stuck
theorem frosOf_noerr : ∀ {sl : DS} (c : Nat) (ks : List Str) (es : List D) (ds : DS), frosOf sl ≠ .err c ks es ds
  | [], c, ks, es, ds, h => by cases h
  | .fro d :: r, c, ks, es, ds, h => by
    unfold frosOf at h
    exact bind_noerr frosOf_noerr (fun a c ks es ds h => by cases h) _ _ _ _ h
  | .no :: _, c, ks, es, ds, h => by cases h
  | .own _ :: _, c, ks, es, ds, h => by cases h
  | .bor _ :: _, c, ks, es, ds, h => by cases h
theorem frosOf_get : ∀ {sl : DS} {ds : List D}, frosOf sl = .ok ds → sl = ds.map Sl.fro
  | [], ds, h => by cases h; rfl
  | .fro d :: r, ds, h => by
    unfold frosOf at h
    cases e : frosOf r with
    | ok es => rw [e] at h; cases h; rw [frosOf_get e]; rfl
    | err _ _ _ _ => rw [e] at h; cases h
    | stuck => rw [e] at h; cases h
  | .no :: _, ds, h => by cases h
  | .own _ :: _, ds, h => by cases h
  | .bor _ :: _, ds, h => by cases h
def starF (np : Nat) (fn : FnF) : FnF := fun sl => if decide (np ≤ sl.length) && decide (sl.length ≤ cap) then (frosOf (sl.drop np)).bind fun ds => fn (sl.take np ++ [Sl.fro (.tup ds)]) else .stuck
theorem reps_fros {Γ : Gm} {σ : L2.St} {F : Hp} : ∀ {ds : List D} {vs : List V}, vs.length = ds.length → (∀ (i : Nat) (d : D), ds[i]? = some d → ∃ v, vs[i]? = some v ∧ Rep Γ F d v) → Reps Γ F ds vs
  | [], vs, hl, _ => by
    have : vs = [] := List.eq_nil_of_length_eq_zero hl
    subst this; rfl
  | d :: ds, [], hl, _ => by cases hl
  | d :: ds, v :: vs, hl, h => by
    obtain ⟨u, e1, e2⟩ := h 0 d rfl
    simp at e1; subst e1
    exact ⟨v, vs, rfl, e2, reps_fros (σ := σ) (by simpa using hl) fun i d q => by
      obtain ⟨w, k1, k2⟩ := h (i + 1) d (by simpa using q)
      exact ⟨w, by simpa using k1, k2⟩⟩
section
variable {Γ : Gm} {np : Nat} {fn : FnF} {vs : List V} {H : Hp} {Q : VK} {E : XK}
theorem star_sp (h : spV Γ (starF np fn) vs H Q E) : ∃ ws rest, vs = ws ++ rest ∧ ws.length = np ∧ rest.length ≤ sizeLine ∧ ∀ p, H p = Option.none → spD Γ (np + 1) fn (ws ++ [V.ref p]) (upd H p (.tup rest)) Q E := by
  obtain ⟨F, sl, _, r, w⟩ := h
  have hl : sl.length = vs.length := by rw [r.len, List.length_map]
  unfold starF at w
  by_cases hc : (decide (np ≤ sl.length) && decide (sl.length ≤ cap)) = true
  rotate_left
  · rw [if_neg hc] at w; exact False.elim w
  rw [if_pos hc] at w
  simp only [Bool.and_eq_true, decide_eq_true_eq] at hc
  rw [R.wp_bind] at w
  obtain ⟨es, ee, w⟩ := R.wp_pure frosOf_noerr w
  have hes := frosOf_get ee
  have hel : es.length = vs.length - np := by
    have := congrArg List.length hes
    rw [List.length_drop, List.length_map, hl] at this
    omega
  have mp : ∀ {i : Nat}, (vs.map some)[i]? = (vs[i]?).map some := fun {i} => List.getElem?_map ..
  have of_ : ∀ {i : Nat} {v : V}, (vs.map some)[i]? = some (some v) → vs[i]? = some v := fun {i v} q => by
    rw [mp] at q
    cases e : vs[i]? with
    | none => rw [e] at q; cases q
    | some u => rw [e] at q; cases q; rfl
  have high : ∀ {i : Nat} {s : Sl}, np ≤ i → sl[i]? = some s → ∃ d, s = .fro d ∧ es[i - np]? = some d := fun {i s} hi q => by
    have e : (sl.drop np)[i - np]? = some s := by rw [List.getElem?_drop]; rw [show np + (i - np) = i by omega]; exact q
    rw [hes, List.getElem?_map] at e
    cases z : es[i - np]? with
    | none => rw [z] at e; cases e
    | some d => rw [z] at e; cases e; exact ⟨d, rfl, rfl⟩
  have hrest : Reps Γ F es (vs.drop np) := reps_fros (σ := []) (by rw [List.length_drop, hel]) fun i d q => by
    have e : sl[np + i]? = some (.fro d) := by
      have : (sl.drop np)[i]? = some (Sl.fro d) := by rw [hes, List.getElem?_map, q]; rfl
      rwa [List.getElem?_drop] at this
    obtain ⟨v, h1, h2⟩ := r.fro _ d e
    exact ⟨v, by rw [List.getElem?_drop]; exact of_ h1, h2⟩
  have hwl : (vs.take np).length = np := by rw [List.length_take]; omega
  refine ⟨vs.take np, vs.drop np, (List.take_append_drop np vs).symm, hwl, by rw [List.length_drop]; have := cap_le hc.2; omega, fun p hp => ?_⟩
  have hFp : F p = none := by
    cases q : F p with
    | none => rfl
    | some u => rw [r.sub p u q] at hp; cases hp
  have sF : Same F (upd F p (.tup (vs.drop np))) := same_upd hFp
  have sH : Same H (upd H p (.tup (vs.drop np))) := fun b u q => by rw [upd_ne (fun e => by rw [e, hp] at q; cases q)]; exact q
  -- the slots of the body
  have hsl : (sl.take np).length = np := by rw [List.length_take]; omega
  have sget : ∀ {i : Nat} {s : Sl}, (sl.take np ++ [Sl.fro (.tup es)])[i]? = some s → (i < np ∧ sl[i]? = some s) ∨ (i = np ∧ s = .fro (.tup es)) := fun {i s} q => by
    rcases ext_get q with ⟨h1, h2⟩ | ⟨h1, h2⟩
    · rw [hsl] at h1
      rw [List.getElem?_take_of_lt h1] at h2
      exact .inl ⟨h1, h2⟩
    · rw [hsl] at h1
      exact .inr ⟨h1, h2.symm⟩
  have vlow : ∀ {i : Nat}, i < np → (vs.take np ++ [V.ref p])[i]? = vs[i]? := fun {i} hi => by
    rw [List.getElem?_append_left (by rw [hwl]; exact hi), List.getElem?_take_of_lt hi]
  have vtop : (vs.take np ++ [V.ref p])[np]? = some (V.ref p) := by
    rw [List.getElem?_append_right (by rw [hwl]; exact Nat.le_refl _), hwl]
    simp
  have wmp : ∀ {i : Nat} {v : V}, ((vs.take np ++ [V.ref p]).map some)[i]? = some (some v) ↔ (vs.take np ++ [V.ref p])[i]? = some v := fun {i v} => by
    rw [List.getElem?_map]
    cases (vs.take np ++ [V.ref p])[i]? with
    | none => simp
    | some u => simp
  have mine : ∀ {i : Nat} {d : D}, Mine (sl.take np ++ [Sl.fro (.tup es)]) i d → i < np ∧ Mine sl i d := fun {i d} m => by
    rcases m with m | m
    · rcases sget m with ⟨h1, h2⟩ | ⟨_, h2⟩
      · exact ⟨h1, .inl h2⟩
      · cases h2
    · rcases sget m with ⟨h1, h2⟩ | ⟨_, h2⟩
      · exact ⟨h1, .inr h2⟩
      · cases h2
  have r' : Rl Γ (sl.take np ++ [Sl.fro (.tup es)]) ((vs.take np ++ [V.ref p]).map some) (upd H p (.tup (vs.drop np))) (upd F p (.tup (vs.drop np))) := by
    refine ⟨fun b u q => ?_, by rw [List.length_append, List.length_map, List.length_append, hsl, hwl] <;> rfl, fun i d q => ?_, fun i d m => ?_, fun i j d e a h1 h2 h3 h4 => ?_, r.tb.of sH fun b o q => ?_⟩
    rotate_right
    · by_cases e : b = p
      · subst e; exact .inr hp
      · rw [upd_ne e] at q; exact .inl q
    · by_cases e : b = p
      · subst e; rw [upd_same] at q ⊢; exact q
      · rw [upd_ne e] at q ⊢; exact r.sub b u q
    · rcases sget q with ⟨h1, h2⟩ | ⟨h1, h2⟩
      · obtain ⟨v, k1, k2⟩ := r.fro i d h2
        exact ⟨v, wmp.mpr (by rw [vlow h1]; exact of_ k1), Rep.mono sF d v k2⟩
      · cases h2
        subst h1
        exact ⟨.ref p, wmp.mpr vtop, p, vs.drop i, rfl, SqT.of upd_same, Reps.mono sF _ _ hrest⟩
    · obtain ⟨h1, m'⟩ := mine m
      obtain ⟨a, k1, k2, k3⟩ := r.own i d m'
      have na : a ≠ p := fun e => by
        obtain ⟨u, hu⟩ := k3.ex
        rw [e, hp] at hu; cases hu
      exact ⟨a, wmp.mpr (by rw [vlow h1]; exact of_ k1), by rw [upd_ne na]; exact k2, k3.mono sF fun o q => sH a o q⟩
    · obtain ⟨i1, m1⟩ := mine h1
      obtain ⟨j1, m2⟩ := mine h2
      have g3 := wmp.mp h3
      have g4 := wmp.mp h4
      rw [vlow i1] at g3
      rw [vlow j1] at g4
      exact r.apart i j d e a m1 m2 (by rw [mp, g3]; rfl) (by rw [mp, g4]; rfl)
  have ownB : ∀ b, Own (sl.take np ++ [Sl.fro (.tup es)]) ((vs.take np ++ [V.ref p]).map some) b → Own sl (vs.map some) b := fun b ⟨i, d, m, q⟩ => by
    obtain ⟨h1, m'⟩ := mine m
    have g := wmp.mp q
    rw [vlow h1] at g
    exact ⟨i, d, m', by rw [mp, g]; rfl⟩
  have noneB : ∀ b, upd H p (.tup (vs.drop np)) b = none → H b = none := fun b q => by
    cases z : H b with
    | none => rfl
    | some u => rw [sH b u z] at q; cases q
  have ownI : ∀ {i : Nat} {d : D} {b : Addr}, (sl.take np ++ [Sl.fro (.tup es)])[i]? = some (Sl.own d) → (vs.take np ++ [V.ref p])[i]? = some (.ref b) → sl[i]? = some (Sl.own d) ∧ vs[i]? = some (.ref b) := fun {i d b} q1 q2 => by
    rcases sget q1 with ⟨h1, h2⟩ | ⟨_, h2⟩
    · rw [vlow h1] at q2; exact ⟨h2, q2⟩
    · cases h2
  have back : ∀ {s'' : DS} {H' F' : Hp}, FnStep Γ (sl.take np ++ [Sl.fro (.tup es)]) (vs.take np ++ [V.ref p]) (upd H p (.tup (vs.drop np))) (upd F p (.tup (vs.drop np))) s'' H' F' → FnStep Γ sl vs H F s'' H' F' := fun {s'' H' F'} c => by
    refine ⟨c.sub, sF.trans c.fs, fun b o q nt n => c.keep b o (sH b o q) nt fun z => n (ownB b z), c.tb, fun b o q => ?_, fun i d q => ?_, fun b o q => c.there b o (sH b o q)⟩
    · rcases c.new b o q with z | z | ⟨i, d, z1, z2⟩
      · by_cases e : b = p
        · subst e; exact .inr (.inl hp)
        · rw [upd_ne e] at z; exact .inl z
      · exact .inr (.inl (noneB b z))
      · obtain ⟨y1, y2⟩ := ownI z1 z2
        exact .inr (.inr ⟨i, d, y1, y2⟩)
    · have hi : i < np := by
        rcases Nat.lt_or_ge i np with z | z
        · exact z
        · obtain ⟨d', z1, _⟩ := high z q
          cases z1
      have q' : (sl.take np ++ [Sl.fro (.tup es)])[i]? = some (Sl.bor d) := by
        rw [List.getElem?_append_left (by rw [hsl]; exact hi), List.getElem?_take_of_lt hi]; exact q
      obtain ⟨a, d', k1, k2, k3, k4⟩ := c.bor i d q'
      rw [vlow hi] at k1
      exact ⟨a, d', k1, k2, k3, k4⟩
  refine ⟨upd F p (.tup (vs.drop np)), _, by rw [List.length_append, hwl] <;> rfl, r', R.wp_mono w (fun q _ hq v H' F' c rv => hq v H' F' (back c) ?_) fun c ks ds' sl' hq d ws H' F' cs => hq d ws H' F' (back cs)⟩
  cases q1 : q.1 with
  | fro d => rw [q1] at rv; exact rv
  | own d =>
    rw [q1] at rv
    obtain ⟨a, e, na, ob, or_⟩ := rv
    refine ⟨a, e, na, ob, ?_⟩
    rcases or_ with z | ⟨i, d', z1, z2⟩
    · exact .inl (noneB a z)
    · obtain ⟨y1, y2⟩ := ownI z1 z2
      exact .inr ⟨i, d', y1, y2⟩
  | slot i => rw [q1] at rv; exact rv
end
/-- a def's body keeps the data promise, entered at its values -/
theorem body_sp {cm : CT} {P : Program} {w : World} {K : PySem.W.Frag} {N : List Str} {n nl : Nat} {g : SF} {X : Cx} {body : List Stmt} {vs : List V} {H : Hp} {Q : VK} {E : XK} (hX : X.K = K) (hN : N.length = n + nl)
    (tk : Takes X (fun cls d _ H => E cls d H)) (hbody : BJ cm X body g) (h : spD ⟨K, cm⟩ n (fnB n nl g) vs H Q E) :
    ∃ t, PSs X body t ∧ t { nx := fun _ H' => Q .non H', rt := Q } (L2.start N vs) H := by
  subst hX
  obtain ⟨F, sl, hl, r, w⟩ := h
  refine ⟨_, hbody (fun cls d _ H => E cls d H) tk, ?_⟩
  have r2 := start_rl (N := N) (n := nl) r (by rw [hN, hl])
  refine ⟨F, _, r2, ?_⟩
  unfold fnB at w
  cases e : g (sl ++ List.replicate nl .no) with
  | nx ds =>
    rw [e] at w
    intro σ' H' F' s'
    have es := end_step r s'
    rw [hl] at es
    exact w .non H' F' es rfl
  | rt rv ds =>
    rw [e] at w
    intro v σ' H' F' s' ok fr
    cases e2 : finish rv ds with
    | ok rv' =>
      simp only [e2] at w
      have es := end_step r s'
      rw [hl] at es
      exact w v H' F' es (end_rv r s' ok fr e2)
    | err _ _ _ _ =>
      exfalso
      cases rv with
      | fro d => cases e2
      | own d => cases e2
      | slot i =>
        dsimp only [finish] at e2
        split at e2 <;> cases e2
    | stuck => simp only [e2] at w; exact w.elim
  | bk ds => rw [e] at w; exact w.elim
  | ct ds => rw [e] at w; exact w.elim
  | err c ks es ds =>
    rw [e] at w
    intro d vs' σ' H' F' s' hd hk hr
    have es := end_step r s'
    rw [hl] at es
    exact w d vs' H' F' es hd hk hr
  | stuck => rw [e] at w; exact w.elim
/-- THE RULE for a def with a star parameter -/
theorem fr_star {cm : CT} {P : Program} {w : World} {K : PySem.W.Frag} {mg : Str → Option Value} {base : Heap} {x qual pv : Str} {st : Stmt} {f : Addr} {fd : FuncData} {N ps : List Str} {k nl : Nat} {g : SF} (Fn : Fun K x qual st f fd) (S : FnScope N (ps ++ [pv]) (defScope st)) (hN : N.length = ps.length + 1 + nl)
    (hb : ∀ us rest : List Value, us.length = ps.length → bindArgs fd ⟨us ++ rest, []⟩ = (newTuple rest >>= fun t => pure (ps.zip us ++ [(pv, t)])))
    (hbody : ∀ (cdv : Value) (A : Around) (outer : List Env) (s : Shared) (H : Hp) (E : XK), Room k (A.deeper (envOfC qual (defScope st) s.heap.objs.size f cdv)) → BJ cm (cxOf (L2.CX P w) P w K mg base N qual (defScope st) f cdv A outer s H E) (defBody st) g) :
    FR cm P w K mg base (k + 1) f (starF ps.length (fnB (ps.length + 1) nl g)) := by
  obtain ⟨oc, od, kV, doc, pm, an, cdv, ct, osl, rfl, lk, hcd⟩ := Fn.ex
  refine (StX.fn_star lk hcd S StX.cxUp hb (sp := spD ⟨K, cm⟩ (ps.length + 1) (fnB (ps.length + 1) nl g)) fun A outer s H vs Q E hr hsp => ?_).imp fun vs H Q E h => star_sp h
  exact body_sp (P := P) (w := w) rfl hN (takes_of rfl rfl rfl rfl) (hbody cdv A outer s H E hr) hsp
end DL
namespace PySem
open PySem.W
section
variable {prog : Program} {w : World} {A : Around} {E : Value → Shared → Prop} {h : Heap} {g : Array GenState} {d : Drawn} {t : Nat} {os : OsState}
theorem dl_getAttr_super {so D x C f : Addr} {of : Obj} {l₀ l : List Value} {K : Frag} {name : Str} {b : Bool} {Q : Value → Shared → Prop}
    (hso : h.get? so = some { cls := .type "super", dict := none, data := .fields #[.ref D, .ref x, .ref C], slots := #[] }) (hno : Looks (model prog w) h (opaqueClassAbove (.ref C)) none)
    (hC : Looks (model prog w) h (mroOf (.ref C)) l₀) (hl : (l₀.dropWhile (· != .ref D)).drop 1 = l) (X : K.In h)
    (hf : alongIn K name l = some (some (.ref f))) (hfo : h.get? f = some of) (hfc : of.cls = .type "function") (hxC : x ≠ C) (hn : (name == ("__class__" : Str)) = false)
    (hq : Q (.ref h.objs.size) ⟨h.push { cls := .type "method", data := .fields #[.ref f, .ref x] }, g, d, t + 1, os⟩) :
    wpAny (model prog w) A (getAttr (.ref so) name b) Q E ⟨h, g, d, t, os⟩ := by
  have hlk := F.ks_slot_super_ga.lookup
  have hcan := F.ks_canon_super_ga
  have hT : ∀ t', (⟨h, g, d, t', os⟩ : Shared).TypeIs (.ref so) "super" := fun _ => ⟨_, hso, rfl⟩
  unfold getAttr getAttrBy
  refine wpAny_bind (wpAny_mkText (wpAny_holding (wpAny_bind (wpAny_typeOf (hT _) (wpAny_bind (wpAny_of_eq hlk ?_))))))
  show wpAny _ _ (getAttrByItsOwn (.ref so) (.str name t) (.type "super") (.builtin "super.__getattribute__") true b) _ _ _
  unfold getAttrByItsOwn hookBefore callGetattribute boundAndCalled
  refine wpAny_bind (wpAny_of_eq (show (if onTheHeap (.type "super") then typeLookup (.type "super") "__getattr__" else pure none) = pure none from rfl) ?_)
  refine wpAny_bind (wpAny_attempt (wpAny_holding ?_))
  cases b
  all_goals
    show wpAny _ _ (bindSpecial (.builtin "super.__getattribute__") (.ref so) >>= _) _ _ _
    refine wpAny_bind (wpAny_of_eq (F.ks_slot_super_ga.bind _) ?_)
    refine wpAny_mono (Q := fun v s' => v = .ref h.objs.size ∧ s' = ⟨h.push { cls := .type "method", data := .fields #[.ref f, .ref x] }, g, d, t + 1, os⟩) (E := fun _ _ => False)
      (wpAny_call_entry F.ks_slot_super_ga (hT _) F.ks_entry_super_ga (ks_wpAny_super_ga hso hno hC hl X hf hfo hfc hxC hn ⟨_, rfl, rfl, rfl⟩) (F.ks_gaArgs_super _ _)) (fun v s' hv => ?_) fun _ _ z => z.elim
    obtain ⟨rfl, rfl⟩ := hv
    exact wpAny_pure hq
end
end PySem
namespace DL
open PySem PySem.Spec PyProof.Rows L2
structure PEa (X : Cx) (b0 : List Stmt) (e : Expr) (t : TE) : Prop where
  run : ∀ (pins : List (Addr × Obj)) (s : Shared) (σ : L2.St) (H : Hp) (Q : VK), Inv X pins σ H s → t σ H Q → _root_.PySem.wpAt (model X.prog X.w) X.A (.func b0 X.env) (eval e X.env) (EP X pins σ Q) X.xe s
structure PSa (X : Cx) (b0 : List Stmt) (st : Stmt) (t : TS) : Prop where
  run : ∀ (pins : List (Addr × Obj)) (s : Shared) (σ : L2.St) (H : Hp) (D : Ends), Inv X pins σ H s → t D σ H → _root_.PySem.wpAt (model X.prog X.w) X.A (.func b0 X.env) (exec st X.env) (SP X pins D) X.xe s
structure PSsa (X : Cx) (b0 : List Stmt) (st : List Stmt) (t : TS) : Prop where
  run : ∀ (pins : List (Addr × Obj)) (s : Shared) (σ : L2.St) (H : Hp) (D : Ends), Inv X pins σ H s → t D σ H → _root_.PySem.wpAt (model X.prog X.w) X.A (.func b0 X.env) (execs st X.env) (SP X pins D) X.xe s
section
variable {X : Cx} {b0 : List Stmt} {e a : Expr} {st : Stmt} {sts : List Stmt} {te ta : TE} {t u : TS} {pos : Pos}
theorem PEa.of (h : PE X e te) : PEa X b0 e te := ⟨fun pins s σ H Q I w => _root_.PySem.wpAt_of_wpAny (h.run pins s σ H Q I w)⟩
theorem PSa.of (h : PS X st t) : PSa X b0 st t := ⟨fun pins s σ H D I w => _root_.PySem.wpAt_of_wpAny (h.run pins s σ H D I w)⟩
theorem psa_expr (he : PEa X b0 e te) (hs : swapsWith e none pos.line X.env = pure false) : PSa X b0 (.Expr e pos) (tDrop te) := by
  refine ⟨fun pins s σ H D I h => ?_⟩
  exact ks_wpAt_Expr_any (_root_.PySem.wpAt_mono (he.run pins s σ H _ I h) (fun v s1 ⟨x, H1, I1, r1, q1⟩ => ⟨σ, H1, I1, q1⟩) fun _ _ z => z) I.quiet hs
theorem psa_ret (he : PEa X b0 e te) : PSa X b0 (.Return (some e) pos) (tRet te) := by
  refine ⟨fun pins s σ H D I h => ?_⟩
  exact ks_wpAt_Return_some (_root_.PySem.wpAt_mono (he.run pins s σ H _ I h) (fun v s1 ⟨x, H1, I1, r1, q1⟩ => ⟨x, σ, H1, I1, r1, q1⟩) fun _ _ z => z)
theorem pssa_nil : PSsa X b0 [] tNext := ⟨fun pins s σ H D I h => _root_.PySem.wpAt_of_wpAny ((pss_nil (X := X)).run pins s σ H D I h)⟩
theorem pssa_cons (h1 : PSa X b0 st t) (h2 : PSsa X b0 sts u) : PSsa X b0 (st :: sts) (tSeq t u) := by
  refine ⟨fun pins s σ H D I h => ?_⟩
  rw [execs_cons]
  refine _root_.PySem.wpAt_bind (_root_.PySem.wpAt_mono (h1.run pins s σ H { D with nx := u D } I h) (fun f s1 q => ?_) fun _ _ z => z)
  cases f with
  | next =>
    obtain ⟨σ', H', I', q⟩ := q
    exact h2.run pins s1 σ' H' D I' q
  | ret v => exact _root_.PySem.wpAt_of_wpAny (wpAny_pure q)
  | brk => exact _root_.PySem.wpAt_of_wpAny (wpAny_pure q)
  | cont => exact _root_.PySem.wpAt_of_wpAny (wpAny_pure q)
end
/-- what of the text a def's context must have for super() -/
structure SupX (X : Cx) (D : Addr) : Prop where
  ex : ∃ (f c cc : Addr) (fd : FuncData) (ar : Arg) (vs : Array Value) (file : Str) (tf : Tok) (oc ccl cl : Value) (od cdd cld : Option Addr) (osl ccs csl : Array (Option Value)) (cdD : ClassData),
    X.env.func = some f ∧ X.K.lookup f = some ⟨oc, od, .func fd, osl⟩ ∧ (fd.params.posonlyargs ++ fd.params.args).head? = some ar ∧ X.env.code = .ref c ∧ X.K.lookup c = some ⟨ccl, cdd, .fields vs, ccs⟩ ∧ vs[2]? = some (.str file tf) ∧ ((X.prog.main.file : Str) == file) = true ∧
    X.env.cells.lookup ("__class__" : Str) = some cc ∧ X.K.lookup cc = some ⟨cl, cld, .cell (some (.ref D)), csl⟩ ∧ PySem.W.clsIn X.K D = some cdD ∧ X.N[0]? = some ar.arg ∧ X.env.scope.names.lookup ar.arg = some .local
  hks : X.env.scope.names.lookup ("super" : Str) = some .globalImplicit
  hkc : X.env.scope.names.lookup ("__class__" : Str) = some .free
  mg : X.mg "super" = none
  top : (X.prog.main.scope.names.lookup ("super" : Str)).isSome = false
  ot : PySem.W.nsIn X.K cStatics "thirdparty.any" = some none
/-- the class C of the object, the method's def at g -/
structure SupC (K : PySem.W.Frag) (D C g : Addr) (m : Str) : Prop where
  at_ : PySem.W.ks_superIn K C D m = some (some (.ref g))
  ty : PySem.W.typeIn K (.ref g) = some (.type "function")
  fi : PySem.W.fnIn K g = true
  sub : PySem.W.mroIn K C (.ref D) = some true
  nc : (m == ("__class__" : Str)) = false
section
variable {X : Cx} {b0 : List Stmt} {D C g a dx : Addr} {fs : List (Str × V)} {m : Str} {pins : List (Addr × Obj)} {σ : L2.St} {H : Hp} {s : Shared} {p0 p1 : Pos} {whole : Sem Value}
theorem sup_base (S : SupX X D) (hn : (m == ("__class__" : Str)) = false) (hsub : PySem.W.mroIn X.K C (.ref D) = some true) (I : Inv X pins σ H s) (hs : σ[0]? = some (some (.ref a))) (ha : H a = some (.ins C dx fs)) :
    _root_.PySem.wpAt (model X.prog X.w) X.A (.func b0 X.env) (attributeBase (.Call (.Name "super" p0) [] [] p1) m X.env whole)
      (fun ov s' => ∃ so, ov = .ref so ∧ s'.heap.get? so = some (PySem.W.ks_superObj D a C) ∧ Inv X pins σ H s') X.xe s := by
  obtain ⟨f, c, cc, fd, ar, vs, file, tf, oc, ccl, cl, od, cdd, cld, osl, ccs, csl, cdD, e1, e2, e3, e4, e5, e6, e7, e8, e9, e10, e11, e12⟩ := S.ex
  have K := I.kIn
  obtain ⟨mA, O, _, _, _, _⟩ := ins_get I.hok ha
  obtain ⟨oD, hD1, hD2⟩ : ∃ oD, s.heap.get? D = some oD ∧ oD.data = .cls cdD := by
    unfold PySem.W.clsIn at e10
    split at e10
    · rename_i c d cd' sl ho
      cases e10
      exact ⟨_, K _ _ ho, rfl⟩
    · cases e10
  obtain ⟨mm, hN, hl⟩ := I.loc
  obtain ⟨u, ru, lk⟩ := hl 0 ar.arg (.ref a) e11 hs (.inl e12)
  obtain rfl : u = Value.ref a := ru
  have hself : mm ar.arg = some (.ref a) := by
    rcases lk with ⟨_, h⟩ | ⟨h, _⟩
    · exact h
    · have h : X.env.scope.names.lookup ar.arg = some .cell ∨ X.env.scope.names.lookup ar.arg = some .free := h
      rw [e12] at h
      rcases h with h | h <;> cases h
  obtain ⟨mb, hb1, hb2⟩ := I.mod.blt
  refine ks_wpAt_super_base (env := X.env) S.hks S.hkc hn e1 (K _ _ e2) rfl e3 e4 (K _ _ e5) rfl e6 e7 S.top ?_
  refine PySem.W.ks_loadName_global I.ok.kind S.hks (Calls.loadGlobal_builtin (by rw [I.ok.glob]; exact I.mod.glob.keeps I.bk) S.mg (by rw [I.ok.blt]; exact hb1.keeps I.bk) ((hb2 "super" (by decide)).trans (by decide +kernel : bootBuiltins "super" = some (.type "super"))) ⟨rfl, ?_⟩)
  refine wpAny_loadName_free I.ok.kind S.hkc e8 ⟨_, K _ _ e9, rfl⟩ ?_
  refine wpAny_loadName_local I.ok.kind e12 hN hself ?_
  obtain ⟨hh, gg, d, t, os⟩ := s
  refine ks_wpAny_isType_cls hD1 hD2 ⟨rfl, ?_⟩
  obtain ⟨oa, J, _⟩ := O.look
  refine ks_wpAny_call_super hD1 hD2 J.at_ J.cls (fun c e => ?_) (PySem.W.looks_mroIn K hsub) (fun h' e k => ?_)
  · have := J.no
    unfold PySem.W.notCls at this
    rw [e] at this
    exact Bool.noConfusion this
  · exact ⟨_, rfl, e, I.kept (t' := t) k⟩
/-- super().m as a value: the method's object is laid -/
theorem sup_get {b : Bool} {so : Addr} {Q : Value → Shared → Prop} {E : Value → Shared → Prop} (S : SupX X D) (c : SupC X.K D C g m) (I : Inv X pins σ H s) (ha : H a = some (.ins C dx fs)) (hso : s.heap.get? so = some (PySem.W.ks_superObj D a C))
    (h : ∀ q s', H q = none → Inv X pins σ (upd H q (.met g a)) s' → Q (.ref q) s') : wpAny (model X.prog X.w) X.A (getAttr (.ref so) m b) Q E s := by
  have K := I.kIn
  obtain ⟨mA, O, _, _, _, _⟩ := ins_get I.hok ha
  obtain ⟨oa, J, _⟩ := O.look
  have hm := c.at_
  unfold PySem.W.ks_superIn at hm
  cases hc : PySem.W.clsIn X.K C with
  | none => rw [hc] at hm; cases hm
  | some cd =>
    rw [hc] at hm
    obtain ⟨of, hof, hofc⟩ : ∃ of, s.heap.get? g = some of ∧ of.cls = .type "function" := by
      have ht' : (X.K.lookup g).map (·.cls) = some (.type "function") := c.ty
      cases z : X.K.lookup g with
      | none => rw [z] at ht'; cases ht'
      | some of => rw [z] at ht'; exact ⟨of, K _ _ z, Option.some.inj ht'⟩
    obtain ⟨hh, gg, d, t, os⟩ := s
    refine dl_getAttr_super hso (PySem.W.looks_opaque K S.ot) (l₀ := cd.mro) ?_ rfl K hm hof hofc (PySem.W.ks_ne K J hc) c.nc ?_
    · exact fun A Q E s k q => wpAny_bind ((PySem.W.looks_clsIn K hc) A _ E s k (wpAny_pure q))
    · refine h _ _ (I.hok.fresh (Nat.le_refl _)) ?_
      exact I.laid (t' := t + 1) (a := hh.objs.size) (o := .met g a) (fun b u z => Heap.get?_push_of_some _ z) (Nat.le_refl _) (Heap.get?_push_size hh rfl)
theorem sup_meth {pl : Sem Bool} {so : Addr} {Q : Value × List Value → Shared → Prop} {E : Value → Shared → Prop} (S : SupX X D) (c : SupC X.K D C g m) (I : Inv X pins σ H s) (ha : H a = some (.ins C dx fs)) (hso : s.heap.get? so = some (PySem.W.ks_superObj D a C))
    (h : ∀ q s', H q = none → Inv X pins σ (upd H q (.met g a)) s' → Q (.ref q, []) s') : wpAny (model X.prog X.w) X.A (getMethod (.ref so) m pl) Q E s := by
  have hT : s.TypeIs (.ref so) "super" := ⟨_, hso, rfl⟩
  unfold getMethod
  refine wpAny_bind (wpAny_specialOf hT F.ks_slot_super_ga.lookup ?_)
  show wpAny _ _ (if (Manifest.canonical "super.__getattribute__" != "object.__getattribute__") = true then _ else _) _ _ _
  rw [if_pos F.ks_canon_super_ga]
  refine wpAny_bind (sup_get S c I ha hso fun q s' hq I' => wpAny_pure (h q s' hq I'))
end
def tSup (C m g : Addr) : Unit := ()
/-- the call: the method's object waits while the arguments are read -/
def tSupC (C g : Addr) (sp : Sp) (E : L2.St → XK) (t : TA) : TE := fun σ H Q => ∃ a dx fs, σ[0]? = some (some (.ref a)) ∧ H a = some (.ins C dx fs) ∧ ∀ q, H q = none → t σ (upd H q (.met g a)) fun vs H2 => H2 q = some (.met g a) ∧ sp (.ref a :: vs) H2 Q (E σ)
section
variable {X : Cx} {b0 : List Stmt} {D C g : Addr} {m : Str} {CX : CXT} {k : Nat} {sp : Sp} {E : L2.St → XK} {e e1 e2 : Expr} {es : List Expr} {t : TA} {p p0 p1 apos pos : Pos}
theorem pea_sup (S : SupX X D) (c : SupC X.K D C g m) (F : L2.FnR X.prog X.w X.K X.mg X.base CX k g sp) (hr : Room k X.A) (hx : ∀ σ, PassesAt CX X σ (E σ)) (ha : PA X (e :: es) t)
    (he : eval (.Call (.Attribute (.Call (.Name "super" p0) [] [] p1) m apos) (e :: es) [] pos) X.env = (do
      let ov ← attributeBase (.Call (.Name "super" p0) [] [] p1) m X.env (eval (.Call (.Name "super" p0) [] [] p1) X.env)
      standAt apos.atName
      let (f, first) ← holding [ov] (getMethod ov m pl)
      callWith pos f first (backTo pos (starEach (e :: es) X.env)) []))
    (hst : starEach (e :: es) X.env = (false, eval e X.env) :: starEach es X.env) (hpl : (backTo pos (starEach es X.env)).any (·.1) = false) :
    PEa X b0 (.Call (.Attribute (.Call (.Name "super" p0) [] [] p1) m apos) (e :: es) [] pos) (tSupC C g sp E t) := by
  refine ⟨fun pins s σ H Q I h => ?_⟩
  obtain ⟨a, dx, fs, hs, hi, hq⟩ := h
  refine ks_wpAt_MethodCall (_root_.PySem.wpAt_mono (sup_base S c.nc c.sub I hs hi) (fun ov s1 ⟨so, e0, hso, I1⟩ => ?_) fun _ _ z => z) he
  subst e0
  refine sup_meth S c I1 hi hso fun q s2 hq2 I2 => ?_
  refine callwith_met (a := a) (by rw [hst]; show ((false || (backTo pos (starEach es X.env)).any (·.1)) || false) = false; rw [hpl]; rfl) c.fi ?_
  have hA := ha.run pos pins s2 σ _ _ I2 (hq q hq2)
  rw [hst] at hA ⊢
  refine Calls.evalArgs_plain (thn hA fun us s3 ⟨vs, H2, I3, r, hm, q2⟩ => ⟨met_P I3 hm, ?_⟩)
  show wpAny (model X.prog X.w) X.A (call (.ref q) ([] ++ us) []) _ _ _
  refine wpAny_call (PySem.W.method_call (met_P I3 hm).1 (codeAny_mono (F X.A X.stack s3 H2 (Value.ref a :: us) (V.ref a :: vs) Q (E σ) hr I3.env0 (.cons rfl r) q2) fun r s' hq => ?_))
  cases r with
  | error e => exact hx σ pins H2 s3 e s' I3 hq
  | ok fl =>
    cases fl with
    | ret u => exact I3.after hq
    | next => exact False.elim hq
    | brk => exact False.elim hq
    | cont => exact False.elim hq
/-- super().m(e, *y) -/
theorem pea_sups (S : SupX X D) (c : SupC X.K D C g m) (F : L2.FnR X.prog X.w X.K X.mg X.base CX k g sp) (hr : Room k X.A) (hx : ∀ σ, PassesAt CX X σ (E σ)) (ha : PA X [e1, .Starred e2 p] t)
    (hst : starEach [e1, .Starred e2 p] X.env = [(false, eval e1 X.env), (true, eval e2 X.env)]) :
    PEa X b0 (.Call (.Attribute (.Call (.Name "super" p0) [] [] p1) m apos) [e1, .Starred e2 p] [] pos) (tSupC C g sp E t) := by
  refine ⟨fun pins s σ H Q I h => ?_⟩
  obtain ⟨a, dx, fs, hs, hi, hq⟩ := h
  have hke : backToKw pos (keywordEach [] X.env) = [] := rfl
  have hA0 := ha
  have hform : methodCallForm ([e1, Expr.Starred e2 p].length + ([] : List Keyword).length) (backTo pos [(false, eval e1 X.env), (true, eval e2 X.env)]) [] = false := rfl
  have hpos : methodCallPos false (.Call (.Name "super" p0) [] [] p1) X.env apos pos = pure pos := rfl
  have hcal : ∀ ov, calleeOf false (.Call (.Name "super" p0) [] [] p1) X.env ov m = (getAttr ov m true >>= fun v => pure (v, [])) := fun _ => rfl
  rw [arm_eval_Call, hst, hke]
  refine _root_.PySem.wpAt_bind (_root_.PySem.wpAt_mono (sup_base S c.nc c.sub I hs hi) (fun ov s1 ⟨so, e0, hso, I1⟩ => _root_.PySem.wpAt_of_wpAny ?_) fun _ _ z => z)
  subst e0
  refine wpAny_bind (wpAny_standAt ?_)
  unfold methodCall
  rw [hform, hpos, hcal]
  refine wpAny_bind (wpAny_holding (wpAny_bind (sup_get S c I1 hi hso fun q s2 hq2 I2 => wpAny_pure ?_)))
  refine wpAny_bind (wpAny_pure ?_)
  have hA := ha.run pos pins s2 σ _ _ I2 (hq q hq2)
  rw [hst] at hA
  refine PySem.W.ks_call (P := PySem.W.MethP X.K q g (.ref a)) rfl (PySem.W.keeps_M c.fi) (Calls.evalArgs_plain (thn hA fun us s3 ⟨vs, H2, I3, r, hm, q2⟩ => ⟨met_P I3 hm, ?_⟩))
  show wpAny (model X.prog X.w) X.A (call (.ref q) ([] ++ us) []) _ _ _
  refine wpAny_call (PySem.W.method_call (met_P I3 hm).1 (codeAny_mono (F X.A X.stack s3 H2 (Value.ref a :: us) (V.ref a :: vs) Q (E σ) hr I3.env0 (.cons rfl r) q2) fun r s' hq => ?_))
  cases r with
  | error e => exact hx σ pins H2 s3 e s' I3 hq
  | ok fl =>
    cases fl with
    | ret u => exact I3.after hq
    | next => exact False.elim hq
    | brk => exact False.elim hq
    | cont => exact False.elim hq
end
end DL
namespace DL
open PySem PySem.Spec PyProof.Rows L2
def EJa (cm : CT) (X : Cx) (b0 : List Stmt) (e : Expr) (f : EF) : Prop := ∀ W, Takes X W → PEa X b0 e (tE (gm X cm) W f)
def SJa (cm : CT) (X : Cx) (b0 : List Stmt) (st : Stmt) (g : SF) : Prop := ∀ W, Takes X W → PSa X b0 st (tS (gm X cm) W g)
def BJa (cm : CT) (X : Cx) (b0 : List Stmt) (sts : List Stmt) (g : SF) : Prop := ∀ W, Takes X W → PSsa X b0 sts (tS (gm X cm) W g)
section
variable {cm : CT} {X : Cx} {b0 : List Stmt} {e a b : Expr} {st : Stmt} {sts : List Stmt} {fe fa fb : EF} {f g : SF} {pos : Pos}
theorem pea_imp {t t' : TE} (h : PEa X b0 e t) (q : ∀ σ H Q, t' σ H Q → t σ H Q) : PEa X b0 e t' := ⟨fun pins s σ H Q I w => h.run pins s σ H Q I (q σ H Q w)⟩
theorem psa_imp {t t' : TS} (h : PSa X b0 st t) (q : ∀ D σ H, t' D σ H → t D σ H) : PSa X b0 st t' := ⟨fun pins s σ H D I w => h.run pins s σ H D I (q D σ H w)⟩
theorem pssa_imp {t t' : TS} (h : PSsa X b0 sts t) (q : ∀ D σ H, t' D σ H → t D σ H) : PSsa X b0 sts t' := ⟨fun pins s σ H D I w => h.run pins s σ H D I (q D σ H w)⟩
theorem sja_of (h : SJ cm X st g) : SJa cm X b0 st g := fun W tk => PSa.of (h W tk)
theorem sja_expr (he : EJa cm X b0 e fe) (hs : swapsWith e none pos.line X.env = pure false := by rfl) : SJa cm X b0 (.Expr e pos) (sExpr fe) := fun W tk => by
  refine psa_imp (psa_expr (he W tk) hs) fun D σ H ⟨F, ds, r, w⟩ => ?_
  unfold sExpr at w
  rw [R.toS_wp] at w
  exact tE_goS r w fun p v H' F' w s ok fr => w σ H' F' s
theorem sja_ret (he : EJa cm X b0 e fe) : SJa cm X b0 (.Return (some e) pos) (sRet fe) := fun W tk => by
  refine psa_imp (psa_ret (he W tk)) fun D σ H ⟨F, ds, r, w⟩ => ?_
  unfold sRet at w
  rw [R.toS_wp] at w
  exact tE_goS r w fun p v H' F' w s ok fr => w v σ H' F' s ok fr
theorem bja_nil : BJa cm X b0 [] sNil := fun W tk => pssa_imp pssa_nil fun D σ H ⟨F, ds, r, w⟩ => w σ H F (Step.refl r)
theorem bja_cons (h1 : SJa cm X b0 st f) (h2 : BJa cm X b0 sts g) : BJa cm X b0 (st :: sts) (sSeq f g) := fun W tk => by
  refine pssa_imp (pssa_cons (h1 W tk) (h2 W tk)) fun D σ H ⟨F, ds, r, w⟩ => ?_
  refine ⟨F, ds, r, ?_⟩
  unfold sSeq at w
  cases e : f ds with
  | nx ds' =>
    rw [e] at w
    intro σ' H' F' s'
    exact tS_go s' w (fun ds' σ' H' F' h s => h σ' H' F' s) (fun rv ds' v σ' H' F' h s ok fr => h v σ' H' F' s ok fr) (fun ds' σ' H' F' h s => h σ' H' F' s) (fun ds' σ' H' F' h s => h σ' H' F' s)
  | rt rv ds' => rw [e] at w; exact w
  | bk ds' => rw [e] at w; exact w
  | ct ds' => rw [e] at w; exact w
  | err c ks es ds' => rw [e] at w; exact w
  | stuck => rw [e] at w; exact w
theorem pea_or {ta tb : TE} (ha : PE X a ta) (hb : PEa X b0 b tb) : PEa X b0 (.BoolOp .Or [a, b] pos) (tOrV ta tb) := by
  refine ⟨fun pins s σ H Q I h => ?_⟩
  show _root_.PySem.wpAt (model X.prog X.w) X.A (.func b0 X.env) (do
    let v ← eval a X.env
    standAt pos
    let c ← holding [v] (truthy v)
    match BoolOp.Or, c with
    | .And, false | .Or, true => pure v
    | _, _ => boolOp pos .Or (eval b X.env :: evalEach [] X.env)) _ _ _
  refine _root_.PySem.wpAt_bind (_root_.PySem.wpAt_of_wpAny (thn (ha.run pins s σ H _ I h) fun v s1 ⟨x, H1, I1, r1, q1⟩ => ?_))
  obtain ⟨c, rfl, q1⟩ := q1
  cases r1
  refine _root_.PySem.wpAt_bind (_root_.PySem.wpAt_of_wpAny (wpAny_standAt ?_))
  refine _root_.PySem.wpAt_bind (_root_.PySem.wpAt_of_wpAny (wpAny_holding (wpAny_truthy_bool ?_)))
  cases c with
  | true => exact _root_.PySem.wpAt_of_wpAny (wpAny_pure ⟨.bl true, H1, I1, rfl, q1⟩)
  | false =>
    exact hb.run pins s1 σ H1 Q I1 q1
theorem eja_or (ha : EJ cm X a fa) (hb : EJa cm X b0 b fb) : EJa cm X b0 (.BoolOp .Or [a, b] pos) (eOr2 fa fb) := fun W tk => by
  refine pea_imp (pea_or (ha W tk) (hb W tk)) fun σ H Q ⟨F, ds, r, w⟩ => ?_
  unfold eOr2 at w
  rw [R.wp_bind] at w
  refine tE_go (Step.refl r) w fun p v H1 F1 w1 s1 ok fr => ?_
  rw [R.wp_bind] at w1
  obtain ⟨q, eq, w2⟩ := R.wp_pure asBl_noerr w1
  clear w1
  cases asBl_ok eq
  refine ⟨q.1, ok, ?_⟩
  cases e : q.1 with
  | true =>
    rw [e] at w2
    rw [if_pos rfl] at w2 ⊢
    exact w2 (.bl true) H1 F1 s1 rfl trivial
  | false =>
    rw [e] at w2
    rw [if_neg (by decide)] at w2 ⊢
    exact tE_go s1 w2 fun q v H2 F2 w3 s2 ok fr => w3 v H2 F2 (s1.trans s2) ok (fr.back s1)
/-- super().m(..) -/
def eSup (cs : List Nat) (fn : FnF) (fa : AF) : EF := fun ds => (eVar 0 ds).bind fun (p : Rv × DS) => (peek p.2 p.1).bind fun d => (insOf cs d).bind fun _ => (fa p.2).bind fun (q : List Rv × DS) => callF fn (p.1 :: q.1) q.2
theorem eVar_ok {ds : DS} {i : Nat} {p : Rv × DS} (h : eVar i ds = .ok p) : p.2 = ds ∧ ((∃ d, p.1 = .fro d ∧ ds[i]? = some (Sl.fro d)) ∨ (p.1 = .slot i ∧ ∃ d, Mine ds i d)) := by
  unfold eVar at h
  split at h
  · rename_i d hd; cases h; exact ⟨rfl, .inl ⟨d, rfl, hd⟩⟩
  · rename_i d hd; cases h; exact ⟨rfl, .inr ⟨rfl, d, .inl hd⟩⟩
  · rename_i d hd; cases h; exact ⟨rfl, .inr ⟨rfl, d, .inr hd⟩⟩
  · cases h
theorem eVar_noerr {ds : DS} {i : Nat} : ∀ c ks es ds', eVar i ds ≠ .err c ks es ds' := by
  intro c ks es ds' h
  unfold eVar at h
  split at h <;> cases h
theorem pea_ex {ι : Type} {t : ι → TE} {P : ι → Prop} (h : ∀ i, P i → PEa X b0 e (t i)) : PEa X b0 e (fun σ H Q => ∃ i, P i ∧ t i σ H Q) := ⟨fun pins s σ H Q I ⟨i, hi, q⟩ => (h i hi).run pins s σ H Q I q⟩
theorem sup_t {W : WX} {σ : L2.St} {H : Hp} {Q : VK} {cs : List Nat} {fn : FnF} {fa : AF} {g : Addr} (w : tE (gm X cm) W (eSup cs fn fa) σ H Q) : ∃ c, c ∈ cs ∧ tSupC (cm c) g (spV (gm X cm) fn) (WE W) (tA (gm X cm) W fa) σ H Q := by
  obtain ⟨F, ds, r, w⟩ := w
  unfold eSup at w
  rw [R.wp_bind] at w
  obtain ⟨p, ep, w1⟩ := R.wp_pure eVar_noerr w
  rw [R.wp_bind] at w1
  obtain ⟨d, ed, w2⟩ := R.wp_pure peek_noerr w1
  rw [R.wp_bind] at w2
  obtain ⟨z, ez, w3⟩ := R.wp_pure insOf_noerr w2
  clear w w1 w2
  obtain ⟨c, rfl, hc⟩ := insOf_ok ez
  obtain ⟨e2, hp⟩ := eVar_ok ep
  obtain ⟨rv, ds'⟩ := p
  dsimp only at e2 hp ed w3
  subst e2
  obtain ⟨v, hv, okv, frv⟩ : ∃ v, σ[0]? = some (some v) ∧ RvOk (gm X cm) rv v ds' σ H F ∧ Fresh rv v H := by
    rcases hp with ⟨d, rfl, hd⟩ | ⟨rfl, d, m⟩
    · obtain ⟨v, h1, h2⟩ := r.fro 0 d hd
      exact ⟨v, h1, h2, trivial⟩
    · obtain ⟨a, h1, _, _⟩ := r.own 0 d m
      exact ⟨_, h1, h1, trivial⟩
  obtain ⟨a, dx, us, rfl, ha, _, _⟩ := (peek_ok r okv ed).ins r.sub
  refine ⟨c, hc, a, dx, _, hv, ha, fun q hq => ?_⟩
  have same : Same H (upd H q (.met g a)) := fun b u e => by rw [upd_ne (fun z => by rw [z, hq] at e; cases e)]; exact e
  have s1 : Step (gm X cm) ds' σ H F ds' σ (upd H q (.met g a)) F := step_new r same (Same.refl F) (r.sub.trans same) fun b o h => .inl h
  rw [R.wp_bind] at w3
  refine tA_go s1 w3 fun q' vs H2 F2 w4 s2 oks frs => ?_
  obtain ⟨z1, z2⟩ := RvsOk.ahead s1 (okv.stay s1) (by
    cases rv with
    | fro d => trivial
    | slot i => trivial
    | own d => exact frv) s2 oks frs
  refine ⟨s2.keep q _ upd_same (fun ps z => by cases z) fun ⟨i, d, m, e⟩ => ?_, call_sp (s1.trans s2) z1 z2 (by simp [oks.len]) w4⟩
  obtain ⟨b, k1, _, k3⟩ := r.own i d m
  rw [e] at k1; cases k1
  obtain ⟨u, hu⟩ := k3.ex
  rw [hq] at hu; cases hu
variable {D g : Addr} {m : Str} {cs : List Nat} {k : Nat} {fn : FnF} {fA : AF} {es : List Expr} {e1 e2 : Expr} {p p0 p1 apos : Pos}
theorem eja_sup {pl : Sem Bool} (S : SupX X D) (hc : ∀ c ∈ cs, SupC X.K D (cm c) g m) (Fn : FR cm X.prog X.w X.K X.mg X.base k g fn) (hr : Room k X.A) (ha : AJ cm X (e :: es) fA)
    (he : eval (.Call (.Attribute (.Call (.Name "super" p0) [] [] p1) m apos) (e :: es) [] pos) X.env = (do
      let ov ← attributeBase (.Call (.Name "super" p0) [] [] p1) m X.env (eval (.Call (.Name "super" p0) [] [] p1) X.env)
      standAt apos.atName
      let (f, first) ← holding [ov] (getMethod ov m pl)
      callWith pos f first (backTo pos (starEach (e :: es) X.env)) []) := by rfl)
    (hst : starEach (e :: es) X.env = (false, eval e X.env) :: starEach es X.env := by rfl) (hpl : (backTo pos (starEach es X.env)).any (·.1) = false := by rfl) :
    EJa cm X b0 (.Call (.Attribute (.Call (.Name "super" p0) [] [] p1) m apos) (e :: es) [] pos) (eSup cs fn fA) := fun W tk =>
  pea_imp (pea_ex (P := fun c => c ∈ cs) (t := fun c => tSupC (cm c) g (spV (gm X cm) fn) (WE W) (tA (gm X cm) W fA)) fun c hc' => pea_sup (pl := pl) S (hc c hc') Fn hr (fun σ => passAt tk σ) (ha W tk) he hst hpl) fun σ H Q w => sup_t w
theorem eja_sups (S : SupX X D) (hc : ∀ c ∈ cs, SupC X.K D (cm c) g m) (Fn : FR cm X.prog X.w X.K X.mg X.base k g fn) (hr : Room k X.A) (ha : AJ cm X [e1, .Starred e2 p] fA)
    (hst : starEach [e1, .Starred e2 p] X.env = [(false, eval e1 X.env), (true, eval e2 X.env)] := by rfl) :
    EJa cm X b0 (.Call (.Attribute (.Call (.Name "super" p0) [] [] p1) m apos) [e1, .Starred e2 p] [] pos) (eSup cs fn fA) := fun W tk =>
  pea_imp (pea_ex (P := fun c => c ∈ cs) (t := fun c => tSupC (cm c) g (spV (gm X cm) fn) (WE W) (tA (gm X cm) W fA)) fun c hc' => pea_sups S (hc c hc') Fn hr (fun σ => passAt tk σ) (ha W tk) hst) fun σ H Q w => sup_t w
end
/-- a def of the text that closes over its class alone -/
structure FunS (P : Program) (K : PySem.W.Frag) (x qual : Str) (st : Stmt) (f D : Addr) (fd : FuncData) : Prop where
  ex : ∃ (oc : Value) (od : Option Addr) (kV doc pm : Value) (an : Option Addr) (c cc : Addr) (ct : Value) (osl : Array (Option Value)) (ar : Arg) (vs : Array Value) (file : Str) (tf : Tok) (ccl cl : Value) (cdd cld : Option Addr) (ccs csl : Array (Option Value)) (cdD : ClassData),
    fd = PySem.W.fnX x qual (defArgs st) (defBody st) (defScope st) [("__class__", cc)] .none kV doc pm an (.ref c) ct ∧ K.lookup f = some ⟨oc, od, .func fd, osl⟩ ∧ PySem.W.codeIn K (.ref c) qual = true ∧
    ((defArgs st).posonlyargs ++ (defArgs st).args).head? = some ar ∧ K.lookup c = some ⟨ccl, cdd, .fields vs, ccs⟩ ∧ vs[2]? = some (.str file tf) ∧ ((P.main.file : Str) == file) = true ∧
    K.lookup cc = some ⟨cl, cld, .cell (some (.ref D)), csl⟩ ∧ PySem.W.clsIn K D = some cdD
  kp : PySem.W.keepIn K (.ref f) = true
section
variable {cm : CT} {P : Program} {w : World} {K : PySem.W.Frag} {mg : Str → Option Value} {base : Heap} {x qual pv : Str} {st : Stmt} {f D : Addr} {fd : FuncData} {N ps : List Str} {k nl : Nat} {g : SF}
theorem startF_start {N : List Str} {vs : List V} (h : vs.length + 1 ≤ N.length) : NdefX.startF N vs [none] = L2.start N vs := by
  unfold NdefX.startF L2.start
  have : N.length - vs.length = 1 + (N.length - vs.length - 1) := by omega
  rw [this, ← List.replicate_append_replicate, List.replicate_one]
  simp
/-- the context of the body -/
abbrev scx (P : Program) (w : World) (K : PySem.W.Frag) (mg : Str → Option Value) (base : Heap) (N : List Str) (x qual : Str) (st : Stmt) (c cc f : Addr) (A : Around) (outer : List Env) (s : Shared) (H : Hp) (E : XK) : Cx :=
  NdefX.ncx (L2.CX P w) P w K mg base N ⟨x, qual, defArgs st, defBody st, defScope st, [("__class__", cc)], c⟩ f A outer s H E
theorem run_sup {A : Around} {outer : List Env} {s : Shared} {H : Hp} {args : Args} {Q : VK} {E : XK} {G : List V → Hp → Prop} {oc kV doc pm ct : Value} {od an : Option Addr} {osl : Array (Option Value)} {c cc : Addr} {cl : Value} {cld : Option Addr} {csl : Array (Option Value)}
    (lk : K.lookup f = some ⟨oc, od, .func (PySem.W.fnX x qual (defArgs st) (defBody st) (defScope st) [("__class__", cc)] .none kV doc pm an (.ref c) ct), osl⟩) (hcd : PySem.W.codeIn K (.ref c) qual = true)
    (lc : K.lookup cc = some ⟨cl, cld, .cell (some (.ref D)), csl⟩) (S : NdefX.NScope N ps ["__class__"] (defScope st)) (hr : Room (k + 1) A) (e0 : Env0 P w K mg base A outer s H)
    (hb : StX.Bnd (L2.CX P w) P w K mg base (PySem.W.fnX x qual (defArgs st) (defBody st) (defScope st) [("__class__", cc)] .none kV doc pm an (.ref c) ct) args ps A outer s H E G)
    (hbody : ∀ (s2 : Shared) (H2 : Hp) (vs : List V), G vs H2 → Room k (A.deeper (NdefX.envF ⟨x, qual, defArgs st, defBody st, defScope st, [("__class__", cc)], c⟩ f s2.heap.objs.size)) →
      ∃ t, PSsa (scx P w K mg base N x qual st c cc f A outer s2 H2 E) (defBody st) (defBody st) t ∧ t { nx := fun _ H' => Q .non H', rt := Q } (L2.start N vs) H2) : codeAny (model P w) A (.call (.ref f) args) (CR (L2.CX P w) outer P w H s Q E) s := by
  have KX : K.In s.heap := e0.mod.kin.keeps fun b o e => (e0.bs b o e).1
  have hNl : ps.length + 1 ≤ N.length := by
    have q := congrArg List.length S.pre
    rw [List.length_take, List.length_append] at q
    simp at q
    omega
  refine codeAny_call_function hr.depth (KX _ _ lk) rfl S.co S.gen rfl (PySem.W.codeRec_of KX hcd) ?_
  refine hb _ _ _ fun s2 H2 vs us e2 un ho hx r hl g => ?_
  have KX2 : K.In s2.heap := e2.mod.kin.keeps fun b o e => (e2.bs b o e).1
  have lim : s2.heap.NoLimit := e2.mod.nolimit.keeps fun b o e => (e2.bs b o e).1
  refine wpAny_newFunctionEnv S.nocell (fun ⟨n, _⟩ hy => S.par n (List.of_mem_zip hy).1) (fun h₁ hns hsb => ⟨lim.fresh _ hsb, ?_⟩) S.kind
  show codeAny _ _ (.func (defBody st) (NdefX.envF ⟨x, qual, defArgs st, defBody st, defScope st, [("__class__", cc)], c⟩ f s2.heap.objs.size)) _ _
  refine ks_codeAny_funcAt ?_
  have kp : ∀ b o, s2.heap.get? b = some o → h₁.get? b = some o := fun b o e => hsb.extBut b o (Nat.ne_of_lt (Heap.lt_size e)) (Heap.get?_push_of_some _ e)
  obtain ⟨t, ht, hq⟩ := hbody s2 H2 vs g (hr.deeper _)
  have hHc : H2 cc = none := by
    have : base.get? cc = some ⟨cl, cld, .cell (some (.ref D)), csl⟩ := e2.mod.kin _ _ lc
    exact (e2.bs cc _ this).2
  have C : NdefX.CellsAt [("__class__", cc)] ["__class__"] [none] s2.heap H2 := by
    refine ⟨rfl, fun y c' e => ?_, fun x y c' h1 h2 => ?_, fun i y e => ?_⟩
    · rw [List.lookup_cons] at e
      split at e
      · cases e
        exact ⟨hHc, _, _, KX2 _ _ lc, rfl⟩
      · cases e
    · rw [List.lookup_cons] at h1 h2
      split at h1
      · rename_i q1
        split at h2
        · rename_i q2
          rw [beq_iff_eq] at q1 q2
          rw [q1, q2]
        · cases h2
      · cases h1
    · cases i with
      | zero =>
        simp at e
        subst e
        exact ⟨cc, by rw [List.lookup_cons]; simp, fun v h => by simp at h⟩
      | succ i => simp at e
  have I : Inv (scx P w K mg base N x qual st c cc f A outer s2 H2 E) [] (L2.start N vs) H2 { s2 with heap := h₁, toks := s2.toks + (ps.zip us).length } := by
    rw [← startF_start (by rw [hl]; exact hNl)]
    exact NdefX.inv_startN S hr.hd e2 hl r C hns kp
  refine ks_wpAt_mono (ht.run [] _ _ _ _ I hq) (fun fl s' hs => ?_) fun e s' hs => ?_
  · have fin : ∀ {σ' : L2.St} {H' : Hp} {v' : V} {u' : Value}, Inv (scx P w K mg base N x qual st c cc f A outer s2 H2 E) [] σ' H' s' → RelV v' u' → Q v' H' → CE outer P w H s Q u' s' :=
      fun {σ' H' v' u'} J rv' q => ⟨v', H', J.os.trans ho, J.bare, un.trans J.base, J.hok, rv', q⟩
    cases fl with
    | ret u' =>
      obtain ⟨v', σ', H', J, rv', q⟩ := hs
      exact fin J rv' q
    | next =>
      obtain ⟨σ', H', J, q⟩ := hs
      exact fin (v' := V.non) (u' := Value.none) J rfl q
    | brk =>
      obtain ⟨_, _, _, q⟩ := hs
      exact False.elim q
    | cont =>
      obtain ⟨_, _, _, q⟩ := hs
      exact False.elim q
  · exact wpAny_mono hs (fun _ s'' z => hx e s'' z) fun e' s'' z => hx e' s'' z
/-- a def's body at its code keeps the data promise -/
theorem body_spa {n : Nat} {X : Cx} {b0 body : List Stmt} {vs : List V} {H : Hp} {Q : VK} {E : XK} (hX : X.K = K) (hN : N.length = n + nl)
    (tk : Takes X (fun cls d _ H => E cls d H)) (hbody : BJa cm X b0 body g) (h : spD ⟨K, cm⟩ n (fnB n nl g) vs H Q E) :
    ∃ t, PSsa X b0 body t ∧ t { nx := fun _ H' => Q .non H', rt := Q } (L2.start N vs) H := by
  subst hX
  obtain ⟨F, sl, hl, r, w⟩ := h
  refine ⟨_, hbody (fun cls d _ H => E cls d H) tk, ?_⟩
  have r2 := start_rl (N := N) (n := nl) r (by rw [hN, hl])
  refine ⟨F, _, r2, ?_⟩
  unfold fnB at w
  cases e : g (sl ++ List.replicate nl .no) with
  | nx ds =>
    rw [e] at w
    intro σ' H' F' s'
    have es := end_step r s'
    rw [hl] at es
    exact w .non H' F' es rfl
  | rt rv ds =>
    rw [e] at w
    intro v σ' H' F' s' ok fr
    cases e2 : finish rv ds with
    | ok rv' =>
      simp only [e2] at w
      have es := end_step r s'
      rw [hl] at es
      exact w v H' F' es (end_rv r s' ok fr e2)
    | err _ _ _ _ =>
      exfalso
      cases rv with
      | fro d => cases e2
      | own d => cases e2
      | slot i =>
        dsimp only [finish] at e2
        split at e2 <;> cases e2
    | stuck => simp only [e2] at w; exact w.elim
  | bk ds => rw [e] at w; exact w.elim
  | ct ds => rw [e] at w; exact w.elim
  | err c ks es ds =>
    rw [e] at w
    intro d vs' σ' H' F' s' hd hk hr
    have es := end_step r s'
    rw [hl] at es
    exact w d vs' H' F' es hd hk hr
  | stuck => rw [e] at w; exact w.elim
/-- what super() asks of the program -/
structure SupG (P : Program) (K : PySem.W.Frag) (mg : Str → Option Value) : Prop where
  mg : mg "super" = none
  top : (P.main.scope.names.lookup ("super" : Str)).isSome = false
  ot : PySem.W.nsIn K cStatics "thirdparty.any" = some none
theorem head_N {ps fr N : List Str} {y : Str} (h : N.take (ps.length + fr.length) = ps ++ fr) (h0 : ps.head? = some y) : N[0]? = some y ∧ y ∈ ps := by
  cases ps with
  | nil => cases h0
  | cons z ps =>
    cases h0
    refine ⟨?_, List.mem_cons_self ..⟩
    have : (N.take ((y :: ps).length + fr.length))[0]? = some y := by rw [h]; rfl
    rw [List.getElem?_take_of_lt (by rw [List.length_cons]; omega)] at this
    exact this
/-- THE RULE: a def that calls super() -/
theorem fr_sup (Fn : FunS P K x qual st f D fd) (G : SupG P K mg) (S : NdefX.NScope N ps ["__class__"] (defScope st)) (hN : N.length = ps.length + nl) (hks : (defScope st).names.lookup ("super" : Str) = some .globalImplicit)
    (har : (((defArgs st).posonlyargs ++ (defArgs st).args).head?).map (·.arg) = ps.head?) (hb : ∀ us : List Value, us.length = ps.length → bindArgs fd ⟨us, []⟩ = pure (ps.zip us))
    (hbody : ∀ (c cc : Addr) (A : Around) (outer : List Env) (s : Shared) (H : Hp) (E : XK), SupX (scx P w K mg base N x qual st c cc f A outer s H E) D → Room k (A.deeper (NdefX.envF ⟨x, qual, defArgs st, defBody st, defScope st, [("__class__", cc)], c⟩ f s.heap.objs.size)) →
      BJa cm (scx P w K mg base N x qual st c cc f A outer s H E) (defBody st) (defBody st) g) :
    FR cm P w K mg base (k + 1) f (fnN ps.length (fnB ps.length nl g)) := by
  obtain ⟨oc, od, kV, doc, pm, an, c, cc, ct, osl, ar, vs, file, tf, ccl, cl, cdd, cld, ccs, csl, cdD, rfl, lk, hcd, h3, h5, h6, h7, lc, hD⟩ := Fn.ex
  intro A outer s H us vs' Q E hr e0 r hsp
  have hsp := spV_N hsp
  have hl : vs'.length = ps.length := by obtain ⟨F, sl, h, _⟩ := hsp; exact h
  rw [h3] at har
  obtain ⟨n0, n1⟩ := head_N S.pre har.symm
  refine run_sup (G := fun xs H2 => xs = vs' ∧ H2 = H) lk hcd lc S hr e0 (fun A' Ex Q' h => ?_) fun s2 H2 xs hg hr' => ?_
  · rw [hb us (by rw [← r.length]; exact hl)]
    exact wpAny_pure (h s H vs' us e0 Un.refl rfl (fun _ _ z => z) r hl ⟨rfl, rfl⟩)
  · obtain ⟨rfl, rfl⟩ := hg
    refine body_spa rfl hN (takes_of rfl rfl rfl rfl) (hbody c cc A outer s2 H2 E ?_ hr') hsp
    exact ⟨⟨f, c, cc, _, ar, vs, file, tf, oc, ccl, cl, od, cdd, cld, osl, ccs, csl, cdD, rfl, lk, h3, rfl, h5, h6, h7, by show List.lookup _ [(_, cc)] = _; rw [List.lookup_cons]; simp, lc, hD, n0, S.par _ n1⟩, hks, S.frk _ (List.mem_singleton.mpr rfl), G.mg, G.top, G.ot⟩
/-- .. with a star parameter -/
theorem fr_sups (Fn : FunS P K x qual st f D fd) (G : SupG P K mg) (S : NdefX.NScope N (ps ++ [pv]) ["__class__"] (defScope st)) (hN : N.length = ps.length + 1 + nl) (hks : (defScope st).names.lookup ("super" : Str) = some .globalImplicit)
    (har : (((defArgs st).posonlyargs ++ (defArgs st).args).head?).map (·.arg) = ps.head?)
    (hb : ∀ us rest : List Value, us.length = ps.length → bindArgs fd ⟨us ++ rest, []⟩ = (newTuple rest >>= fun t => pure (ps.zip us ++ [(pv, t)])))
    (hbody : ∀ (c cc : Addr) (A : Around) (outer : List Env) (s : Shared) (H : Hp) (E : XK), SupX (scx P w K mg base N x qual st c cc f A outer s H E) D → Room k (A.deeper (NdefX.envF ⟨x, qual, defArgs st, defBody st, defScope st, [("__class__", cc)], c⟩ f s.heap.objs.size)) →
      BJa cm (scx P w K mg base N x qual st c cc f A outer s H E) (defBody st) (defBody st) g) :
    FR cm P w K mg base (k + 1) f (starF ps.length (fnB (ps.length + 1) nl g)) := by
  obtain ⟨oc, od, kV, doc, pm, an, c, cc, ct, osl, ar, vs, file, tf, ccl, cl, cdd, cld, ccs, csl, cdD, rfl, lk, hcd, h3, h5, h6, h7, lc, hD⟩ := Fn.ex
  intro A outer s H us vs' Q E hr e0 r hsp
  obtain ⟨ws, rest, ev, hl, hz, hq⟩ := star_sp hsp
  subst ev
  rw [h3] at har
  have har2 : (ps ++ [pv]).head? = some ar.arg := by
    cases ps with
    | nil => cases har
    | cons z ps => exact har.symm
  obtain ⟨n0, n1⟩ := head_N S.pre har2
  obtain ⟨u1, u2, eu, r1, r2⟩ := StX.vals_split r
  subst eu
  have hn : H s.heap.objs.size = Option.none := e0.hok.fresh (Nat.le_refl _)
  have hl1 : u1.length = ps.length := by rw [← r1.length]; exact hl
  have hl2 : u2.length ≤ sizeLine := by rw [← r2.length]; exact hz
  refine run_sup (G := fun xs H2 => ∃ p, H p = Option.none ∧ xs = ws ++ [V.ref p] ∧ H2 = upd H p (.tup rest)) lk hcd lc S hr e0 (fun A' Ex Q' h => ?_) fun s2 H2 xs ⟨p, hp, ex, eH⟩ hr' => ?_
  · rw [hb u1 u2 hl1]
    refine wpAny_bind (wpAny_newTuple (wpAny_pure ?_) hl2)
    have new : ObjOk P w (upd H s.heap.objs.size (.tup rest)) (s.heap.push ({ cls := .type "tuple", data := .seq u2.toArray } : Obj)) s.heap.objs.size (.tup rest) := ⟨hz, u2, r2, ⟨_, Heap.get?_push_size _ rfl, rfl, _, rfl⟩⟩
    have un := StX.un_laid (fs := frs outer) (s := s) (o := ({ cls := .type "tuple", data := .seq u2.toArray } : Obj)) (u := .tup rest) hn
    have z := h _ _ (ws ++ [V.ref s.heap.objs.size]) (u1 ++ [Value.ref s.heap.objs.size]) (StX.env0_laid e0 new) un rfl (fun e s' => StX.cxUp outer s H _ _ E e s' un (fun b o q => Heap.get?_push_of_some _ q) rfl) (r1.append (.cons rfl .nil))
      (by rw [List.length_append, List.length_append, hl] <;> rfl) ⟨_, hn, rfl, rfl⟩
    rw [List.zip_append hl1.symm] at z
    exact z
  · subst ex eH
    refine body_spa rfl hN (takes_of rfl rfl rfl rfl) (hbody c cc A outer s2 _ E ?_ hr') (hq p hp)
    exact ⟨⟨f, c, cc, _, ar, vs, file, tf, oc, ccl, cl, od, cdd, cld, osl, ccs, csl, cdD, rfl, lk, h3, rfl, h5, h6, h7, by show List.lookup _ [(_, cc)] = _; rw [List.lookup_cons]; simp, lc, hD, n0, S.par _ n1⟩, hks, S.frk _ (List.mem_singleton.mpr rfl), G.mg, G.top, G.ot⟩
end
end DL
namespace PySem
section
variable {prog : Program} {w : World} {A : Around} {E : Value → Shared → Prop} {s : Shared}
theorem dl_enum_new {v : Value} {o : Obj} {H : Heap → Prop} (B : Begins v o H) :
    Meets (Builtin.«enumerate.__new__» ⟨[.type "enumerate", v], []⟩) (fun _ R s => H s.heap ∧
      R (.ok (.ret (.ref (s.heap.push o).objs.size))) { s with heap := (s.heap.push o).push { cls := .type "enumerate", data := .fields #[.none, .bool false, .ref s.heap.objs.size, rawInt 0, .none, .none] } }) :=
  .of_wp fun prog w A R s h => by
    obtain ⟨hp, g, d, tk, os⟩ := s; obtain ⟨h1, h⟩ := h
    have hsub := sub_enumerate
    have q1 : ∀ {A' : Around} {E : Value → Shared → Prop} {Q : Value → Shared → Prop}, Q (.ref hp.objs.size) ⟨hp.push o, g, d, tk, os⟩ → wpAny (model prog w) A' (pyIter v) Q E ⟨hp, g, d, tk, os⟩ :=
      fun q => B.iter prog w _ _ ⟨hp, g, d, tk, os⟩ _ h1 q
    wp_walk using q1
    refine wpAny_stack_any fun st => wpAny_pure ?_
    split
    · rename_i c _ _ _ _ _
      cases (c == Value.type "enumerate")
      · wp_walk using q1
        exact ⟨_, rfl, h⟩
      · wp_walk using q1
        exact ⟨_, rfl, h⟩
    · wp_walk using q1
      exact ⟨_, rfl, h⟩
theorem dl_enum_begins {v : Value} {o : Obj} {H : Heap → Prop} {Q : Value → Shared → Prop} (B : Begins v o H) (h1 : H s.heap)
    (h : ∀ h', IsEnum h' (s.heap.objs.size + 1) s.heap.objs.size 0 .none → h'.get? s.heap.objs.size = some o → h'.objs.size = s.heap.objs.size + 2 →
      (∀ b o, s.heap.get? b = some o → h'.get? b = some o) → Q (.ref (s.heap.objs.size + 1)) { s with heap := h' }) :
    wpAny (model prog w) A (call (.type "enumerate") [v]) Q E s := by
  refine callType_new F.called_enumerate (by decide) (F.typeCall_enumerate_1 _) (F.newCall_enumerate_1 _) (fun obj => F.args_object_init_2 obj _) F.entry_enumerate_new
    (dl_enum_new B) ⟨h1, ?_⟩
  have hz : (s.heap.push o).objs.size = s.heap.objs.size + 1 := Heap.size_push ..
  show _ ∧ _
  rw [hz]
  have he : IsEnum ((s.heap.push o).push { cls := .type "enumerate", data := .fields #[.none, .bool false, .ref s.heap.objs.size, rawInt 0, .none, .none] }) (s.heap.objs.size + 1) s.heap.objs.size 0 .none := by
    have := Heap.get?_push_size (s.heap.push o) (o := { cls := .type "enumerate", data := .fields #[.none, .bool false, .ref s.heap.objs.size, rawInt 0, .none, .none] }) rfl
    rw [hz] at this; exact this
  refine ⟨⟨_, he, rfl⟩, h _ he (Heap.get?_push_of_some _ (Heap.get?_push_size _ B.free)) (by rw [Heap.size_push, hz]) fun b o x => Heap.get?_push_of_some _ (Heap.get?_push_of_some _ x)⟩
end
end PySem
namespace DL
open PySem PySem.Spec PyProof.Rows L2
/-- what is walked -/
inductive Src where
  | lst (a : Addr)
  | tup (a : Addr)
  | str (z : Str) (t : Tok)
namespace Src
def val : Src → Value
  | lst a => .ref a
  | tup a => .ref a
  | str z t => .str z t
def st (S : Src) (it : Addr) (i : Nat) (h : Heap) : Prop := match S with
  | lst a => h.IsListIter it a i
  | tup a => h.IsTupleIter it a i
  | str z t => h.IsStrIter it (strIterType z) z t i
def obj (S : Src) : Obj := match S with
  | lst a => { cls := .type "list_iterator", data := .fields #[.ref a, .int 0 0] }
  | tup a => { cls := .type "tuple_iterator", data := .fields #[.ref a, .int 0 0] }
  | str z t => { cls := .type (strIterType z), data := .fields #[.str z t, .int 0 0] }
/-- its items -/
def At (S : Src) (K : PySem.W.Frag) (H : Hp) (xs : List V) : Prop := match S with
  | lst a => SqL K H a xs
  | tup a => SqT K H a xs
  | str z _ => xs = signV z
theorem st_obj {S : Src} {it : Addr} {i : Nat} {h : Heap} (x : S.st it i h) : ∃ o, h.get? it = some o ∧ ∀ v, o.data ≠ .cell v := by
  cases S with
  | lst a => obtain ⟨o, ho, _, hd⟩ := x; exact ⟨o, ho, fun v q => by rw [hd] at q; cases q⟩
  | tup a => obtain ⟨o, ho, _, hd⟩ := x; exact ⟨o, ho, fun v q => by rw [hd] at q; cases q⟩
  | str z t => obtain ⟨o, ho, _, hd⟩ := x; exact ⟨o, ho, fun v q => by rw [hd] at q; cases q⟩
theorem st_at {S : Src} {it : Addr} {i : Nat} {h h' : Heap} (x : S.st it i h) (k : ∀ o, h.get? it = some o → h'.get? it = some o) : S.st it i h' := by
  cases S with
  | lst a => exact Heap.IsListIter.at x fun o q => k o q
  | tup a => exact Heap.IsTupleIter.at x fun o q => k o q
  | str z t => obtain ⟨o, ho, r⟩ := x; exact ⟨o, k o ho, r⟩
theorem st_new {S : Src} {it : Addr} {h : Heap} (e : h.get? it = some S.obj) : S.st it 0 h := by
  cases S with
  | lst a => exact ⟨_, e, rfl, rfl⟩
  | tup a => exact ⟨_, e, rfl, rfl⟩
  | str z t => exact ⟨_, e, rfl, rfl⟩
variable {X : Cx} {pins : List (Addr × Obj)} {σ : L2.St} {H : Hp} {s : Shared}
theorem At.inj {S : Src} {xs ys : List V} (I : Inv X pins σ H s) (h : S.At X.K H xs) (h' : S.At X.K H ys) : xs = ys := by
  cases S with
  | lst a => exact I.list_inj h h'
  | tup a => exact I.tuple_inj h h'
  | str z t => exact h.trans h'.symm
/-- what one draws, from a state -/
structure Dr (X : Cx) (S : Src) (xs : List V) (it : Addr) (h : Heap) (fp : List Addr) (n : Nat) (P : Nat → Value → Prop) (St : Nat → Heap → Prop) : Prop where
  dr : Draws X.prog X.w X.A.in1 it fp n P St
  len : n = xs.length
  to : ∀ i, S.st it i h → St i h
  of : ∀ i h', St i h' → S.st it i h'
  mem : it ∈ fp
  fp : ∀ b ∈ fp, b = it ∨ S.val = .ref b
  val : ∀ i v, P i v → ∃ x, xs[i]? = some x ∧ RelV x v
theorem dr_of {S : Src} {xs : List V} {it : Addr} (I : Inv X pins σ H s) (hc : X.calm = true) (h : S.At X.K H xs) (ne : S.val ≠ .ref it) : ∃ fp n P St, Dr X S xs it s.heap fp n P St := by
  cases S with
  | lst a =>
    obtain ⟨its, rv, p, hz⟩ := I.list h
    have hl := rv.length
    refine ⟨_, _, _, _, Draws.list (A := X.A.in1) (I.ok.hd hc) it a (fun e => ne (congrArg Value.ref e)) its.toArray, by rw [List.size_toArray, hl], fun i st => ⟨st, p.isList⟩, fun i h' st => st.1, by simp, fun b hb => ?_, fun i v hv => ?_⟩
    · have e : b = it ∨ b = a := by simpa using hb
      rcases e with e | e
      · exact .inl e
      · exact .inr (by rw [e]; rfl)
    · have hv : its[i]? = some v := by simpa using hv
      have hi : i < xs.length := by rw [hl]; exact (List.getElem?_eq_some_iff.mp hv).1
      obtain ⟨u, hu, ru⟩ := rv.get (List.getElem?_eq_getElem hi)
      rw [hv] at hu; cases hu
      exact ⟨_, List.getElem?_eq_getElem hi, ru⟩
  | tup a =>
    obtain ⟨its, rv, p, hz⟩ := I.tuple h
    have hl := rv.length
    refine ⟨_, _, _, _, Draws.tuple (A := X.A.in1) (I.ok.hd hc) it a (fun e => ne (congrArg Value.ref e)) its.toArray, by rw [List.size_toArray, hl], fun i st => ⟨st, p⟩, fun i h' st => st.1, by simp, fun b hb => ?_, fun i v hv => ?_⟩
    · have e : b = it ∨ b = a := by simpa using hb
      rcases e with e | e
      · exact .inl e
      · exact .inr (by rw [e]; rfl)
    · have hv : its[i]? = some v := by simpa using hv
      have hi : i < xs.length := by rw [hl]; exact (List.getElem?_eq_some_iff.mp hv).1
      obtain ⟨u, hu, ru⟩ := rv.get (List.getElem?_eq_getElem hi)
      rw [hv] at hu; cases hu
      exact ⟨_, List.getElem?_eq_getElem hi, ru⟩
  | str z t =>
    have h : xs = signV z := h
    subst h
    refine ⟨_, _, _, _, Draws.text (A := X.A.in1) (I.ok.hd hc) it z t, by unfold signV; simp, fun i st => st, fun i h' st => st, by simp, fun b hb => .inl (by simpa using hb), fun i v hv => ?_⟩
    obtain ⟨c, u, h1, h2⟩ := hv
    exact ⟨.str ⟨#[c]⟩, by unfold signV; rw [List.getElem?_map]; simp [h1], u, h2⟩
end Src
open Src
/-- pairs -/
def Itp (K : PySem.W.Frag) (S1 S2 : Src) : It :=
  ⟨fun i H => ∃ (xs ys : List V) (x y : V), S1.At K H xs ∧ S2.At K H ys ∧ xs[i]? = some x ∧ ys[i]? = some y,
    fun i H v H' => ∃ T x y, v = .ref T ∧ H T = none ∧ H' = upd H T (.tup [x, y]) ∧ (∀ xs, S1.At K H xs → xs[i]? = some x) ∧ ∀ ys, S2.At K H ys → ys[i]? = some y,
    fun i H => ∃ xs ys : List V, S1.At K H xs ∧ S2.At K H ys ∧ i ≤ xs.length ∧ i ≤ ys.length ∧ (i = xs.length ∨ i = ys.length)⟩
/-- the cells of the zip lie apart -/
structure ZpOk (S1 S2 : Src) (z TI TO i1 i2 : Addr) : Prop where
  TIz : TI ≠ z
  TOz : TO ≠ z
  TITO : TI ≠ TO
  TIi1 : TI ≠ i1
  TIi2 : TI ≠ i2
  zi1 : z ≠ i1
  zi2 : z ≠ i2
  Ti1 : TO ≠ i1
  Ti2 : TO ≠ i2
  i12 : i1 ≠ i2
  a1 : ∀ b, S1.val = .ref b → b ≠ z ∧ b ≠ TO ∧ b ≠ i1 ∧ b ≠ i2
  a2 : ∀ b, S2.val = .ref b → b ≠ z ∧ b ≠ TO ∧ b ≠ i1 ∧ b ≠ i2
theorem ZpOk.sep {X : Cx} {S1 S2 : Src} {z TI TO i1 i2 : Addr} {xs ys : List V} {h : Heap} {fp1 fp2 : List Addr} {n1 n2 : Nat} {P1 P2 : Nat → Value → Prop} {St1 St2 : Nat → Heap → Prop} (Z : ZpOk S1 S2 z TI TO i1 i2) (d1 : Dr X S1 xs i1 h fp1 n1 P1 St1) (d2 : Dr X S2 ys i2 h fp2 n2 P2 St2) :
    ZipSep2 z TI TO i1 i2 fp1 fp2 := by
  refine ⟨Z.TIz, Z.TOz, Z.TITO, Z.TIi1, d1.mem, fun hb => ?_, fun hb => ?_, Z.TIi2, d2.mem, fun hb => ?_, fun hb => ?_, fun hb => ?_, fun hb => ?_⟩
  · rcases d1.fp _ hb with e | e
    · exact Z.zi1 e
    · exact (Z.a1 _ e).1 rfl
  · rcases d1.fp _ hb with e | e
    · exact Z.Ti1 e
    · exact (Z.a1 _ e).2.1 rfl
  · rcases d2.fp _ hb with e | e
    · exact Z.zi2 e
    · exact (Z.a2 _ e).1 rfl
  · rcases d2.fp _ hb with e | e
    · exact Z.Ti2 e
    · exact (Z.a2 _ e).2.1 rfl
  · rcases d2.fp _ hb with e | e
    · exact Z.i12 e
    · exact (Z.a2 _ e).2.2.1 rfl
  · rcases d1.fp _ hb with e | e
    · exact Z.i12 e.symm
    · exact (Z.a1 _ e).2.2.2 rfl
theorem turn_pairs {P : Program} {w : World} {K : PySem.W.Frag} {elts : List Expr} {kk : Nat} {tpos : Pos} {S1 S2 : Src} {z TI TO i1 i2 : Addr} (Z : ZpOk S1 S2 z TI TO i1 i2) :
    Turn P w K (.Tuple elts kk tpos) (Itp K S1 S2) [z, TI, TO, i1, i2] z (fun i h => IsZip h z TI TO .none ∧ IsTupOf2 h TI (.ref i1) (.ref i2) ∧ (∃ x y, IsTupOf2 h TO x y) ∧ S1.st i1 i h ∧ S2.st i2 i h) where
  mem := by simp
  obj := fun i h st c hc => by
    obtain ⟨hz, hTI, ⟨x, y, hTO⟩, h1, h2⟩ := st
    have e' : c = z ∨ c = TI ∨ c = TO ∨ c = i1 ∨ c = i2 := by simpa using hc
    rcases e' with q | q | q | q | q
    · rw [q]; exact ⟨_, hz, fun v q => nomatch q⟩
    · rw [q]; exact ⟨_, hTI, fun v q => nomatch q⟩
    · rw [q]; exact ⟨_, hTO, fun v q => nomatch q⟩
    · rw [q]; exact st_obj h1
    · rw [q]; exact st_obj h2
  keep := fun i h h' st k => by
    obtain ⟨hz, hTI, ⟨x, y, hTO⟩, h1, h2⟩ := st
    exact ⟨k z (by simp) _ hz, k TI (by simp) _ hTI, ⟨x, y, k TO (by simp) _ hTO⟩, st_at h1 fun o q => k i1 (by simp) o q, st_at h2 fun o q => k i2 (by simp) o q⟩
  item := by
    intro X hP hw hK hc i pins s σ H E I hf st hg
    subst hP hw hK
    obtain ⟨hz, hTI, ⟨x0, y0, hTO⟩, h1, h2⟩ := st
    obtain ⟨xs, ys, x, y, hqx, hqy, hx, hy⟩ := hg
    obtain ⟨fp1, n1, P1, St1, d1⟩ := dr_of I hc hqx (it := i1) fun e => (Z.a1 _ e).2.2.1 rfl
    obtain ⟨fp2, n2, P2, St2, d2⟩ := dr_of I hc hqy (it := i2) fun e => (Z.a2 _ e).2.2.2 rfl
    have sep := Z.sep d1 d2
    have hzl : z < s.heap.objs.size := Heap.lt_size hz
    refine wpAny_pyNext_zipD2_item sep d1.dr d2.dr hz hTI hTO (d1.to i h1) (d2.to i h2) (by rw [d1.len]; exact (List.getElem?_eq_some_iff.mp hx).1) (by rw [d2.len]; exact (List.getElem?_eq_some_iff.mp hy).1) fun u1 u2 h' tk hp1 hp2 hz' hTO' st1' st2' hT hsz hk => ?_
    obtain ⟨x', ex', ru1⟩ := d1.val i u1 hp1
    obtain ⟨y', ey', ru2⟩ := d2.val i u2 hp2
    rw [hx] at ex'; cases ex'
    rw [hy] at ey'; cases ey'
    refine ⟨_, rfl, PySem.wpAny_letOwnedTupleGo_zip (s := { s with heap := h', toks := tk }) hz' fun h'' z'' sb => ?_⟩
    have hT2 : h''.get? s.heap.objs.size = some { cls := .type "tuple", data := .seq #[u1, u2] } := (sb.2 _ (Nat.ne_of_gt hzl)).trans hT
    have new : ObjOk X.prog X.w (upd H s.heap.objs.size (.tup [x, y])) h'' s.heap.objs.size (.tup [x, y]) :=
      ⟨by show 2 ≤ sizeLine; decide, [u1, u2], .cons ru1 (.cons ru2 .nil), ⟨_, hT2, rfl, _, rfl⟩⟩
    have I1 : Inv X pins σ (upd H s.heap.objs.size (.tup [x, y])) { s with heap := h'', toks := tk } :=
      I.turnedNew (t' := tk) (ch := [z, TI, TO, i1, i2]) (fun c o hb q => (sb.2 c (fun q' => hb (by simp [q']))).trans (hk c o (fun q' => hb (by simp [q'])) (fun q' => hb (by simp [q'])) (fun q' => hb (by simp [q'])) (fun q' => hb (by simp [q'])) q)) hf (Nat.le_refl _) new
    refine ⟨.ref s.heap.objs.size, _, I1, rfl, ⟨_, x, y, rfl, I.hok.fresh (Nat.le_refl _), rfl, fun l hl => by rw [At.inj I hl hqx]; exact hx, fun l hl => by rw [At.inj I hl hqy]; exact hy⟩, ⟨z'', ?_, ⟨u1, u2, ?_⟩, ?_, ?_⟩, fun c hcm => ?_⟩
    · exact (sb.2 _ Z.TIz).trans (hk _ _ Z.TIz Z.TITO Z.TIi1 Z.TIi2 hTI)
    · exact (sb.2 _ Z.TOz).trans hTO'
    · exact st_at (d1.of _ _ st1') fun o q => (sb.2 _ (Ne.symm Z.zi1)).trans q
    · exact st_at (d2.of _ _ st2') fun o q => (sb.2 _ (Ne.symm Z.zi2)).trans q
    · have hlt : c < s.heap.objs.size := by
        have e' : c = z ∨ c = TI ∨ c = TO ∨ c = i1 ∨ c = i2 := by simpa using hcm
        rcases e' with q | q | q | q | q
        · rw [q]; exact hzl
        · rw [q]; exact Heap.lt_size hTI
        · rw [q]; exact Heap.lt_size hTO
        · rw [q]; obtain ⟨_, e1, _⟩ := st_obj h1; exact Heap.lt_size e1
        · rw [q]; obtain ⟨_, e2, _⟩ := st_obj h2; exact Heap.lt_size e2
      rw [upd_ne (Nat.ne_of_lt hlt)]
      exact (hf c hcm).1
  done := by
    intro X hP hw hK hc i pins s σ H E I hf st hg
    subst hP hw hK
    obtain ⟨hz, hTI, ⟨x0, y0, hTO⟩, h1, h2⟩ := st
    obtain ⟨xs, ys, hqx, hqy, l1, l2, hend⟩ := hg
    obtain ⟨fp1, n1, P1, St1, d1⟩ := dr_of I hc hqx (it := i1) fun e => (Z.a1 _ e).2.2.1 rfl
    obtain ⟨fp2, n2, P2, St2, d2⟩ := dr_of I hc hqy (it := i2) fun e => (Z.a2 _ e).2.2.2 rfl
    have sep := Z.sep d1 d2
    exact wpAny_pyNext_zipD2_end sep d1.dr d2.dr hz hTI hTO (d1.to i h1) (d2.to i h2) (by rw [d1.len]; exact l1) (by rw [d2.len]; exact l2) (by rw [d1.len, d2.len]; exact hend) fun h' tk hk => ⟨rfl, I.turnedL (t' := tk) (ch := [z, TI, TO, i1, i2]) (fun c o hb q =>
      hk c o (fun q' => hb (by simp [q'])) (fun q' => hb (by simp [q'])) (fun q' => hb (by simp [q'])) (fun q' => hb (by simp [q'])) q) hf⟩
  self := fun A i s Q E st h => wpAny_pyIter_zip st.1 h
/-- numbered items -/
def Itn (K : PySem.W.Frag) (S : Src) : It :=
  ⟨fun i H => ∃ (xs : List V) (x : V), S.At K H xs ∧ xs[i]? = some x, fun i H v H' => ∃ T x, v = .ref T ∧ H T = none ∧ H' = upd H T (.tup [.int (i : Nat), x]) ∧ ∀ xs, S.At K H xs → xs[i]? = some x, fun i H => ∃ xs : List V, S.At K H xs ∧ xs.length = i⟩
theorem turn_nums {P : Program} {w : World} {K : PySem.W.Frag} {elts : List Expr} {kk : Nat} {tpos : Pos} {S : Src} {e it : Addr} (hne : e ≠ it) (ha : ∀ b, S.val = .ref b → b ≠ e ∧ b ≠ it) :
    Turn P w K (.Tuple elts kk tpos) (Itn K S) [e, it] e (fun i h => (∃ old, IsEnum h e it ((i : Nat) : Int) old) ∧ S.st it i h) where
  mem := by simp
  obj := fun i h st b hb => by
    obtain ⟨⟨old, he⟩, h1⟩ := st
    have e' : b = e ∨ b = it := by simpa using hb
    rcases e' with z | z
    · rw [z]; exact ⟨_, he, fun v q => nomatch q⟩
    · rw [z]; exact st_obj h1
  keep := fun i h h' st k => let ⟨⟨old, he⟩, hi⟩ := st; ⟨⟨old, k e (by simp) _ he⟩, st_at hi fun o q => k it (by simp) o q⟩
  item := by
    intro X hP hw hK hc i pins s σ H E I hf st hg
    subst hP hw hK
    obtain ⟨⟨old, he⟩, hit⟩ := st
    obtain ⟨xs, x, hq, hx⟩ := hg
    obtain ⟨fp, n, P, St, d⟩ := dr_of I hc hq (it := it) fun q => (ha _ q).2 rfl
    have hel : e < s.heap.objs.size := Heap.lt_size he
    have hil : it < s.heap.objs.size := by obtain ⟨_, q, _⟩ := st_obj hit; exact Heap.lt_size q
    have hef : e ∉ fp := fun hb => by
      rcases d.fp _ hb with q | q
      · exact hne q
      · exact (ha _ q).1 rfl
    refine wpAny_pyNext_enum_itemD d.dr he (d.to i hit) (by rw [d.len]; exact (List.getElem?_eq_some_iff.mp hx).1) hne hef fun u h' tk hp ho st' hT hsz hk => ?_
    obtain ⟨x', ex', ru⟩ := d.val i u hp
    rw [hx] at ex'; cases ex'
    refine ⟨_, rfl, wpAny_letOwnedTupleGo_enum (s := { s with heap := h', toks := tk + 1 }) ho fun h'' he' sb => ?_⟩
    have hT2 : h''.get? s.heap.objs.size = some { cls := .type "tuple", data := .seq #[.int i tk, u] } := (sb.2 _ (Nat.ne_of_gt hel)).trans hT
    have new : ObjOk X.prog X.w (upd H s.heap.objs.size (.tup [.int (i : Nat), x])) h'' s.heap.objs.size (.tup [.int (i : Nat), x]) :=
      ⟨by show 2 ≤ sizeLine; decide, [.int i tk, u], .cons ⟨_, rfl⟩ (.cons ru .nil), ⟨_, hT2, rfl, _, rfl⟩⟩
    have I1 : Inv X pins σ (upd H s.heap.objs.size (.tup [.int (i : Nat), x])) { s with heap := h'', toks := tk + 1 } :=
      I.turnedNew (ch := [e, it]) (fun b ob hb q => (sb.2 b (fun z => hb (by simp [z]))).trans (hk b ob (fun z => hb (by simp [z])) (fun z => hb (by simp [z])) q)) hf (Nat.le_refl _) new
    refine ⟨.ref s.heap.objs.size, _, I1, rfl, ⟨_, x, rfl, I.hok.fresh (Nat.le_refl _), rfl, fun ys hy => by rw [At.inj I hy hq]; exact hx⟩, ⟨⟨u, ?_⟩, st_at (d.of _ _ st') fun o q => (sb.2 it (Ne.symm hne)).trans q⟩, fun b hb => ?_⟩
    · have e1 : ((i + 1 : Nat) : Int) = (i : Int) + 1 := by omega
      rw [e1]; exact he'
    · have hb' : b < s.heap.objs.size := by
        have e' : b = e ∨ b = it := by simpa using hb
        rcases e' with z | z
        · rw [z]; exact hel
        · rw [z]; exact hil
      rw [upd_ne (Nat.ne_of_lt hb')]
      exact (hf b hb).1
  done := by
    intro X hP hw hK hc i pins s σ H E I hf st hg
    subst hP hw hK
    obtain ⟨⟨old, he⟩, hit⟩ := st
    obtain ⟨xs, hq, hx⟩ := hg
    obtain ⟨fp, n, P, St, d⟩ := dr_of I hc hq (it := it) fun q => (ha _ q).2 rfl
    have hin : i = n := by rw [d.len, hx]
    refine wpAny_pyNext_enum_endD d.dr he (by rw [← hin]; exact d.to i hit) fun h' eb => ?_
    obtain ⟨f0, f1, f2, f3, f4, f5⟩ := hf it (by simp)
    exact ⟨rfl, I.turned (t' := s.toks) (fun b o hb q => eb b o hb q) f0 f1 f3 f4 f5⟩
  self := fun A i s Q E st h => let ⟨⟨_, he⟩, _⟩ := st; wpAny_pyIter_enum he h
end DL
namespace DL
open PySem PySem.Spec PyProof.Rows L2 Src
def SrcV (x : V) (T : Tok → Src) : Prop := (∃ a, x = .ref a ∧ (T = (fun _ => .lst a) ∨ T = fun _ => .tup a)) ∨ ∃ z, x = .str z ∧ T = fun t => .str z t
theorem rep_src {Γ : Gm} {F : Hp} {d : D} {v : V} {xs : List D} (h : Rep Γ F d v) (e : itemsOf d = .ok xs) : ∃ T vs, SrcV v T ∧ Reps Γ F xs vs ∧ ∀ t H, Same F H → (T t).At Γ.K H vs := by
  cases d with
  | lst l =>
    cases e
    obtain ⟨a, vs, rfl, h1, h2⟩ := h
    exact ⟨_, vs, .inl ⟨a, rfl, .inl rfl⟩, h2, fun t H s => SqL.of (s _ _ h1)⟩
  | scr ns =>
    cases e
    obtain ⟨a, rfl, h1⟩ := h
    exact ⟨_, _, .inl ⟨a, rfl, .inl rfl⟩, reps_ints ns, fun t H s => same_l s h1⟩
  | tup l =>
    cases e
    obtain ⟨a, vs, rfl, h1, h2⟩ := h
    exact ⟨_, vs, .inl ⟨a, rfl, .inr rfl⟩, h2, fun t H s => same_t s h1⟩
  | str z =>
    cases e
    cases (show v = V.str z from h)
    exact ⟨_, _, .inr ⟨z, rfl, rfl⟩, reps_signs z, fun t H s => rfl⟩
  | non => cases e
  | bl _ => cases e
  | int _ => cases e
  | ins _ _ _ => cases e
  | cls _ => cases e
section
variable {X : Cx} {pins : List (Addr × Obj)} {σ : L2.St} {H : Hp} {s : Shared}
theorem src_begins {S : Src} {xs : List V} (I : Inv X pins σ H s) (h : S.At X.K H xs) : ∃ HH : Heap → Prop, Begins S.val S.obj HH ∧ HH s.heap ∧ ∀ b, S.val = .ref b → b < s.heap.objs.size := by
  cases S with
  | lst a =>
    obtain ⟨its, rv, p, hz⟩ := I.list h
    obtain ⟨o, ho, _⟩ := p.isList
    exact ⟨_, begins_list a its.toArray, p.isList, fun b e => by cases e; exact Heap.lt_size ho⟩
  | tup a =>
    obtain ⟨its, rv, p, hz⟩ := I.tuple h
    obtain ⟨o, ho, _⟩ := id p
    exact ⟨_, begins_tuple a its.toArray, p, fun b e => by cases e; exact Heap.lt_size ho⟩
  | str z t => exact ⟨_, begins_text z t, trivial, fun b e => by cases e⟩
theorem srcV_val {x : V} {T : Tok → Src} {u : Value} (h : SrcV x T) (r : RelV x u) : ∃ t, u = (T t).val := by
  rcases h with ⟨a, rfl, rfl | rfl⟩ | ⟨z, rfl, rfl⟩
  · exact ⟨0, r⟩
  · exact ⟨0, r⟩
  · obtain ⟨t, e⟩ := r
    exact ⟨t, e⟩
end
def iPairs (K : PySem.W.Frag) (ta : TA) : TI := fun σ H Rr => ta σ H fun vs H1 => ∃ x y xs ys T1 T2, vs = [x, y] ∧ SrcV x T1 ∧ SrcV y T2 ∧ (∀ t, (T1 t).At K H1 xs) ∧ (∀ t, (T2 t).At K H1 ys) ∧ ∀ t u, Rr (Itp K (T1 t) (T2 u)) H1
def iNums (K : PySem.W.Frag) (ta : TA) : TI := fun σ H Rr => ta σ H fun vs H1 => ∃ x xs T, vs = [x] ∧ SrcV x T ∧ (∀ t, (T t).At K H1 xs) ∧ ∀ t, Rr (Itn K (T t)) H1
section
variable {X : Cx} {e e2 : Expr} {ta : TA} {p pos tpos : Pos} {elts : List Expr} {kk : Nat}
theorem pi_pairs (hg : Gl X "zip") (hm : X.mg "zip" = none) (ha : PA X [e, e2] ta) (hs : starEach [e, e2] X.env = (false, eval e X.env) :: starEach [e2] X.env) (hpl : (backTo pos (starEach [e2] X.env)).any (·.1) = false) :
    PI X (.Tuple elts kk tpos) (.Call (.Name "zip" p) [e, e2] [] pos) (iPairs X.K ta) := by
  refine ⟨fun pins s σ H Rr I h => ?_⟩
  refine Call_ (ld_blt I hg hm PyProof.Rows.boot_zip (PyProof.Rows.callWith_type1 (thn (ha.run pos pins s σ H _ I h) fun us s1 ⟨vs, H1, I1, r1, q1⟩ => ?_) hs hpl))
  obtain ⟨x, y, xs, ys, T1, T2, ex, c1, c2, a1, a2, q⟩ := q1
  subst ex
  cases r1 with
  | cons r rr =>
    cases rr with
    | cons r' rr =>
      cases rr
      obtain ⟨t, rfl⟩ := srcV_val c1 r
      obtain ⟨t', rfl⟩ := srcV_val c2 r'
      obtain ⟨HH1, B1, hh1, lt1⟩ := src_begins I1 (a1 t)
      obtain ⟨HH2, B2, hh2, lt2⟩ := src_begins I1 (a2 t')
      have fresh5 : ∀ c, c ∈ [s1.heap.objs.size + 4, s1.heap.objs.size + 2, s1.heap.objs.size + 3, s1.heap.objs.size, s1.heap.objs.size + 1] → FpOk X pins H1 c := fun c hcm => by
        have e' : c = s1.heap.objs.size + 4 ∨ c = s1.heap.objs.size + 2 ∨ c = s1.heap.objs.size + 3 ∨ c = s1.heap.objs.size ∨ c = s1.heap.objs.size + 1 := by simpa using hcm
        have hle : s1.heap.objs.size ≤ c := by
          rcases e' with z | z | z | z | z
          · rw [z]; exact Nat.le_add_right _ _
          · rw [z]; exact Nat.le_add_right _ _
          · rw [z]; exact Nat.le_add_right _ _
          · rw [z]; exact Nat.le_refl _
          · rw [z]; exact Nat.le_add_right _ _
        exact I1.fpOk hle (I1.hok.fresh hle)
      refine zip_begins2 B1 B2 hh1 hh2 fun h' hz hTI hTO h1 h2 hsz hk => wpAny_pyIter_zip hz ?_
      have I2 : Inv X pins σ H1 { s1 with heap := h' } := I1.kept (t' := s1.toks) hk
      have Z : ZpOk (T1 t) (T2 t') (s1.heap.objs.size + 4) (s1.heap.objs.size + 2) (s1.heap.objs.size + 3) s1.heap.objs.size (s1.heap.objs.size + 1) := by
        generalize s1.heap.objs.size = n at *
        refine ⟨Nat.ne_of_lt (by omega), Nat.ne_of_lt (by omega), Nat.ne_of_lt (by omega), Nat.ne_of_gt (by omega), Nat.ne_of_gt (by omega), Nat.ne_of_gt (by omega), Nat.ne_of_gt (by omega), Nat.ne_of_gt (by omega), Nat.ne_of_gt (by omega), Nat.ne_of_lt (by omega), fun b e => ?_, fun b e => ?_⟩
        · have h : b < n := lt1 b e
          exact ⟨Nat.ne_of_lt (Nat.lt_of_lt_of_le h (by omega)), Nat.ne_of_lt (Nat.lt_of_lt_of_le h (by omega)), Nat.ne_of_lt h, Nat.ne_of_lt (Nat.lt_of_lt_of_le h (by omega))⟩
        · have h : b < n := lt2 b e
          exact ⟨Nat.ne_of_lt (Nat.lt_of_lt_of_le h (by omega)), Nat.ne_of_lt (Nat.lt_of_lt_of_le h (by omega)), Nat.ne_of_lt h, Nat.ne_of_lt (Nat.lt_of_lt_of_le h (by omega))⟩
      exact ⟨s1.heap.objs.size + 4, [s1.heap.objs.size + 4, s1.heap.objs.size + 2, s1.heap.objs.size + 3, s1.heap.objs.size, s1.heap.objs.size + 1], _, _, H1, rfl, I2, turn_pairs Z, ⟨hz, hTI, ⟨_, _, hTO⟩, st_new h1, st_new h2⟩, fresh5, q t t'⟩
theorem pi_nums (hg : Gl X "enumerate") (hm : X.mg "enumerate" = none) (ha : PA X [e] ta) (hs : starEach [e] X.env = [(false, eval e X.env)]) :
    PI X (.Tuple elts kk tpos) (.Call (.Name "enumerate" p) [e] [] pos) (iNums X.K ta) := by
  refine ⟨fun pins s σ H Rr I h => ?_⟩
  refine Call_ (ld_blt I hg hm boot_enumerate (PyProof.Rows.callWith_type1 (thn (ha.run pos pins s σ H _ I h) fun us s1 ⟨vs, H1, I1, r1, q1⟩ => ?_) hs rfl))
  obtain ⟨x, xs, T, ex, c1, a1, q⟩ := q1
  subst ex
  cases r1 with
  | cons r rr =>
    cases rr
    obtain ⟨t, rfl⟩ := srcV_val c1 r
    obtain ⟨HH1, B1, hh1, lt1⟩ := src_begins I1 (a1 t)
    refine PySem.dl_enum_begins B1 hh1 fun h' he h1 hsz hk => wpAny_pyIter_enum he ?_
    have I2 : Inv X pins σ H1 { s1 with heap := h' } := I1.kept (t' := s1.toks) hk
    refine ⟨s1.heap.objs.size + 1, [s1.heap.objs.size + 1, s1.heap.objs.size], _, _, H1, rfl, I2, turn_nums (Nat.succ_ne_self _) (fun b e => ⟨Nat.ne_of_lt (Nat.lt_succ_of_lt (lt1 b e)), Nat.ne_of_lt (lt1 b e)⟩), ⟨⟨.none, he⟩, st_new h1⟩, fun b hb => ?_, q t⟩
    have e' : b = s1.heap.objs.size + 1 ∨ b = s1.heap.objs.size := by simpa using hb
    have hle : s1.heap.objs.size ≤ b := by
      rcases e' with z | z
      · rw [z]; exact Nat.le_add_right _ _
      · rw [z]; exact Nat.le_refl _
    exact I1.fpOk hle (I1.hok.fresh hle)
end
def pairsD (xs ys : List D) : List D := List.zipWith (fun a b => D.tup [a, b]) xs ys
def numsGo : Nat → List D → List D
  | _, [] => []
  | n, d :: r => .tup [.int (n : Nat), d] :: numsGo (n + 1) r
def numsD (xs : List D) : List D := numsGo 0 xs
theorem numsGo_get : ∀ {xs : List D} {n i : Nat}, (numsGo n xs)[i]? = (xs[i]?).map fun d => D.tup [.int ((n + i : Nat) : Int), d]
  | [], n, i => by simp [numsGo]
  | d :: r, n, 0 => by simp [numsGo]
  | d :: r, n, i + 1 => by
    show (numsGo (n + 1) r)[i]? = _
    rw [numsGo_get, List.getElem?_cons_succ]
    have : n + 1 + i = n + (i + 1) := by omega
    rw [this]
theorem numsGo_len : ∀ {xs : List D} {n : Nat}, (numsGo n xs).length = xs.length
  | [], n => rfl
  | d :: r, n => by
    show (numsGo (n + 1) r).length + 1 = _
    rw [numsGo_len]; rfl
theorem numsD_get {xs : List D} {i : Nat} : (numsD xs)[i]? = (xs[i]?).map fun d => D.tup [.int (i : Nat), d] := by
  unfold numsD
  rw [numsGo_get, Nat.zero_add]
theorem numsD_len {xs : List D} : (numsD xs).length = xs.length := numsGo_len
theorem itok_pairs {Γ : Gm} {F : Hp} {S1 S2 : Src} {xs ys : List D} {vs us : List V} (h1 : ∀ H, Same F H → S1.At Γ.K H vs) (h2 : ∀ H, Same F H → S2.At Γ.K H us) (r1 : Reps Γ F xs vs) (r2 : Reps Γ F ys us) : ItOk Γ F (Itp Γ.K S1 S2) (pairsD xs ys) := fun F1 H s1 s2 => by
  have q1 := h1 H (s1.trans s2)
  have q2 := h2 H (s1.trans s2)
  refine ⟨fun i d e => ?_, vs, us, q1, q2, ?_⟩
  · unfold pairsD at e
    rw [List.getElem?_zipWith] at e
    cases ea : xs[i]? with
    | none => rw [ea] at e; cases e
    | some a =>
      cases eb : ys[i]? with
      | none => rw [ea, eb] at e; cases e
      | some b =>
        rw [ea, eb] at e
        cases e
        obtain ⟨v, k1, k2⟩ := r1.get ea
        obtain ⟨u, k3, k4⟩ := r2.get eb
        refine ⟨⟨vs, us, v, u, q1, q2, k1, k3⟩, fun w H' ⟨T, x, y, ew, hT, eH, f1, f2⟩ => ?_⟩
        have e1 := f1 vs q1
        have e2 := f2 us q2
        rw [k1] at e1; cases e1
        rw [k3] at e2; cases e2
        subst ew eH
        refine ⟨_, Made.fro s2 hT ⟨T, [v, u], rfl, SqT.of upd_same, ?_⟩⟩
        have ss := s1.trans (same_fro (o := .tup [v, u]) s2 hT)
        exact ⟨v, [u], rfl, Rep.mono ss _ _ k2, u, [], rfl, Rep.mono ss _ _ k4, rfl⟩
  · unfold pairsD
    rw [List.length_zipWith, r1.length, r2.length]
    omega
theorem itok_nums {Γ : Gm} {F : Hp} {S : Src} {xs : List D} {vs : List V} (h1 : ∀ H, Same F H → S.At Γ.K H vs) (r1 : Reps Γ F xs vs) : ItOk Γ F (Itn Γ.K S) (numsD xs) := fun F1 H s1 s2 => by
  have q1 := h1 H (s1.trans s2)
  refine ⟨fun i d e => ?_, vs, q1, by rw [numsD_len, r1.length]⟩
  rw [numsD_get] at e
  cases ea : xs[i]? with
  | none => rw [ea] at e; cases e
  | some a =>
    rw [ea] at e
    cases e
    obtain ⟨v, k1, k2⟩ := r1.get ea
    refine ⟨⟨vs, v, q1, k1⟩, fun w H' ⟨T, x, ew, hT, eH, f1⟩ => ?_⟩
    have e1 := f1 vs q1
    rw [k1] at e1; cases e1
    subst ew eH
    refine ⟨_, Made.fro s2 hT ⟨T, [.int (i : Nat), v], rfl, SqT.of upd_same, ?_⟩⟩
    have ss := s1.trans (same_fro (o := .tup [.int (i : Nat), v]) s2 hT)
    exact ⟨_, [v], rfl, rfl, v, [], rfl, Rep.mono ss _ _ k2, rfl⟩
def iZip (fa : AF) : IF := fun ds => (fa ds).bind fun (p : List Rv × DS) => (takes p.2 p.1).bind fun (q : List D × DS) => match q.1 with
  | [a, b] => (itemsOf a).bind fun xs => (itemsOf b).bind fun ys => .ok (pairsD xs ys, q.2)
  | _ => .stuck
def iEnum (fa : AF) : IF := fun ds => (fa ds).bind fun (p : List Rv × DS) => (takes p.2 p.1).bind fun (q : List D × DS) => match q.1 with
  | [a] => (itemsOf a).bind fun xs => .ok (numsD xs, q.2)
  | _ => .stuck
section
variable {cm : CT} {X : Cx} {e e2 : Expr} {fa : AF} {p pos tpos : Pos} {elts : List Expr} {kk : Nat}
theorem ij_zip (nb : NoB X.mg) (ha : AJ cm X [e, e2] fa) (hg : Gl X "zip" := by rfl) (hs : starEach [e, e2] X.env = (false, eval e X.env) :: starEach [e2] X.env := by rfl) (hpl : (backTo pos (starEach [e2] X.env)).any (·.1) = false := by rfl) :
    IJ cm X (.Tuple elts kk tpos) (.Call (.Name "zip" p) [e, e2] [] pos) (iZip fa) := fun W tk => by
  refine pi_imp (pi_pairs hg (nb _ (by decide)) (ha W tk) hs hpl) fun σ H Rr ⟨F, ds, r, w⟩ => ?_
  unfold iZip at w
  rw [R.wp_bind] at w
  refine tA_go (Step.refl r) w fun p vs H1 F1 w1 s1 ok fr => ?_
  rw [R.wp_bind] at w1
  obtain ⟨q, eq, w2⟩ := R.wp_pure takes_noerr w1
  clear w1
  obtain ⟨F2, s2, rps, _⟩ := takes_step s1 ok fr eq
  obtain ⟨q1, ds2⟩ := q
  dsimp only at w2 s2 rps
  split at w2
  · rename_i a b
    rw [R.wp_bind] at w2
    obtain ⟨xs, ex, w3⟩ := R.wp_pure itemsOf_noerr w2
    rw [R.wp_bind] at w3
    obtain ⟨ys, ey, w4⟩ := R.wp_pure itemsOf_noerr w3
    obtain ⟨v, vr, rfl, h1, u, ur, rfl, h2, h3⟩ := rps
    cases (show ur = [] from h3)
    obtain ⟨T1, vs1, c1, r1, f1⟩ := rep_src h1 ex
    obtain ⟨T2, vs2, c2, r2, f2⟩ := rep_src h2 ey
    exact ⟨v, u, vs1, vs2, T1, T2, rfl, c1, c2, fun t => f1 t _ s2.rl.sub, fun t => f2 t _ s2.rl.sub, fun t t' => w4 _ H1 F2 s2 (itok_pairs (fun H s => f1 t H s) (fun H s => f2 t' H s) r1 r2)⟩
  · exact False.elim w2
theorem ij_enum (nb : NoB X.mg) (ha : AJ cm X [e] fa) (hg : Gl X "enumerate" := by rfl) (hs : starEach [e] X.env = [(false, eval e X.env)] := by rfl) :
    IJ cm X (.Tuple elts kk tpos) (.Call (.Name "enumerate" p) [e] [] pos) (iEnum fa) := fun W tk => by
  refine pi_imp (pi_nums hg (nb _ (by decide)) (ha W tk) hs) fun σ H Rr ⟨F, ds, r, w⟩ => ?_
  unfold iEnum at w
  rw [R.wp_bind] at w
  refine tA_go (Step.refl r) w fun p vs H1 F1 w1 s1 ok fr => ?_
  rw [R.wp_bind] at w1
  obtain ⟨q, eq, w2⟩ := R.wp_pure takes_noerr w1
  clear w1
  obtain ⟨F2, s2, rps, _⟩ := takes_step s1 ok fr eq
  obtain ⟨q1, ds2⟩ := q
  dsimp only at w2 s2 rps
  split at w2
  · rename_i a
    rw [R.wp_bind] at w2
    obtain ⟨xs, ex, w3⟩ := R.wp_pure itemsOf_noerr w2
    obtain ⟨v, vr, rfl, h1, h2⟩ := rps
    cases (show vr = [] from h2)
    obtain ⟨T1, vs1, c1, r1, f1⟩ := rep_src h1 ex
    exact ⟨v, vs1, T1, rfl, c1, fun t => f1 t _ s2.rl.sub, fun t => w3 _ H1 F2 s2 (itok_nums (fun H s => f1 t H s) r1)⟩
  · exact False.elim w2
end
end DL
namespace PySem.W
open PySem PySem.Spec PySem.Calls PyProof.Rows
section
variable {prog : Program} {w : World} {A : Around} {E : Value → Shared → Prop} {s : Shared} {env : Env} {elts : List Expr} {k : Nat} {pos : Pos}
/-- what a starred unpacking leaves: all that was there, a new list -/
abbrev StarK (s : Shared) (items : Array Value) (n i : Nat) (Q : List Value → Shared → Prop) : Prop :=
  ∀ (h₂ : Heap) (tk : Nat), (∀ b o, s.heap.get? b = some o → h₂.get? b = some o) → Q (items.toList.take i ++ [.ref h₂.objs.size] ++ (items.toList.drop i).drop (items.size + 1 - n)) { s with heap := h₂.push { cls := .type "list", data := .seq ((items.toList.drop i).take (items.size + 1 - n)).toArray }, toks := tk }
theorem dl_starL {l : Addr} {items : Array Value} {n i : Nat} {Q : List Value → Shared → Prop} (hl : s.heap.IsList l items) (hh : A.handled = none) (hi : i < n) (hn : n ≤ items.size + 1) (hz : items.size ≤ 16384)
    (h : StarK s items n i Q) : wpAny (model prog w) A (unpackItems (.ref l) n (some i)) Q E s := by
  have hlt : l ≠ s.heap.objs.size := by obtain ⟨o, ho, _⟩ := hl; exact Nat.ne_of_lt (Heap.lt_size ho)
  unfold unpackItems
  refine wpAny_bind ?_
  unfold notIterableAtAll
  refine wpAny_bind (wpAny_specialOf hl.typeIs slot_list_iter.lookup ?_)
  refine wpAny_pure ?_
  simp only [Bool.false_eq_true, if_false]
  refine wpAny_bind (wpAny_holding (wpAny_pyIter_list hl ?_))
  refine wpAny_bind (wpAny_holding (kun_draw hlt i 0 _ _ ⟨_, Heap.get?_push_size _ rfl, rfl, rfl⟩ (hl.push _) (by omega) fun h₁ hit₁ hs₁ => ?_))
  have hl₁ : h₁.IsList l items := (hl.push _).extBut hs₁.extBut hlt
  rw [Nat.zero_add] at hit₁
  have hit₁' := hit₁
  obtain ⟨oi, hoi, _⟩ := hit₁'
  have hl₁' := hl₁
  obtain ⟨ol, hol, _⟩ := hl₁'
  rw [List.drop_zero]
  have hfl : (items.toList.take i).length = i := by rw [List.length_take, Array.length_toList]; omega
  rw [if_neg (show ¬ ((items.toList.take i).length < i) by rw [hfl]; omega)]
  refine wpAny_bind (wpAny_holding (kun_collect (s := { s with heap := h₁ }) (T := "list_iterator") (.inr (.inr (.inl rfl))) (Walks.list (A := A.in1) hh s.heap.objs.size l hlt items) (fun j u st => st.1.typeIs) (k := i) (by omega) ⟨hit₁, hl₁⟩ (Heap.lt_size hoi) (Heap.lt_size hol) (fun h₂ tk hk => ?_) (by rw [sizeLine_eq]; omega)))
  have hrl : (items.toList.drop i).length = items.size - i := by rw [List.length_drop, Array.length_toList]
  have hmid : (items.toList.drop i).length - (n - 1 - i) = items.size + 1 - n := by rw [hrl]; omega
  show wpAny _ _ (if (items.toList.drop i).length < n - 1 - i then _ else _) _ _ _
  rw [if_neg (by rw [hrl]; omega)]
  show wpAny _ _ (newList ((items.toList.drop i).take ((items.toList.drop i).length - (n - 1 - i))) >>= fun d => pure (items.toList.take i ++ [d] ++ (items.toList.drop i).drop ((items.toList.drop i).length - (n - 1 - i)))) _ _ _
  rw [hmid]
  have he : ∀ b o, s.heap.get? b = some o → h₂.get? b = some o := fun b o e => by
    have hb : b ≠ s.heap.objs.size := Nat.ne_of_lt (Heap.lt_size e)
    exact hk b o hb (hs₁.extBut b o hb (Heap.get?_push_of_some _ e))
  exact wpAny_bind (wpAny_newList (wpAny_pure (h h₂ tk he)) (by rw [List.length_take, hrl, sizeLine_eq]; omega))
theorem dl_starT {l : Addr} {items : Array Value} {n i : Nat} {Q : List Value → Shared → Prop} (hl : IsTup s.heap l items) (hh : A.handled = none) (hi : i < n) (hn : n ≤ items.size + 1) (hz : items.size ≤ 16384)
    (h : StarK s items n i Q) : wpAny (model prog w) A (unpackItems (.ref l) n (some i)) Q E s := by
  have hlt : l ≠ s.heap.objs.size := by obtain ⟨o, ho, _⟩ := hl; exact Nat.ne_of_lt (Heap.lt_size ho)
  unfold unpackItems
  refine wpAny_bind ?_
  unfold notIterableAtAll
  refine wpAny_bind (wpAny_specialOf hl.typeIs slot_tuple_iter.lookup ?_)
  refine wpAny_pure ?_
  simp only [Bool.false_eq_true, if_false]
  refine wpAny_bind (wpAny_holding (iter_tuple hl ?_))
  refine wpAny_bind (wpAny_holding (draw_tuple hlt i 0 _ _ ⟨_, Heap.get?_push_size _ rfl, rfl, rfl⟩ (hl.push _) (by omega) fun h₁ hit₁ hs₁ => ?_))
  have hl₁ : IsTup h₁ l items := (hl.push _).extBut hs₁.extBut hlt
  rw [Nat.zero_add] at hit₁
  have hit₁' := hit₁
  obtain ⟨oi, hoi, _⟩ := hit₁'
  have hl₁' := hl₁
  obtain ⟨ol, hol, _⟩ := hl₁'
  rw [List.drop_zero]
  have hfl : (items.toList.take i).length = i := by rw [List.length_take, Array.length_toList]; omega
  rw [if_neg (show ¬ ((items.toList.take i).length < i) by rw [hfl]; omega)]
  refine wpAny_bind (wpAny_holding (kun_collect (s := { s with heap := h₁ }) (T := "tuple_iterator") (.inr (.inr (.inr rfl))) (Walks.tuple (A := A.in1) hh s.heap.objs.size l hlt items) (fun j u st => st.1.typeIs) (k := i) (by omega) ⟨hit₁, hl₁⟩ (Heap.lt_size hoi) (Heap.lt_size hol) (fun h₂ tk hk => ?_) (by rw [sizeLine_eq]; omega)))
  have hrl : (items.toList.drop i).length = items.size - i := by rw [List.length_drop, Array.length_toList]
  have hmid : (items.toList.drop i).length - (n - 1 - i) = items.size + 1 - n := by rw [hrl]; omega
  show wpAny _ _ (if (items.toList.drop i).length < n - 1 - i then _ else _) _ _ _
  rw [if_neg (by rw [hrl]; omega)]
  show wpAny _ _ (newList ((items.toList.drop i).take ((items.toList.drop i).length - (n - 1 - i))) >>= fun d => pure (items.toList.take i ++ [d] ++ (items.toList.drop i).drop ((items.toList.drop i).length - (n - 1 - i)))) _ _ _
  rw [hmid]
  have he : ∀ b o, s.heap.get? b = some o → h₂.get? b = some o := fun b o e => by
    have hb : b ≠ s.heap.objs.size := Nat.ne_of_lt (Heap.lt_size e)
    exact hk b o hb (hs₁.extBut b o hb (Heap.get?_push_of_some _ e))
  exact wpAny_bind (wpAny_newList (wpAny_pure (h h₂ tk he)) (by rw [List.length_take, hrl, sizeLine_eq]; omega))
theorem dl_star_assign {l : Addr} {n i : Nat} {Q : Unit → Shared → Prop} (hlen : (assignEach elts env).length = n) (hstar : (assignEach elts env).findIdx? (·.1) = some i)
    (h : wpAny (model prog w) A (unpackItems (.ref l) n (some i)) (fun vs s₁ => wpAny (model prog w) A (assignInOrder ((assignEach elts env).map (·.2)) vs) Q E s₁) E s) :
    wpAny (model prog w) A (assign (.Tuple elts k pos) env (.ref l)) Q E s := by
  rw [assign_Tuple]
  refine wpAny_bind (wpAny_standAt ?_)
  unfold unpack
  rw [hlen, hstar]
  exact wpAny_bind (wpAny_holding h)
end
end PySem.W
namespace DL
open PySem PySem.Spec PyProof.Rows L2
def gStar (K : PySem.W.Frag) (n i : Nat) (t : TGs) : TG := fun v σ H Q => ∃ a xs, v = .ref a ∧ (SqL K H a xs ∨ SqT K H a xs) ∧ n ≤ xs.length + 1 ∧ xs.length ≤ 16384 ∧
  ∀ p, H p = none → t (xs.take i ++ [V.ref p] ++ (xs.drop i).drop (xs.length + 1 - n)) σ (upd H p (.lst ((xs.drop i).take (xs.length + 1 - n)))) Q
section
variable {X : Cx} {es : List Expr} {e : Expr} {k n i : Nat} {t : TGs} {te : TG} {pos p : Pos}
theorem vals_app {xs ys : List V} {us ws : List Value} (h : Vals xs us) (h' : Vals ys ws) : Vals (xs ++ ys) (us ++ ws) := h.append h'
theorem pg_star (hc : X.calm = true) (h : PGs X es t) (hn : (assignEach es X.env).length = n) (hst : (assignEach es X.env).findIdx? (·.1) = some i) (hi : i < n) : PG X (.Tuple es k pos) (gStar X.K n i t) := by
  refine ⟨fun pins s σ H v u Q I r hw => ?_⟩
  obtain ⟨a, xs, e1, hq, hl, hz, hw⟩ := hw
  subst e1
  cases r
  have fin : ∀ (its : List Value), Vals xs its → PySem.W.StarK s its.toArray n i (fun vs s₁ => wpAny (model X.prog X.w) X.A (assignInOrder ((assignEach es X.env).map (·.2)) vs) (fun _ s' => ∃ σ' H', Inv X pins σ' H' s' ∧ Q σ' H') X.xe s₁) := fun its rv h₂ tk hk => by
    have hlen := rv.length
    have I1 := I.kept (h' := h₂) (t' := tk) hk
    have rm : Vals ((xs.drop i).take (xs.length + 1 - n)) ((its.drop i).take (its.length + 1 - n)) := by rw [← hlen]; exact (rv.drop i).take _
    have I2 : Inv X pins σ (upd H h₂.objs.size (.lst ((xs.drop i).take (xs.length + 1 - n)))) { s with heap := h₂.push { cls := .type "list", data := .seq ((its.toArray.toList.drop i).take (its.toArray.size + 1 - n)).toArray }, toks := tk } := by
      refine I1.laid (t' := tk) (fun b o e => Heap.get?_push_of_some _ e) (Nat.le_refl _) ⟨?_, _, 0, rm, ?_⟩
      · rw [List.length_take, List.length_drop, sizeLine_eq]; omega
      · have := Heap.get?_push_size h₂ (o := { cls := .type "list", data := .seq ((its.drop i).take (its.length + 1 - n)).toArray }) rfl
        simpa using this
    refine h.run pins _ σ _ (xs.take i ++ [V.ref h₂.objs.size] ++ (xs.drop i).drop (xs.length + 1 - n)) _ Q I2 ?_ (hw _ (I1.hok.fresh (Nat.le_refl _)))
    refine vals_app (vals_app ?_ (.cons rfl .nil)) ?_
    · simpa using rv.take i
    · have : Vals ((xs.drop i).drop (xs.length + 1 - n)) ((its.drop i).drop (its.length + 1 - n)) := by rw [← hlen]; exact (rv.drop i).drop _
      simpa using this
  refine PySem.W.dl_star_assign hn hst ?_
  rcases hq with hq | hq
  · obtain ⟨its, rv, pl, _⟩ := I.list hq
    have hlen := rv.length
    exact PySem.W.dl_starL pl.isList (I.ok.hd hc) hi (by rw [List.size_toArray, ← hlen]; exact hl) (by rw [List.size_toArray, ← hlen]; exact hz) (fin its rv)
  · obtain ⟨its, rv, pl, _⟩ := I.tuple hq
    have hlen := rv.length
    exact PySem.W.dl_starT pl (I.ok.hd hc) hi (by rw [List.size_toArray, ← hlen]; exact hl) (by rw [List.size_toArray, ← hlen]; exact hz) (fin its rv)
theorem pgs_starred {u : TGs} (h1 : PG X e te) (h2 : PGs X es u) (hs : (assignEach (.Starred e p :: es) X.env).map (·.2) = assign e X.env :: (assignEach es X.env).map (·.2)) : PGs X (.Starred e p :: es) (gCons te u) := by
  refine ⟨fun pins s σ H vs us Q I r h => ?_⟩
  obtain ⟨v, vr, e1, h⟩ := h
  subst e1
  cases r with
  | cons r rr =>
    rw [hs]
    refine assignInOrder_cons (thn (h1.run pins s σ H _ _ _ I r h) fun _ s1 ⟨σ1, H1, I1, q1⟩ => ?_)
    exact h2.run pins s1 σ1 H1 _ _ Q I1 rr q1
end
def gStarD (n i : Nat) (gs : List D → DS → R DS) : GF := fun d ds => match d with
  | .lst es => if decide (n ≤ es.length + 1) && decide (es.length ≤ 16384) then gs (es.take i ++ [.lst ((es.drop i).take (es.length + 1 - n))] ++ (es.drop i).drop (es.length + 1 - n)) ds else .stuck
  | .tup es => if decide (n ≤ es.length + 1) && decide (es.length ≤ 16384) then gs (es.take i ++ [.lst ((es.drop i).take (es.length + 1 - n))] ++ (es.drop i).drop (es.length + 1 - n)) ds else .stuck
  | _ => .stuck
section
variable {cm : CT} {X : Cx} {es : List Expr} {e : Expr} {k n i : Nat} {g : GF} {gs : List D → DS → R DS} {ix iy : List Nat} {pos p : Pos}
theorem gsj_star (h1 : GJ cm X e ix g) (h2 : GsJ cm X es iy gs) (hs : (assignEach (.Starred e p :: es) X.env).map (·.2) = assign e X.env :: (assignEach es X.env).map (·.2) := by rfl) : GsJ cm X (.Starred e p :: es) (ix ++ iy) (gsCons g gs) := by
  refine pgs_imp (pgs_starred h1 h2 hs) fun vs σ H Q ⟨F, ds, ds2, r, rp, w⟩ => ?_
  cases ds2 with
  | nil => exact False.elim w
  | cons d rest =>
    obtain ⟨v, vr, rfl, r1, r2⟩ := rp
    have w : ((g d ds).bind fun ds' => gs rest ds').wp _ _ := w
    rw [R.wp_bind] at w
    refine ⟨v, vr, rfl, F, ds, d, r, r1, R.wp_mono w (fun ds1 _ w1 σ1 H1 F1 s1 b1 => ?_) fun _ _ _ _ z => z⟩
    exact ⟨F1, ds1, rest, s1.rl, Reps.mono s1.fs _ _ r2, R.wp_mono w1 (fun ds2 _ w2 σ2 H2 F2 s2 b2 => w2 σ2 H2 F2 (s1.trans s2) fun j hj => by
      rw [List.mem_append, not_or] at hj
      exact (b2 j hj.2).trans (b1 j hj.1)) fun _ _ _ _ z => z⟩
theorem gj_star (hc : X.calm = true) (h : GsJ cm X es ix gs) (hi : i < n) (hn : (assignEach es X.env).length = n := by rfl) (hst : (assignEach es X.env).findIdx? (·.1) = some i := by rfl) : GJ cm X (.Tuple es k pos) ix (gStarD n i gs) := by
  refine pg_imp (pg_star hc h hn hst hi) fun v σ H Q ⟨F, ds, d, r, rp, w⟩ => ?_
  have go : ∀ (a : Addr) (es : List D) (vs : List V), (SqL X.K F a vs ∨ SqT X.K F a vs) → Reps (gm X cm) F es vs → v = .ref a →
      (if (decide (n ≤ es.length + 1) && decide (es.length ≤ 16384)) = true then gs (es.take i ++ [.lst ((es.drop i).take (es.length + 1 - n))] ++ (es.drop i).drop (es.length + 1 - n)) ds else .stuck).wp (fun ds' => ∀ σ' H' F', Step (gm X cm) ds σ H F ds' σ' H' F' → But ix σ σ' → Q σ' H') (fun _ _ _ _ => False) → gStar X.K n i (tGs (gm X cm) ix gs) v σ H Q := fun a es vs hq rs ev w => by
    by_cases hb : (decide (n ≤ es.length + 1) && decide (es.length ≤ 16384)) = true
    · rw [if_pos hb] at w
      simp only [Bool.and_eq_true, decide_eq_true_eq] at hb
      have hl := rs.length
      refine ⟨a, vs, ev, hq.elim (fun z => .inl (same_l r.sub z)) (fun z => .inr (same_t r.sub z)), by rw [hl]; exact hb.1, by rw [hl]; exact hb.2, fun p hp => ?_⟩
      have rm : Reps (gm X cm) F ((es.drop i).take (es.length + 1 - n)) ((vs.drop i).take (vs.length + 1 - n)) := by rw [hl]; exact (rs.drop i).take _
      have sF := same_fro (o := .lst ((vs.drop i).take (vs.length + 1 - n))) r.sub hp
      have m : Made (gm X cm) F H (.fro (.lst ((es.drop i).take (es.length + 1 - n)))) (.ref p) (upd F p (.lst ((vs.drop i).take (vs.length + 1 - n)))) (upd H p (.lst ((vs.drop i).take (vs.length + 1 - n)))) := Made.fro r.sub hp ⟨p, _, rfl, upd_same, Reps.mono sF _ _ rm⟩
      have s1 : Step (gm X cm) ds σ H F ds σ _ _ := m.step r
      refine ⟨_, ds, _, s1.rl, ?_, R.wp_mono w (fun ds' _ q σ' H' F' s b => q σ' H' F' (s1.trans s) b) fun _ _ _ _ z => z⟩
      refine Reps.append (Reps.append (Reps.mono sF _ _ (rs.take i)) ⟨_, [], rfl, m.rv, rfl⟩) ?_
      rw [← hl]
      exact Reps.mono sF _ _ ((rs.drop i).drop _)
    · rw [if_neg hb] at w
      exact False.elim w
  unfold gStarD at w
  split at w
  · rename_i es'
    obtain ⟨a, vs, ev, q, rs⟩ := rp
    exact go a es' vs (.inl (SqL.of q)) rs ev w
  · rename_i es'
    obtain ⟨a, vs, ev, q, rs⟩ := rp
    exact go a es' vs (.inr q) rs ev w
  · exact False.elim w
end
end DL
namespace DL
open PySem PySem.Spec PyProof.Rows L2 LamX
section
variable {X : Cx} {pins : List (Addr × Obj)} {σ : L2.St} {H : Hp} {s : Shared}
/-- HandS.Lambda's lam_make2, and no address grows free -/
theorem lam_make3 {T : List (Addr × Str)} {c P : Addr} {params : Arguments} {body : Expr} {scope : Scope} {pos : Pos} {E : Value → Shared → Prop} {Q : Value → Shared → Prop} (I : Inv X pins σ H s) (TB : TabB X.base X.mg c P) (hcode : X.env.code = .ref c)
    (hm : (P, X.env.qual ++ "<lambda>") ∈ T) (hu : ∀ p ∈ T, p.1 = P → p.2 = X.env.qual ++ "<lambda>") (hT : Tabs T H) (hdef : defaultsOf params X.env = ([], [])) (hfree : ∀ y ∈ scope.names, y.2 = .free → ∃ c, X.env.cells.lookup y.1 = some c)
    (h : ∀ (f c' : Addr) (pm ctv : Value) (H1 : Hp) (s' : Shared), Inv X pins σ H1 s' → (∀ b o, H b = some o → b ≠ P → H1 b = some o) → (∀ b, H1 b = none → H b = none) → Tabs T H1 →
      s'.heap.get? f = some (PySem.W.kla_obj "<lambda>" (X.env.qual ++ "<lambda>") params body scope (cloFrom X.env.cells scope.names []) pm c' ctv) → H1 f = none → f ∉ frs X.stack → H1 c' = some (CodeO c' (X.env.qual ++ "<lambda>")) → Q (.ref f) s') :
    wpAny (model X.prog X.w) X.A (eval (.Lambda params body scope pos) X.env) Q E s := by
  obtain ⟨ps, hP, ht, ha⟩ := hT _ hm
  refine PySem.W.kla_eval hdef ?_
  have bP : s.heap.BuiltinsAt X.mg P := TB.bm.keeps I.bk
  have hP' : s.heap.get? P = some { cls := .none, data := .fields ps } := I.hok P _ hP
  have nofr : ∀ f, s.heap.objs.size ≤ f → f ∉ frs X.stack := fun f hf z => by
    rcases List.mem_cons.mp (I.stkSub _ z) with e | e
    · have h1 := I.lt
      rw [← e] at h1
      exact Nat.lt_irrefl _ (Nat.lt_of_lt_of_le h1 hf)
    · exact I.nofs hf e
  cases hc : codeAmong pos ps.toList with
  | none =>
    refine PySem.W.kla_makeFunction (mg := X.mg) (c := c) (P := P) (ps := ps) (closure_ok hfree) I.ok.glob (I.mod.glob.keeps I.bk) hcode (TB.code.keeps I.bk) hP' ht hc TB.gP bP fun c' ctv h' tk hx hge hlt hrec htb => ?_
    obtain ⟨c2, oc, vs, t, e2, hoc, hd, hv⟩ := hrec
    cases e2
    have hsz : s.heap.objs.size ≤ h'.objs.size := Nat.le_trans hge (Nat.le_of_lt hlt)
    have nC : H c' = none := I.hok.fresh hge
    have I1 := inv_table (t' := tk) (more := #[rawInt pos.line, rawInt pos.col, .ref c']) (h' := h'.push (PySem.W.kla_obj "<lambda>" (X.env.qual ++ "<lambda>") params body scope (cloFrom X.env.cells scope.names []) ((X.mg "__name__").getD .none) c' ctv)) I hP
      (fun b o hb e => Heap.get?_push_of_some _ (hx b o hb e)) (Heap.get?_push_of_some _ htb) hge ⟨oc, vs, t, Heap.get?_push_of_some _ hoc, hd, hv⟩
    have hE : ExtN H (upd (upd H P (.tbl (ps ++ #[rawInt pos.line, rawInt pos.col, .ref c']))) c' (CodeO c' (X.env.qual ++ "<lambda>"))) := fun b o e n => by
      rw [upd_ne (ne_of_none e nC), upd_ne (fun z => n ps (Option.some.inj (e.symm.trans (by rw [z]; exact hP))))]
      exact e
    have eL : (ps ++ #[rawInt pos.line, rawInt pos.col, .ref c']).toList = ps.toList ++ [rawInt pos.line, rawInt pos.col, .ref c'] := by simp
    refine h h'.objs.size c' ((X.mg "__name__").getD .none) ctv _ _ I1 (fun b o e n => by rw [upd_ne (ne_of_none e nC), upd_ne n]; exact e) (fun b e => NdefX.upd_none (NdefX.upd_none e)) (fun p hp => ?_) (Heap.get?_push_size _ rfl) ?_ (nofr _ hsz) upd_same
    · by_cases hb : p.1 = P
      · rw [hu p hp hb, hb]
        refine ⟨_, by rw [upd_ne (ne_of_none hP nC), upd_same], by rw [eL]; exact PySem.TriplesOk_snoc _ _ _ _ ht, fun p' cv hcv => ?_⟩
        rw [eL] at hcv
        rcases among_app _ ht hcv with z | z
        · obtain ⟨c0, e1, e2⟩ := ha p' cv z
          exact ⟨c0, e1, hE _ _ e2 codeO_ne⟩
        · exact ⟨c', z, upd_same⟩
      · obtain ⟨ps', a1, a2, a3⟩ := hT p hp
        refine ⟨ps', by rw [upd_ne (ne_of_none a1 nC), upd_ne hb]; exact a1, a2, fun p' cv hcv => ?_⟩
        obtain ⟨c0, e1, e2⟩ := a3 p' cv hcv
        exact ⟨c0, e1, hE _ _ e2 codeO_ne⟩
    · have n1 : h'.objs.size ≠ c' := Nat.ne_of_gt hlt
      have n2 : h'.objs.size ≠ P := Nat.ne_of_gt (Nat.lt_of_lt_of_le (Heap.lt_size hP') hsz)
      rw [upd_ne n1, upd_ne n2]
      exact I.hok.fresh hsz
  | some cv =>
    obtain ⟨c', e, hco⟩ := ha pos cv hc
    subst e
    refine PySem.W.kla_makeFunctionHit (mg := X.mg) (c := c) (P := P) (ps := ps) (closure_ok hfree) I.ok.glob (I.mod.glob.keeps I.bk) hcode (TB.code.keeps I.bk) hP' ht hc bP fun ctv h' tk hx hsz => ?_
    have I1 : Inv X pins σ H { s with heap := h'.push (PySem.W.kla_obj "<lambda>" (X.env.qual ++ "<lambda>") params body scope (cloFrom X.env.cells scope.names []) ((X.mg "__name__").getD .none) c' ctv), toks := tk } := I.kept fun b o e => Heap.get?_push_of_some _ (hx b o e)
    exact h h'.objs.size c' ((X.mg "__name__").getD .none) ctv H _ I1 (fun _ _ e _ => e) (fun _ e => e) hT (Heap.get?_push_size _ rfl) (I.hok.fresh hsz) (nofr _ hsz) hco
end
/-- the lambda's words: x is its parameter -/
structure KeyLam (params : Arguments) (body : Expr) (scope : Scope) (x : Str) : Prop where
  bd : ∃ (k : Nat) (p1 p2 p3 p4 p5 : Pos), body = .Tuple [.Call (.Name "len" p1) [.Name x p2] [] p3, .Name x p4] k p5
  co : scope.isCoroutine = false
  gen : scope.isGenerator = false
  kind : scope.kind = .function
  nocell : ∀ y ∈ scope.names, y.2 ≠ .cell
  par : scope.names.lookup x = some .local
  len : scope.names.lookup ("len" : Str) = some .globalImplicit
  nd : (x == ("__debug__" : Str)) = false
  bind : ∀ (name qual : Str) (cl : List (Str × Addr)) (pm cdv ct u : Value), bindArgs (PySem.W.kla_fn name qual params body scope cl pm cdv ct) ⟨[u], []⟩ = pure [(x, u)]
def keyP (y : Str) : PyData := .tuple [.int (y.length : Nat), .str y]
section
variable {X : Cx} {pins : List (Addr × Obj)} {σ : L2.St} {H : Hp} {s : Shared} {params : Arguments} {body : Expr} {scope : Scope} {x qual : Str} {cl : List (Str × Addr)} {pm ctv : Value} {c' f : Addr}
/-- the lambda is called -/
theorem key_call {A : Around} {y : Str} {u : Value} {Q : Value → Shared → Prop} {E : Value → Shared → Prop} (I : Inv X pins σ H s) (hm : X.mg "len" = none) (L : KeyLam params body scope x) (hd : A.depth < recursionLimit) (ru : RelV (.str y) u) (hy : y.length ≤ sizeLine)
    (ho : s.heap.get? f = some (PySem.W.kla_obj "<lambda>" qual params body scope cl pm c' ctv)) (hcd : s.heap.CodeRec (.ref c') qual)
    (h : ∀ (h' : Heap) (t : Tok) (tk : Nat) (a : Addr), s.toks ≤ tk → (∀ b o, s.heap.get? b = some o → h'.get? b = some o) → s.heap.objs.size ≤ a → h'.get? a = some { cls := .type "tuple", data := .seq #[.int (y.length : Nat) t, u] } → Q (.ref a) { s with heap := h', toks := tk }) :
    wpAny (model X.prog X.w) A (call (.ref f) [u]) Q E s := by
  obtain ⟨t, rfl⟩ := ru
  obtain ⟨k, p1, p2, p3, p4, p5, rfl⟩ := L.bd
  have lim : s.heap.NoLimit := I.nolimit
  refine wpAny_call (PySem.W.kla_callFunE (body := .Tuple [.Call (.Name "len" p1) [.Name x p2] [] p3, .Name x p4] k p5) hd ho rfl L.co L.gen rfl hcd ?_)
  rw [L.bind]
  refine wpAny_pure (wpAny_newFunctionEnv L.nocell (fun z hz => ?_) (fun h₁ hns hsb => ⟨lim.fresh _ hsb, ?_⟩) L.kind)
  · have hz : z = (x, Value.str y t) := by simpa using hz
    rw [hz]
    exact L.par
  have kp : ∀ b o, s.heap.get? b = some o → h₁.get? b = some o := fun b o e => hsb.extBut b o (Nat.ne_of_lt (Heap.lt_size e)) (Heap.get?_push_of_some _ e)
  have hsz : s.heap.objs.size ≤ h₁.objs.size := by
    rw [hsb.1, Heap.size_push]; exact Nat.le_succ _
  have hx : (fun z => ([(x, Value.str y t)] : List (Str × Value)).reverse.lookup z) x = some (.str y t) := by
    show List.lookup x [(x, _)] = _
    rw [List.lookup_cons]; simp
  show codeAny _ _ (.expr _ (PySem.W.envX qual scope s.heap.objs.size f (.ref c') cl)) _ _
  refine PySem.W.kla_codeExpr ?_
  obtain ⟨mb, hb1, hb2⟩ := I.mod.blt
  refine Tuple_ (Calls.spliced_cons ?_)
  refine wpAny_Call_Name_kw (Calls.Name_function_global L.kind L.len (Calls.loadGlobal_builtin ((I.mod.glob.keeps I.bk).keeps kp) hm ((hb1.keeps I.bk).keeps kp) ((hb2 "len" (by decide)).trans bb_len) ?_) (by decide))
  refine PyProof.Rows.callWith_builtin1 (Calls.spliced_cons (wpAny_Name (wpAny_loadName_local L.kind L.par hns hx ?_) L.nd)) (by rfl) (by rfl)
  refine Calls.spliced_nil ?_
  refine len_str (by have := line63; omega) ?_
  refine Calls.spliced_cons (wpAny_Name (wpAny_loadName_local L.kind L.par hns hx ?_) L.nd)
  refine Calls.spliced_nil ?_
  refine wpAny_newTuple ?_ (by show 2 ≤ sizeLine; decide)
  refine h _ _ _ h₁.objs.size (by first | exact Nat.le_refl _ | exact Nat.le_succ _ | (dsimp only; omega)) (fun b o e => Heap.get?_push_of_some _ (kp b o e)) hsz (Heap.get?_push_size _ rfl)
end
end DL
namespace DL
open PySem PySem.Spec PyProof.Rows L2 LamX PySem.SeqAt PySem.W
def keyLt (a b : Str) : Bool := dataLt (keyP a) (keyP b)
def keyLtAt (ys : List Str) (i j : Nat) : Bool := keyLt (ys.getD i "") (ys.getD j "")
def keyBest (ys : List Str) : Str := ys.getD (PySem.argBest (keyLtAt ys) (ys.length - 1)) ""
def minKeyD (ys : List Str) : D := match ys with
  | [] => .non
  | _ => .str (keyBest ys)
def minKeyV (ys : List Str) : V := match ys with
  | [] => .non
  | _ => .str (keyBest ys)
theorem argBest_lt (bt : Nat → Nat → Bool) : ∀ n, PySem.argBest bt n ≤ n
  | 0 => Nat.le_refl _
  | n + 1 => by
    unfold PySem.argBest
    split
    · exact Nat.le_refl _
    · exact Nat.le_succ_of_le (argBest_lt bt n)
section
variable {X : Cx} {pins : List (Addr × Obj)} {σ : L2.St} {H : Hp} {s : Shared} {params : Arguments} {body : Expr} {scope : Scope} {x qual : Str} {cl : List (Str × Addr)} {pm ctv : Value} {c' f : Addr}
def keyObj (y : Str) (t : Tok) (u : Value) : Obj := { cls := .type "tuple", data := .seq #[.int (y.length : Nat) t, u] }
theorem keyReads {h : Heap} {a : Addr} {y : Str} {t : Tok} {u : Value} (e : h.get? a = some (keyObj y t u)) (r : RelV (.str y) u) : Reads h (.ref a) (keyP y) ([] ++ ([] ++ [])) := by
  obtain ⟨t', rfl⟩ := r
  exact .tuple e rfl rfl (.cons (.int _ _) (.cons (.str _ _) .nil))
/-- the built-in min by that key -/
theorem min_key {E : Value → Shared → Prop} {a : Addr} {ys : List Str} {us : List Value} {Q : Value → Shared → Prop} (I : Inv X pins σ H s) (hc : X.A.handled = none) (hm : X.mg "len" = none) (L : KeyLam params body scope x) (hd : X.A.in1.depth < recursionLimit) (hu : X.A.in1.units + 64 < cLine)
    (hl : s.heap.IsList a us.toArray) (ru : Vals (ys.map V.str) us) (hy : ∀ y ∈ ys, y.length ≤ sizeLine)
    (ho : s.heap.get? f = some (PySem.W.kla_obj "<lambda>" qual params body scope cl pm c' ctv)) (hcd : s.heap.CodeRec (.ref c') qual)
    (h : ∀ u s', RelV (minKeyV ys) u → Inv X pins σ H s' → Q u s') :
    wpAny (model X.prog X.w) X.A (call (.builtin "min") [.ref a] [(Str.ofString "key", .ref f), (Str.ofString "default", .none)]) Q E s := by
  have hlen : us.length = ys.length := by simpa using ru.length.symm
  have at_ : ∀ (i : Nat) (v : Value), us.toArray[i]? = some v → ∃ y, ys[i]? = some y ∧ RelV (.str y) v := fun i v e => by
    have e : us[i]? = some v := by simpa using e
    cases q : ys[i]? with
    | none =>
      rw [ru.none_of (i := i) (by rw [List.getElem?_map, q]; rfl)] at e; cases e
    | some y =>
      obtain ⟨u, h1, h2⟩ := ru.get (i := i) (x := .str y) (by rw [List.getElem?_map, q]; rfl)
      rw [h1] at e; cases e
      exact ⟨y, rfl, h2⟩
  refine PySem.call_min_walkKD ?_
  refine iter_listW (A := X.A.in1) hc hl fun s₂ e2 W hst hfp hn hk => ?_
  have sz2 : s₂.heap.objs.size = s.heap.objs.size + 1 := by rw [e2]; exact Heap.size_push ..
  have Iof : ∀ (h' : Heap) (tk : Nat), (∀ b o, s.heap.get? b = some o → h'.get? b = some o) → Inv X pins σ H { s with heap := h', toks := tk } := fun h' tk k => I.kept k
  refine ⟨_, _, _, _, _, _, _, (fun s' => ∃ h' tk, s' = { s with heap := h', toks := tk } ∧ ∀ b o, s.heap.get? b = some o → h'.get? b = some o),
    (fun i k s' => ∃ y u t b, ys[i]? = some y ∧ RelV (.str y) u ∧ k = .ref b ∧ b ≠ s₂.heap.objs.size ∧ b ≠ s.heap.objs.size ∧ s'.heap.get? b = some (keyObj y t u)), keyLtAt ys, rfl, W, hst, hfp, ?_, ?_, fun n0 s' hJ => ?_, fun n0 v s' hP hJ => ?_⟩
  · refine ⟨?_, ?_, ?_, ?_⟩
    · rintro s0 s1 ⟨h', tk, rfl, k⟩ m
      obtain ⟨hp1, gn, dr, tks, osx⟩ := s1
      have e1 := m.gens
      have e3 := m.drawn
      have e4 := m.os
      dsimp only at e1 e3 e4
      subst e1 e3 e4
      refine ⟨hp1, tks, rfl, fun b o e => m.heap b o (fun z => ?_) (k b o e)⟩
      have lt := Heap.lt_size e
      rcases List.mem_cons.mp z with z | z
      · rw [z, sz2] at lt; exact absurd lt (Nat.not_lt.mpr (Nat.le_succ _))
      · rw [List.mem_singleton.mp z] at lt; exact Nat.lt_irrefl _ lt
    · rintro i k s0 s1 ⟨y, u, t, b, h1, h2, h3, h4, h5, h6⟩ m
      exact ⟨y, u, t, b, h1, h2, h3, h4, h5, m.heap b _ (fun z => by
        rcases List.mem_cons.mp z with z | z
        · exact h4 z
        · exact h5 (List.mem_singleton.mp z)) h6⟩
    · rintro i v s0 o Q' E' hi hP ⟨h', tk, rfl, k⟩ st hS hq
      obtain ⟨y, e1, e2'⟩ := at_ i v hP
      have Ic := Iof h' tk k
      refine key_call (A := X.A.in1) Ic hm L hd e2' (hy y (List.mem_of_getElem? e1)) (k _ _ ho) (hcd.keeps k) fun h2 t tk2 b htk kk hb he => ?_
      have lS := Heap.lt_size hS
      have lI : s.heap.objs.size < h'.objs.size := by
        obtain ⟨⟨oi, hoi, _⟩, _⟩ := st
        exact Heap.lt_size hoi
      refine hq (.ref b) _ ⟨h2, tk2, rfl, fun b o e => kk b o (k b o e)⟩ (W.frame _ _ _ _ st ?_ fun b _ o e => kk b o e) (kk _ _ hS) ⟨y, v, t, b, e1, e2', rfl, Nat.ne_of_gt (Nat.lt_of_lt_of_le lS hb), Nat.ne_of_gt (Nat.lt_of_lt_of_le lI hb), he⟩ fun j kj ⟨y', u', t', b', q1, q2, q3, q4, q5, q6⟩ => ⟨y', u', t', b', q1, q2, q3, q4, q5, kk _ _ q6⟩
      exact htk
    · rintro i j ki kj s0 Q' E' hJ ⟨y, u, t, b, h1, h2, h3, h4, h5, h6⟩ ⟨y', u', t', b', k1, k2, k3, k4, k5, k6⟩ hq
      subst h3 k3
      refine rcLt_alike (keyP y) (keyP y') X.A.in1 s0 _ _ _ _ (keyReads h6 h2) (keyReads k6 k2) (by rfl) (by intro z; cases z) ?_ X.prog X.w E' Q' ?_
      · have : (keyP y).depth ≤ 8 := by
          unfold keyP
          simp [PyData.depth, PyData.depthAll]
        have := Nat.min_le_left (keyP y).depth (keyP y').depth
        omega
      · have : keyLtAt ys i j = dataLt (keyP y) (keyP y') := by
          unfold keyLtAt keyLt
          rw [List.getD_eq_getElem?_getD, List.getD_eq_getElem?_getD, h1, k1]; rfl
        rw [← this]; exact hq
  · exact ⟨_, _, by rw [e2], fun b o e => by have := hk b o e; rw [e2] at this; exact this⟩
  · obtain ⟨h', tk, rfl, k⟩ := hJ
    have : ys = [] := List.length_eq_zero_iff.mp (by rw [← hlen]; simpa using n0)
    subst this
    exact h _ _ rfl (Iof h' tk k)
  · obtain ⟨h', tk, rfl, k⟩ := hJ
    obtain ⟨y, e1, e3⟩ := at_ _ v hP
    refine h _ _ ?_ (Iof h' tk k)
    cases ys with
    | nil => simp at hlen; subst hlen; simp at n0
    | cons y0 yr =>
      show RelV (.str (keyBest (y0 :: yr))) v
      have : keyBest (y0 :: yr) = y := by
        unfold keyBest
        have e : us.toArray.size = (y0 :: yr).length := by simpa using hlen
        rw [e] at e1
        rw [List.getD_eq_getElem?_getD, e1]; rfl
      rw [this]; exact e3
end
def minKeyOf (d : D) : R D := match d with
  | .lst ds => match strsOf ds with
    | some ys => if ys.all (fun y => decide (y.length ≤ cap)) then .ok (minKeyD ys) else .stuck
    | none => .stuck
  | _ => .stuck
theorem minKeyOf_noerr {d : D} : ∀ c ks es ds', minKeyOf d ≠ .err c ks es ds' := by
  intro c ks es ds' h
  unfold minKeyOf at h
  split at h
  · split at h
    · split at h <;> cases h
    · cases h
  · cases h
def eMinKey (f : EF) : EF := fun ds => (f ds).bind fun (p : Rv × DS) => (peek p.2 p.1).bind fun d => (minKeyOf d).bind fun r => .ok (.fro r, p.2)
/-- what the rule asks of the def that holds the lambda -/
structure LamAt (cm : CT) (X : Cx) (params : Arguments) (scope : Scope) : Prop where
  tab : ∃ c P, TabB X.base X.mg c P ∧ X.env.code = .ref c ∧ (P, X.env.qual ++ "<lambda>") ∈ cm.T ∧ ∀ p ∈ cm.T, p.1 = P → p.2 = X.env.qual ++ "<lambda>"
  deff : defaultsOf params X.env = ([], [])
  free : ∀ y ∈ scope.names, y.2 ≠ .free
section
variable {cm : CT} {X : Cx} {e : Expr} {f : EF} {p pos lpos npos k1 k2 : Pos} {params : Arguments} {body : Expr} {scope : Scope} {x : Str} {j : Nat}
theorem ej_minkey (nb : NoB X.mg) (hc : X.calm = true) (hd : X.A.in1.depth < recursionLimit) (hu : X.A.in1.units + 64 < cLine) (L : KeyLam params body scope x) (LA : LamAt cm X params scope) (he : EJ cm X e f) (hg : Gl X "min" := by rfl)
    (hs : starEach [e] X.env = (false, eval e X.env) :: starEach [] X.env := by rfl) (hs2 : backTo pos (starEach [e] X.env) = (false, eval e X.env) :: backTo pos (starEach [] X.env) := by rfl) (hpl : (backTo pos (starEach [e] X.env)).any (·.1) = false := by rfl) :
    EJ cm X (.Call (.Name "min" p) [e] [⟨some "key", .Lambda params body scope lpos, k1⟩, ⟨some "default", .Constant .none j npos, k2⟩] pos) (eMinKey f) := fun W tk => by
  have ha := pa_cons (he W tk) (pa_nil (X := X)) hs
  refine ⟨fun pins s σ H Q I ⟨F, ds, r, w⟩ => ?_⟩
  obtain ⟨c, P, TB, hcode, hm, hu2⟩ := LA.tab
  unfold eMinKey at w
  rw [R.wp_bind] at w
  refine wpAny_Call_Name_kw (ld_blt I hg (nb _ (by decide)) bb_min ?_ (by decide) (by decide))
  refine PyProof.Rows.callWith_kw (thn (ha.run pos pins s σ H (fun vs H1 => ∃ v d rr q F1, vs = [v] ∧ Step (gm X cm) ds σ H F q σ H1 F1 ∧ Pk (gm X cm) F1 H1 d v ∧ minKeyOf d = .ok rr ∧
      ∀ v' H' F', Step (gm X cm) ds σ H F q σ H' F' → RvOk (gm X cm) (.fro rr) v' q σ H' F' → Q v' H') I ?_) fun us s1 ⟨vs, H1, I1, r1, q1⟩ => ?_) hs2 hpl rfl rfl
  · refine tE_go (Step.refl r) w fun p v H1 F1 w1 s1 ok fr => ?_
    rw [R.wp_bind] at w1
    obtain ⟨d, ed, w1⟩ := R.wp_pure peek_noerr w1
    rw [R.wp_bind] at w1
    obtain ⟨rr, er, w1⟩ := R.wp_pure minKeyOf_noerr w1
    exact ⟨v, d, rr, p.2, F1, rfl, s1, peek_ok s1.rl ok ed, er, fun v' H' F' st ok' => w1 v' H' F' st ok' trivial⟩
  · obtain ⟨v, d, rr, q, F1, rfl, st, hp, er, hq⟩ := q1
    obtain ⟨u, rfl, ru⟩ := vals1 r1
    show wpAny _ _ (evalAll ((do let v ← eval _ X.env; standAt pos; pure v) :: (do let v ← eval _ X.env; standAt pos; pure v) :: [])) _ _ s1
    refine wpAny_evalAll_cons (wpAny_bind (lam_make3 I1 TB hcode hm hu2 st.rl.tb.tabs LA.deff (fun y hy e => (LA.free y hy e).elim) fun f c' pm ctv H2 s2 I2 hE hN hT hst hFn hfr hC => wpAny_bind (wpAny_standAt (wpAny_pure ?_))))
    refine wpAny_evalAll_cons (wpAny_bind (Constant_none (wpAny_bind (wpAny_standAt (wpAny_pure ?_)))))
    refine wpAny_evalAll_nil ?_
    show wpAny (model X.prog X.w) X.A (call (.builtin "min") [u] [(Str.ofString "key", .ref f), (Str.ofString "default", .none)]) _ _ s2
    unfold minKeyOf at er
    split at er
    · rename_i xs
      split at er
      · rename_i ys hys
        by_cases hz : (ys.all (fun y => decide (y.length ≤ cap))) = true
        · rw [if_pos hz] at er
          cases er
          obtain ⟨a, vs, rfl, hl, rps⟩ := hp.list st.rl.sub
          cases strsOf_vals hys rps
          have nP : ∀ b o, H1 b = some o → Nt o → b ≠ P := fun b o e n z => by
            obtain ⟨ps, h1, _⟩ := st.rl.tb.tabs _ hm
            rw [z, h1] at e; cases e
            exact n ps rfl
          have hl2 := I2.hok a _ (hE a _ hl (nP a _ hl (fun ps z => by cases z)))
          obtain ⟨_, its, n, hv, hg2⟩ := hl2
          obtain ⟨a', rfl⟩ : u = .ref a := ru
          refine min_key I2 (I2.ok.hd hc) (nb _ (by decide)) L hd hu ⟨_, hg2, rfl, n, rfl⟩ hv (fun y hy => cap_le (by simpa using List.all_eq_true.mp hz y hy)) hst ?_ fun u' s' ru' I' => ?_
          · obtain ⟨⟨oc, vs, t, z1, z2, z3⟩, _⟩ := I2.hok c' _ hC
            exact ⟨c', oc, vs, t, rfl, z1, z2, z3⟩
          · have ntF : ∀ b o, F1 b = some o → b ≠ P := fun b o e z => by rw [z, st.rl.tb.out _ hm] at e; cases e
            have sub2 : Same F1 H2 := fun b o e => hE b o (st.rl.sub b o e) (ntF b o e)
            have st2 : Step (gm X cm) q σ H1 F1 q σ H2 F1 := by
              refine ⟨⟨sub2, st.rl.len, st.rl.fro, fun i d h => ?_, st.rl.apart, ⟨hT, st.rl.tb.out⟩⟩, Same.refl _, fun b o e n _ => hE b o e (nP b o e n), fun b o e => .inl e, fun b e => .inl e, fun i d h => ⟨⟨d, h⟩, rfl⟩, rfl, fun b o e => ?_⟩
              · obtain ⟨a2, z1, z2, z3⟩ := st.rl.own i d h
                exact ⟨a2, z1, z2, z3.mono (Same.refl _) fun o e => hE a2 o e (nP a2 o e (z3.nt e).1)⟩
              · cases z : H2 b with
                | none => rw [hN b z] at e; cases e
                | some o' => exact ⟨o', rfl⟩
            refine ⟨minKeyV ys, H2, I', ru', hq _ _ F1 (st.trans st2) ?_⟩
            show Rep _ F1 (minKeyD ys) (minKeyV ys)
            cases ys with
            | nil => rfl
            | cons y0 yr => rfl
        · rw [if_neg hz] at er; cases er
      · cases er
    · cases er
end
end DL
namespace DL
open PySem PySem.Spec PyProof.Rows L2
section
variable {cm : CT} {X : Cx} {e : Expr} {f : EF} {x : Str} {pos : Pos}
theorem ej_glob {d : D} {v : V} {u : Value} (hm : X.mg x = some u) (r : RelV v u) (hr : ∀ F, Rep (gm X cm) F d v) (hg : Gl X x := by rfl) (hd : (x == ("__debug__" : Str)) = false := by decide) : EJ cm X (.Name x pos) (eC d) := ej_c (pe_glob hg hm r hd) hr
theorem ej_globS {y : Str} {t : Tok} (hm : X.mg x = some (.str y t)) (hg : Gl X x := by rfl) (hd : (x == ("__debug__" : Str)) = false := by decide) : EJ cm X (.Name x pos) (eC (.str y)) := ej_glob (v := .str y) hm ⟨t, rfl⟩ (fun _ => rfl) hg hd
theorem ej_globI {i : Int} {t : Tok} (hm : X.mg x = some (.int i t)) (hg : Gl X x := by rfl) (hd : (x == ("__debug__" : Str)) = false := by decide) : EJ cm X (.Name x pos) (eC (.int i)) := ej_glob (v := .int i) hm ⟨t, rfl⟩ (fun _ => rfl) hg hd
def revS (z : Str) : Str := ⟨((Builtin.Str.strSliceIndices none none (-1) z.length).filterMap (z.cps[·]?)).toArray⟩
def tRevS (te : TE) : TE := fun σ H Q => te σ H fun x H1 => ∃ z, x = .str z ∧ (revS z).length ≤ sizeLine ∧ Q (.str (revS z)) H1
theorem pe_revS {te : TE} {k : Nat} {p1 p2 p3 : Pos} (he : PE X e te) : PE X (.Subscript e (.Slice none none (some (.UnaryOp .USub (.Constant (.int 1) k p1) p2)) p3) pos) (tRevS te) := by
  refine ⟨fun pins s σ H Q I h => ?_⟩
  refine Subscript_ (thn (he.run pins s σ H _ I h) fun v s1 ⟨x, H1, I1, r1, q1⟩ => ?_)
  obtain ⟨z, ex, hz, q⟩ := q1
  subst ex
  obtain ⟨t, rfl⟩ := r1
  have hst : PO X (some (.UnaryOp .USub (.Constant (.int 1) k p1) p2)) (tPart (tUn (rU fun i => .int (-i)) (tC (.int 1)))) := po_some (pe_un un_neg pe_int)
  refine wpAny_Slice (thn (po_none.run pins s1 σ H1 (fun o H2 => o = none ∧ H2 = H1) I1 ⟨rfl, rfl⟩) fun vl s2 ⟨l, H2, I2, pl, el, e2⟩ => ?_)
  subst el e2
  refine thn (po_none.run pins s2 σ H2 (fun o H3 => o = none ∧ H3 = H2) I2 ⟨rfl, rfl⟩) fun vu s3 ⟨u, H3, I3, pu, eu, e3⟩ => ?_
  subst eu e3
  refine thn (hst.run pins s3 σ H3 (fun o H4 => o = some (-1) ∧ H4 = H3) I3 ⟨1, rfl, -1, rfl, rfl, rfl⟩) fun vs s4 ⟨o, H4, I4, ps, eo, e4⟩ => ?_
  subst eo e4
  have I5 : Inv X pins σ H4 { s4 with heap := s4.heap.push { cls := .type "slice", data := .fields #[vl, vu, vs] } } := I4.kept (t' := s4.toks) fun b ob q => Heap.get?_push_of_some _ q
  show wpAny (model X.prog X.w) X.A (subscriptTail e (.Slice none none (some (.UnaryOp .USub (.Constant (.int 1) k p1) p2)) p3) (.str z t) (.ref s4.heap.objs.size)) (EP X pins σ Q) X.xe { s4 with heap := s4.heap.push { cls := .type "slice", data := .fields #[vl, vu, vs] } }
  obtain ⟨os, hos, hcs, hds⟩ := Heap.IsSliceOf.new s4.heap vl vu vs
  obtain ⟨l, rfl, e1⟩ := IsPart.raw pl
  obtain ⟨u, rfl, e2⟩ := IsPart.raw pu
  obtain ⟨st, rfl, e3⟩ := IsPart.raw ps
  have e1 : l = none := by cases l with
    | none => rfl
    | some l => cases e1
  have e2 : u = none := by cases u with
    | none => rfl
    | some l => cases e2
  subst e1 e2
  refine tail_any (ops := [.str z t, .ref s4.heap.objs.size]) (typeIs_str _ _ _) (F.slot_str_getitem.lookup) ?_ (by with_unfolding_all rfl)
  refine wpAny_getItem_str_slice (l := none) (u := none) (st := st) ⟨os, hos, hcs, hds⟩ (by rw [e3]; decide) ?_
  have nb : ¬ ((st.map (·.1)).getD 1 == 1 && (slicePicked z none none st).length == z.length) = true := by rw [e3]; simp
  unfold sliceMade
  rw [if_neg nb]
  have e : slicePicked z none none st = Builtin.Str.strSliceIndices none none (-1) z.length := by
    unfold slicePicked
    rw [e3]; rfl
  rw [e]
  exact ⟨hz, .str _, H4, I5.tok _, ⟨_, rfl⟩, q⟩
def eRevS (f : EF) : EF := fun ds => (f ds).bind fun (p : Rv × DS) => match p.1 with
  | .fro (.str z) => if (revS z).length ≤ cap then .ok (.fro (.str (revS z)), p.2) else .stuck
  | _ => .stuck
theorem ej_revS {k : Nat} {p1 p2 p3 : Pos} (he : EJ cm X e f) : EJ cm X (.Subscript e (.Slice none none (some (.UnaryOp .USub (.Constant (.int 1) k p1) p2)) p3) pos) (eRevS f) := fun W tk => by
  refine pe_imp (pe_revS (he W tk)) fun σ H Q ⟨F, ds, r, w⟩ => ?_
  unfold eRevS at w
  rw [R.wp_bind] at w
  refine tE_go (Step.refl r) w fun p v H1 F1 w1 s1 ok fr => ?_
  clear fr
  obtain ⟨rv, ds1⟩ := p
  dsimp only at w1 s1 ok
  split at w1
  · rename_i z
    by_cases hz : (revS z).length ≤ cap
    · rw [if_pos hz] at w1
      exact ⟨z, ok, cap_le hz, w1 _ H1 F1 s1 rfl trivial⟩
    · rw [if_neg hz] at w1
      exact False.elim w1
  · exact False.elim w1
end
theorem tuple_mul1 (l : Addr) (items : Array Value) (n : Nat) (dd : Option Addr) (sl : Array (Option Value)) (u : Tok) :
    Meets (Builtin.«tuple.__mul__» ⟨[.ref l, .int 1 u], []⟩) (fun _ R s => s.heap.get? l = some { cls := .type "tuple", dict := dd, data := .seq items n, slots := sl } ∧
      R (.ok (.ret (Value.ref l))) s) :=
  .of_wp fun prog w A R s h => by
    obtain ⟨hp, g, d, tk, os⟩ := s
    obtain ⟨hl, h⟩ := h
    have f1 := AutoSeq1.idx_int
    wp_walk using wpAny_loadPart' hl
    repeat (first
      | (refine wpAny_ite_false (decide_eq_false (by decide)) ?_; wp_walk using wpAny_loadPart' hl)
      | (refine wpAny_ite_true (decide_eq_true (by simp)) ?_; wp_walk using wpAny_loadPart' hl))
    all_goals exact ⟨_, rfl, h⟩
def rRepT1 (K : PySem.W.Frag) : R2 := fun x y H Q => ∃ l xs, x = .ref l ∧ y = .int 1 ∧ SqT K H l xs ∧ Q (.ref l) H
section
variable {cm : CT} {X : Cx} {a b : Expr} {fa fb : EF} {pos : Pos}
theorem op_repT1 : OpR X (binaryOp .Mult) (rRepT1 X.K) := by
  intro pins s σ H x y v u Q I rx ry h
  obtain ⟨l, xs, rfl, rfl, hT, q⟩ := h
  cases rx
  obtain ⟨t, rfl⟩ := ry
  obtain ⟨its, r, ⟨⟨cls, dd, data, sl⟩, ho, hc, n, hd⟩, hs⟩ := I.tuple hT
  simp only at hc hd
  subst hc hd
  refine wpAny_binaryOp_repeat_ref (T := "tuple") (U := "int") (by decide) ⟨_, ho, rfl⟩ (fun s' => typeIs_int s' 1 t) noFill_tuple_mul F.fills_int_mul F.slot_int_rmul repeat_tuple F.slot_int_index.lookup
    (call_meets F.slot_int_rmul (typeIs_int s 1 t) F.entry_int_rmul (F.args_int_rmul_2 _ _) (int_rmul_tuple 1 t l its.toArray n dd sl)
      ⟨ho, rfl, ⟨_, ho, rfl⟩, call_meets F.slot_tuple_mul ⟨_, ho, rfl⟩ F.entry_tuple_mul (F.args_tuple_mul_2 _ _) (tuple_mul1 l its.toArray n dd sl t) ⟨ho, ?_⟩⟩)
  exact ⟨.ref l, H, I, rfl, q⟩
def mulD2 (x y : D) : R Rv := match x, y with
  | .tup a, .int 1 => .ok (.fro (.tup a))
  | x, y => mulD x y
theorem od_mul2 : OpD (gm X cm) (fun x y H Q => rRepT1 X.K x y H Q ∨ (rI CMulW (fun i j => .int (i * j)) x y H Q ∨ rRep x y H Q ∨ rRepT X.K x y H Q)) mulD2 := by
  refine ⟨fun x y c ks es ds h => ?_, fun F H x y v u rv sub hx hy e => ?_⟩
  · unfold mulD2 at h
    split at h
    · cases h
    · exact (od_mul (cm := cm) (X := X)).ne _ _ _ _ _ _ h
  · unfold mulD2 at e
    split at e
    · rename_i a
      cases e
      cases pk_int hy
      rcases hx with hx | ⟨_, _, hx⟩
      · obtain ⟨l, vs, rfl, h1, h2⟩ := hx
        exact Gives.flat sub ⟨l, vs, rfl, h1, h2⟩ fun Q q => .inl ⟨l, vs, rfl, rfl, same_t sub h1, q⟩
      · exact hx.elim
    · intro Q q
      exact .inr (od_mul.run F H _ _ v u rv sub hx hy e Q q)
theorem ej_mul2 (ha : EJ cm X a fa) (hb : EJ cm X b fb) : EJ cm X (.BinOp a .Mult b pos) (e2 mulD2 fa fb) := ej_2 od_mul2 (fun ha hb => pe_op (op_repT1.or opr_mul) ha hb) ha hb
end
end DL
namespace DL
open PySem PySem.Spec PyProof.Rows L2
def fnD (dd : List D) (fn : FnF) : FnF := fun sl => match fn (sl ++ dd.map Sl.fro) with
  | .ok p => .ok (p.1, p.2.take sl.length)
  | .err c ks es s => .err c ks es (s.take sl.length)
  | .stuck => .stuck
section
variable {Γ : Gm} {sl : DS} {vs dv : List V} {H F H' F' : Hp} {dd : List D} {sl' : DS}
theorem mine_app {i : Nat} {d : D} (h : Mine (sl ++ dd.map Sl.fro) i d) : Mine sl i d ∧ i < sl.length := by
  by_cases hi : i < sl.length
  · unfold Mine at h ⊢
    rw [List.getElem?_append_left hi] at h
    exact ⟨h, hi⟩
  · exfalso
    unfold Mine at h
    rw [List.getElem?_append_right (by omega), List.getElem?_map] at h
    cases q : dd[i - sl.length]? with
    | none => rw [q] at h; rcases h with h | h <;> cases h
    | some x => rw [q] at h; rcases h with h | h <;> cases h
theorem mine_app' {i : Nat} {d : D} (h : Mine sl i d) : Mine (sl ++ dd.map Sl.fro) i d ∧ i < sl.length := by
  have hi : i < sl.length := by rcases h with h | h <;> exact (List.getElem?_eq_some_iff.mp h).1
  refine ⟨?_, hi⟩
  unfold Mine at h ⊢
  rw [List.getElem?_append_left hi]
  exact h
theorem at_app {i : Nat} (hi : i < vs.length) : ((vs ++ dv).map some)[i]? = (vs.map some)[i]? := by
  rw [List.map_append, List.getElem?_append_left (by simpa using hi)]
theorem own_app (hl : sl.length = vs.length) {b : Addr} : Own (sl ++ dd.map Sl.fro) ((vs ++ dv).map some) b ↔ Own sl (vs.map some) b := by
  constructor
  · rintro ⟨i, d, m, e⟩
    obtain ⟨m', hi⟩ := mine_app m
    exact ⟨i, d, m', by rw [← at_app (dv := dv) (by omega)]; exact e⟩
  · rintro ⟨i, d, m, e⟩
    obtain ⟨m', hi⟩ := mine_app' (dd := dd) m
    exact ⟨i, d, m', by rw [at_app (dv := dv) (by omega)]; exact e⟩
theorem rl_app (r : Rl Γ sl (vs.map some) H F) (rd : Reps Γ F dd dv) : Rl Γ (sl ++ dd.map Sl.fro) ((vs ++ dv).map some) H F := by
  have hl : sl.length = vs.length := by have := r.len; rwa [List.length_map] at this
  refine ⟨r.sub, by rw [List.length_map, List.length_append, List.length_append, List.length_map, hl, rd.length], fun i d h => ?_, fun i d h => ?_, fun i j d e a h1 h2 h3 h4 => ?_, r.tb⟩
  · by_cases hi : i < sl.length
    · rw [List.getElem?_append_left hi] at h
      rw [at_app (by omega)]
      exact r.fro i d h
    · rw [List.getElem?_append_right (by omega), List.getElem?_map] at h
      cases q : dd[i - sl.length]? with
      | none => rw [q] at h; cases h
      | some x =>
        rw [q] at h
        cases h
        obtain ⟨v, e1, e2⟩ := rd.get q
        refine ⟨v, ?_, e2⟩
        rw [List.map_append, List.getElem?_append_right (by rw [List.length_map]; omega), List.length_map, List.getElem?_map, ← hl, e1]
        rfl
  · obtain ⟨m, hi⟩ := mine_app h
    rw [at_app (by omega)]
    exact r.own i d m
  · obtain ⟨m1, hi⟩ := mine_app h1
    obtain ⟨m2, hj⟩ := mine_app h2
    rw [at_app (by omega)] at h3 h4
    exact r.apart i j d e a m1 m2 h3 h4
theorem fn_app (hl : sl.length = vs.length) (s : FnStep Γ (sl ++ dd.map Sl.fro) (vs ++ dv) H F sl' H' F') : FnStep Γ sl vs H F (sl'.take sl.length) H' F' := by
  refine ⟨s.sub, s.fs, fun b o e n no => s.keep b o e n fun z => no ((own_app hl).mp z), s.tb, fun b o e => ?_, fun i d h => ?_, s.there⟩
  · rcases s.new b o e with z | z | ⟨i, d, z1, z2⟩
    · exact .inl z
    · exact .inr (.inl z)
    · obtain ⟨m, hi⟩ := mine_app (.inl z1)
      rw [List.getElem?_append_left hi] at z1
      rw [List.getElem?_append_left (by omega)] at z2
      exact .inr (.inr ⟨i, d, z1, z2⟩)
  · have hi : i < sl.length := (List.getElem?_eq_some_iff.mp h).1
    obtain ⟨a, d', z1, z2, z3, z4⟩ := s.bor i d (by rw [List.getElem?_append_left hi]; exact h)
    rw [List.getElem?_append_left (by omega)] at z1
    exact ⟨a, d', z1, by rw [List.getElem?_take_of_lt hi]; exact z2, z3, z4⟩
theorem rv_app (hl : sl.length = vs.length) {rv : Rv} {v : V} (h : FnRv Γ rv v (sl ++ dd.map Sl.fro) (vs ++ dv) H H' F') : FnRv Γ rv v sl vs H H' F' := by
  cases rv with
  | fro d => exact h
  | own d =>
    obtain ⟨a, e, n, ob, z⟩ := h
    refine ⟨a, e, n, ob, ?_⟩
    rcases z with z | ⟨i, d', z1, z2⟩
    · exact .inl z
    · obtain ⟨m, hi⟩ := mine_app (.inl z1)
      rw [List.getElem?_append_left hi] at z1
      rw [List.getElem?_append_left (by omega)] at z2
      exact .inr ⟨i, d', z1, z2⟩
  | slot i => exact h
theorem spD_dfl {n : Nat} {fn : FnF} {Q : VK} {E : XK} (rd : ∀ F, Reps Γ F dd dv) (h : spD Γ n (fnD dd fn) vs H Q E) : spD Γ (n + dd.length) fn (vs ++ dv) H Q E := by
  obtain ⟨F, sl, hl, r, w⟩ := h
  have hl2 : sl.length = vs.length := by have := r.len; rwa [List.length_map] at this
  refine ⟨F, sl ++ dd.map Sl.fro, by rw [List.length_append, hl, (rd F).length], rl_app r (rd F), ?_⟩
  unfold fnD at w
  cases e : fn (sl ++ dd.map Sl.fro) with
  | ok p =>
    rw [e] at w
    exact fun v H' F' s ok => w v H' F' (fn_app hl2 s) (rv_app hl2 ok)
  | err c ks es s' =>
    rw [e] at w
    exact fun d ws H' F' s h1 h2 h3 => w d ws H' F' (fn_app hl2 s) h1 h2 h3
  | stuck => rw [e] at w; exact False.elim w
end
section
variable {cm : CT} {P : Program} {w : World} {K : PySem.W.Frag} {mg : Str → Option Value} {base : Heap} {k : Nat} {f : Addr} {fd : FuncData} {ps : List Str} {fn : FnF} {dd : List D} {dv : List V} {us : List Value}
/-- a def called without its last values: they are flat data -/
theorem fr_dfl (F : FJ cm P w K mg base k f fd ps fn) (hb : Binds K fd ps us) (hv : Vals dv us) (rd : ∀ F, Reps ⟨K, cm⟩ F dd dv) (n : Nat) (hn : n + dd.length = ps.length) : FR cm P w K mg base k f (fnN n (fnD dd fn)) :=
  (FnOk.raw F hb hv).imp fun vs H Q E h => by
    rw [← hn]
    exact spD_dfl rd (spV_N h)
def FRK (cm : CT) (P : Program) (w : World) (K : PySem.W.Frag) (mg : Str → Option Value) (base : Heap) (k : Nat) (f : Addr) (ks : List Str) (fn : FnF) : Prop :=
  ∀ (A : Around) (outer : List Env) (s : Shared) (H : Hp) (us ws : List Value) (vs : List V) (Q : VK) (E : XK), Room k A → Env0 P w K mg base A outer s H → Vals vs (us ++ ws) → ws.length = ks.length → spV ⟨K, cm⟩ fn vs H Q E →
    codeAny (model P w) A (.call (.ref f) ⟨us, ks.zip ws⟩) (CR (L2.CX P w) outer P w H s Q E) s
/-- the binding of such a call -/
def KApp (K : PySem.W.Frag) (fd : FuncData) (ps ks : List Str) : Prop := ∀ (s : Shared) (us ws : List Value), K.In s.heap → us.length + ws.length = ps.length → ws.length = ks.length → BindsTo s fd ⟨us, ks.zip ws⟩ (ps.zip (us ++ ws))
theorem kapp_of {x qual : Str} {params : Arguments} {body : List Stmt} {scope : Scope} {dvs : List V} {kws : List (Str × V)} {ks : List Str} (F : FunD K x qual params body scope dvs kws f fd)
    (h : ∀ (dV kV doc pm : Value) (an : Option Addr) (cdv ct : Value) (us ws : List Value), us.length + ws.length = ps.length → ws.length = ks.length → bindArgs (PySem.W.fnOf x qual params body scope dV kV doc pm an cdv ct) ⟨us, ks.zip ws⟩ = pure (ps.zip (us ++ ws))) : KApp K fd ps ks := fun s us ws hk h1 h2 => by
  obtain ⟨oc, od, dV, kV, doc, pm, an, cdv, ct, osl, rfl, _⟩ := F.ex
  exact .of_eq (h dV kV doc pm an cdv ct us ws h1 h2)
theorem frk_of {ks : List Str} (F : FJ cm P w K mg base k f fd ps fn) (hb : KApp K fd ps ks) : FRK cm P w K mg base k f ks (fnN ps.length fn) := fun A outer s H us ws vs Q E hr e0 r hl h => by
  have h2 := spV_N h
  have hlen : us.length + ws.length = ps.length := by
    rw [← List.length_append, ← r.length]
    exact F.len _ _ _ _ h2
  exact F.run A outer s H ⟨us, ks.zip ws⟩ (us ++ ws) vs Q E hr e0 (hb s us ws (e0.mod.kin.keeps fun b o e => (e0.bs b o e).1) hlen hl) r h2
end
def KJ (cm : CT) (X : Cx) (kws : List Keyword) (f : AF) : Prop := ∀ W, Takes X W → PK X kws (tA (gm X cm) W f)
theorem RvsOk.app {Γ : Gm} {ds0 ds1 ds2 : DS} {σ : L2.St} {H0 F0 H1 F1 H2 F2 : Hp} : ∀ {rvs1 : List Rv} {vs1 : List V} {rvs2 : List Rv} {vs2 : List V}, Step Γ ds0 σ H0 F0 ds1 σ H1 F1 → RvsOk Γ rvs1 vs1 ds1 σ H1 F1 → Freshs rvs1 vs1 H0 → Step Γ ds1 σ H1 F1 ds2 σ H2 F2 →
    RvsOk Γ rvs2 vs2 ds2 σ H2 F2 → Freshs rvs2 vs2 H1 → RvsOk Γ (rvs1 ++ rvs2) (vs1 ++ vs2) ds2 σ H2 F2 ∧ Freshs (rvs1 ++ rvs2) (vs1 ++ vs2) H0 := by
  intro rvs1 vs1 rvs2 vs2 s1 ok1 fr1 s2 ok2 fr2
  have hl := ok1.len
  have lt1 : ∀ {i : Nat}, i < rvs1.length → (rvs1 ++ rvs2)[i]? = rvs1[i]? ∧ (vs1 ++ vs2)[i]? = vs1[i]? := fun h => ⟨List.getElem?_append_left h, List.getElem?_append_left (by omega)⟩
  have ge1 : ∀ {i : Nat}, ¬ i < rvs1.length → (rvs1 ++ rvs2)[i]? = rvs2[i - rvs1.length]? ∧ (vs1 ++ vs2)[i]? = vs2[i - rvs1.length]? := fun h => ⟨List.getElem?_append_right (by omega), by rw [List.getElem?_append_right (by omega), hl]⟩
  have cross : ∀ (i j : Nat) (d e : D) (a : Addr), rvs1[i]? = some (.own d) → rvs2[j]? = some (.own e) → vs1[i]? = some (.ref a) → vs2[j]? = some (.ref a) → False := fun i j d e a h1 h2 h3 h4 => by
    have n := fr2 j e a h2 h4
    obtain ⟨v, e1, b, e2, _, ob, _⟩ := ok1.ok i _ h1
    rw [h3] at e1; cases e1; cases e2
    obtain ⟨o, ho⟩ := ob.ex
    rw [n] at ho; cases ho
  refine ⟨⟨by simp [hl, ok2.len], fun i rv h => ?_, fun i j d e a h1 h2 h3 h4 => ?_⟩, fun i d a h1 h2 => ?_⟩
  · by_cases hi : i < rvs1.length
    · rw [(lt1 hi).1] at h
      obtain ⟨v, e1, e2⟩ := ok1.ok i rv h
      exact ⟨v, by rw [(lt1 hi).2]; exact e1, e2.stay s2⟩
    · rw [(ge1 hi).1] at h
      obtain ⟨v, e1, e2⟩ := ok2.ok _ rv h
      exact ⟨v, by rw [(ge1 hi).2]; exact e1, e2⟩
  · by_cases hi : i < rvs1.length
    · rw [(lt1 hi).1] at h1
      rw [(lt1 hi).2] at h3
      by_cases hj : j < rvs1.length
      · rw [(lt1 hj).1] at h2
        rw [(lt1 hj).2] at h4
        exact ok1.apart i j d e a h1 h2 h3 h4
      · rw [(ge1 hj).1] at h2
        rw [(ge1 hj).2] at h4
        exact (cross _ _ _ _ _ h1 h2 h3 h4).elim
    · rw [(ge1 hi).1] at h1
      rw [(ge1 hi).2] at h3
      by_cases hj : j < rvs1.length
      · rw [(lt1 hj).1] at h2
        rw [(lt1 hj).2] at h4
        exact (cross _ _ _ _ _ h2 h1 h4 h3).elim
      · rw [(ge1 hj).1] at h2
        rw [(ge1 hj).2] at h4
        have := ok2.apart _ _ d e a h1 h2 h3 h4
        omega
  · by_cases hi : i < rvs1.length
    · rw [(lt1 hi).1] at h1
      rw [(lt1 hi).2] at h2
      exact fr1 i d a h1 h2
    · rw [(ge1 hi).1] at h1
      rw [(ge1 hi).2] at h2
      exact s1.back (fr2 _ d a h1 h2)
def aApp (n : Nat) (f g : AF) : AF := fun ds => (f ds).bind fun (p : List Rv × DS) => (g p.2).bind fun (q : List Rv × DS) => if q.1.length = n then .ok (p.1 ++ q.1, q.2) else .stuck
section
variable {cm : CT} {X : Cx} {k : Nat} {fa : Addr} {fn : FnF} {f : EF} {g h : AF} {e : Expr} {es : List Expr} {kws : List Keyword} {ks : List Str} {x : Str} {p pos kpos : Pos} {nm : Option Str}
theorem pk_imp {t t' : TA} (h : PK X kws t) (q : ∀ σ H Q, t' σ H Q → t σ H Q) : PK X kws t' := ⟨fun pos pins s σ H Q I w => h.run pos pins s σ H Q I (q σ H Q w)⟩
theorem kj_nil : KJ cm X [] aNil := fun W tk => pk_imp pk_nil fun σ H Q ⟨F, ds, r, w⟩ =>
  w [] H F (Step.refl r) ⟨rfl, fun i rv h => by simp at h, fun i j d e a h => by simp at h⟩ fun i d a h => by simp at h
theorem kj_cons (ha : EJ cm X e f) (hr : KJ cm X kws g) : KJ cm X (⟨nm, e, kpos⟩ :: kws) (aCons f g) := fun W tk => by
  refine pk_imp (pk_cons (ha W tk) (hr W tk)) fun σ H Q ⟨F, ds, r, w⟩ => ?_
  unfold aCons at w
  rw [R.wp_bind] at w
  refine tE_go (Step.refl r) w fun p v H1 F1 w1 s1 ok1 fr1 => ?_
  rw [R.wp_bind] at w1
  refine tA_go s1 w1 fun q vs H2 F2 w2 s2 ok2 fr2 => ?_
  obtain ⟨z1, z2⟩ := RvsOk.ahead s1 ok1 fr1 s2 ok2 fr2
  exact w2 (v :: vs) H2 F2 (s1.trans s2) z1 z2
theorem ej_callK (Fn : FRK cm X.prog X.w X.K X.mg X.base k fa ks fn) (hr : Room k X.A) (hm : X.mg x = some (.ref fa)) (hk : PySem.W.keepIn X.K (.ref fa) = true) (ha : AJ cm X (e :: es) g) (hkw : KJ cm X kws h)
    (hg : Gl X x := by rfl) (hdb : (x == ("__debug__" : Str)) = false := by decide) (he : starEach (e :: es) X.env = (false, eval e X.env) :: starEach es X.env := by rfl)
    (hall : (backToKw pos (keywordEach kws X.env)).all (·.1.isSome) = true := by rfl) (hks : (backToKw pos (keywordEach kws X.env)).filterMap (·.1) = ks := by rfl)
    (hpl : ((backTo pos (starEach (e :: es) X.env)).any (·.1) || (backToKw pos (keywordEach kws X.env)).any (·.1.isNone)) = false := by rfl) :
    EJ cm X (.Call (.Name x p) (e :: es) kws pos) (eCallV fn (aApp ks.length g h)) := fun W tk => by
  refine ⟨fun pins s σ H Q I ⟨F, ds, r, w⟩ => ?_⟩
  unfold eCallV aApp at w
  rw [R.wp_bind, R.wp_bind] at w
  refine wpAny_Call_Name_kw (ld_glob I hg hm ?_ hdb)
  refine PySem.W.callWith_KW (h₀ := X.base) I.ok.mod.kin hk hall (thn ((ha W tk).run pos pins s σ H (fun vs H1 => tA (gm X cm) W h σ H1 fun zs H2 => zs.length = ks.length ∧ spV (gm X cm) fn (vs ++ zs) H2 Q (WE W σ)) I ?_) fun us s1 ⟨vs, H1, I1, r1, q⟩ => ?_) hpl he
  · refine tA_go (Step.refl r) w fun p vs H1 F1 w1 s1 ok fr => ?_
    rw [R.wp_bind] at w1
    refine tA_go s1 w1 fun q zs H2 F2 w2 s2 ok2 fr2 => ?_
    obtain ⟨z1, z2⟩ := RvsOk.app s1 ok fr s2 ok2 fr2
    by_cases hn : q.1.length = ks.length
    · rw [if_pos hn] at w2
      exact ⟨ok2.len.trans hn, call_sp (s1.trans s2) z1 z2 z1.len.symm w2⟩
    · rw [if_neg hn] at w2
      exact False.elim w2
  · refine thn ((hkw W tk).run pos pins s1 σ H1 _ I1 q) fun ws s2 ⟨zs, H2, I2, rz, hl, q2⟩ => ⟨I2.kIn, ?_⟩
    rw [hks]
    refine wpAny_call (codeAny_mono (Fn X.A X.stack s2 H2 us ws (vs ++ zs) Q (WE W σ) hr I2.env0 (r1.append rz) (rz.length.symm.trans hl) q2) fun r s' hq => ?_)
    cases r with
    | error e => exact passAt tk σ pins H2 s2 e s' I2 hq
    | ok fl =>
      cases fl with
      | ret u => exact I2.after hq
      | next => exact False.elim hq
      | brk => exact False.elim hq
      | cont => exact False.elim hq
end
end DL
namespace DL
open PySem PySem.Spec PyProof.Rows L2
theorem units65 {k : Nat} {A : Around} (r : Room k A) : A.units + 65 < cLine := by have := r.un; omega
theorem in1d {k : Nat} {A : Around} (r : Room k A) : A.in1.depth < recursionLimit := by have := r.dp; show A.depth < _; omega
theorem in1u {k : Nat} {A : Around} (r : Room k A) : A.in1.units + 64 < cLine := by have := r.un; show A.units + 1 + 64 < _; omega
/-- a def of the head's facts without positional defaults -/
theorem fun_of {K : PySem.W.Frag} {x qual : Str} {st : Stmt} {kws : List (Str × V)} {f : Addr} {fd : FuncData} (F : FunD K x qual (defArgs st) (defBody st) (defScope st) [] kws f fd) : Fun K x qual st f fd := by
  obtain ⟨oc, od, dV, kV, doc, pm, an, cdv, ct, osl, e, lk, hcd, hD, hK⟩ := F.ex
  rcases hD with ⟨_, rfl⟩ | ⟨z, _⟩
  · exact ⟨⟨oc, od, kV, doc, pm, an, cdv, ct, osl, e, lk, hcd⟩, F.kp⟩
  · exact absurd rfl z
/-- a comprehension's block, by one Bool -/
def blkB (N : List Str) (sc scope : Scope) (own : List (Str × Nat)) : Bool :=
  decide (scope.kind = .function) && (scope.names.all fun y => decide (scope.names.lookup y.1 = some y.2)) && (own.all fun p => decide (N[p.2]? = some p.1)) &&
  (scope.names.all fun y => !decide (y.2 = .free) || (decide (sc.names.lookup y.1 = some .cell) || decide (sc.names.lookup y.1 = some .free))) &&
  (scope.names.all fun y => !(decide (y.2 = .local) || decide (y.2 = .cell)) || (decide (y.1 ∈ own.map (·.1)) || !decide (y.1 ∈ N)))
theorem blk_by {N : List Str} {sc scope : Scope} {own : List (Str × Nat)} (h : blkB N sc scope own = true) : BlkOk N sc scope own := by
  unfold blkB at h
  simp only [Bool.and_eq_true, List.all_eq_true, decide_eq_true_eq, Bool.or_eq_true, Bool.not_eq_true', decide_eq_false_iff_not] at h
  obtain ⟨⟨⟨⟨h1, h2⟩, h3⟩, h4⟩, h5⟩ := h
  refine ⟨h1, h2, h3, fun y hy e => ?_, fun y hy e => ?_⟩
  · rcases h4 y hy with z | z
    · exact absurd e z
    · exact z
  · rcases h5 y hy with z | z
    · rcases e with e | e <;> (rw [e] at z; simp at z)
    · exact z
end DL
namespace DL
open PySem PySem.Spec PyProof.Rows L2
theorem fj_ofC {cm : CT} {P : Program} {w : World} {K : PySem.W.Frag} {mg : Str → Option Value} {base : Heap} {x qual : Str} {st : Stmt} {f : Addr} {fd : FuncData} {N ps : List Str} {k nl : Nat} {g : SF} (Fn : Fun K x qual st f fd) (S : FnScope N ps (defScope st)) (hN : N.length = ps.length + nl)
    (hbody : ∀ (cdv : Value) (A : Around) (outer : List Env) (s : Shared) (H : Hp) (E : XK), fd.code = cdv → Room k (A.deeper (envOfC qual (defScope st) s.heap.objs.size f cdv)) → BJ cm (cxOf (L2.CX P w) P w K mg base N qual (defScope st) f cdv A outer s H E) (defBody st) g) :
    FJ cm P w K mg base (k + 1) f fd ps (fnB ps.length nl g) := by
  obtain ⟨oc, od, kV, doc, pm, an, cdv, ct, osl, rfl, lk, hcd⟩ := Fn.ex
  refine fn_of lk hcd S (fun vs H Q E h => ?_) fun A outer s H vs Q E hr hsp => ?_
  · obtain ⟨F, sl, h, _⟩ := h; exact h
  exact body_sp (P := P) (w := w) rfl hN (takes_of rfl rfl rfl rfl) (hbody cdv A outer s H E rfl hr) hsp
end DL
namespace DL
open PySem PySem.Spec PyProof.Rows L2
def intD2 (xs : List D) : R Rv := match xs with
  | [.str a] => match PySem.intText? a with
    | some n => if a.length ≤ 640 then .ok (.fro (.int n)) else .stuck
    | none => .stuck
  | xs => intD xs
section
variable {cm : CT} {X : Cx} {e : Expr} {es : List Expr} {fa : AF} {p pos : Pos}
abbrev rIntS : List V → Hp → VK → Prop := fun xs H Q => ((∃ i, xs = [.int i] ∧ Q (.int i) H) ∨ ∃ k, xs = [.bl k] ∧ Q (.int (if k then 1 else 0)) H) ∨ ∃ a n, xs = [.str a] ∧ PySem.intText? a = some n ∧ a.length ≤ 640 ∧ Q (.int n) H
theorem call_intS : CallR X (.type "int") rIntS := by
  intro pins s σ H xs us Q I r h
  rcases h with h | h
  · exact call_int1 pins s σ H xs us Q I r h
  · exact call_int_str pins s σ H xs us Q I r h
theorem cd_intS : CallD (gm X cm) rIntS intD2 := by
  refine ⟨fun xs c ks es ds h => ?_, fun F H xs vs rv sub h e => ?_⟩
  · unfold intD2 at h
    split at h
    · split at h
      · split at h <;> cases h
      · cases h
    · exact (cd_int (cm := cm) (X := X)).ne _ _ _ _ _ h
  · unfold intD2 at e
    split at e
    · rename_i a
      split at e
      · rename_i n hn
        by_cases hz : a.length ≤ 640
        · rw [if_pos hz] at e
          cases e
          obtain ⟨v, rfl, hp⟩ := pks1 h
          cases pk_str hp
          exact Gives.flat sub rfl fun Q q => .inr ⟨_, _, rfl, hn, hz, q⟩
        · rw [if_neg hz] at e; cases e
      · cases e
    · intro Q q
      exact .inl (cd_int.run F H _ vs rv sub h e Q q)
theorem ej_intC2 (nb : NoB X.mg) (h : AJ cm X (e :: es) fa) (hg : Gl X "int" := by rfl) (he : starEach (e :: es) X.env = (false, eval e X.env) :: starEach es X.env := by rfl) (hpl : (backTo pos (starEach es X.env)).any (·.1) = false := by rfl) : EJ cm X (.Call (.Name "int" p) (e :: es) [] pos) (eCB intD2 fa) :=
  ej_btyp call_intS cd_intS bb_int (by decide) (by decide) (nb _ (by decide)) h hg he hpl
end
end DL
namespace DL
open PySem PySem.Spec PyProof.Rows L2
theorem dAll1 {α : Type} {p : α → Prop} {a : α} (h : p a) : ∀ c ∈ [a], p c := fun c hc => by
  rw [List.mem_singleton.mp hc]; exact h
theorem dAllC {α : Type} {p : α → Prop} {a : α} {l : List α} (h : p a) (r : ∀ c ∈ l, p c) : ∀ c ∈ a :: l, p c := fun c hc => by
  rcases List.mem_cons.mp hc with e | e
  · rw [e]; exact h
  · exact r c e
section
variable {cm : CT} {X : Cx} {m f : Str} {c k : Nat} {fn : FnF} {g p : Addr} {ps : List Str}
theorem md_of (cl : Cls X.K (cm c)) (me : Meth X.K (cm c) m g) (r : FR cm X.prog X.w X.K X.mg X.base k g fn) (hr : Room k X.A) : MD cm X m c fn := ⟨⟨k, g, cl, me, r, hr⟩⟩
theorem pd_of (cl : Cls X.K (cm c)) (po : PropOf X.K (cm c) f p g) (r : ∃ fd, FJ cm X.prog X.w X.K X.mg X.base k g fd ps fn ∧ Binds X.K fd ps []) (h1 : ps.length = 1) (hr : Room (k + 1) X.A) : PD cm X f c fn := by
  obtain ⟨fd, r1, r2⟩ := r
  exact ⟨⟨k, p, g, fd, ps, cl, po, r1, r2, h1, hr⟩⟩
end
end DL
namespace DL
open PySem PySem.Spec PyProof.Rows L2
open He (Fa DefD Defn ga ma fAd ba eqO eqO_ok SaysD obsD valD frT asD growD tabsB cT codeOf tabOf dflB dflB_ok)
structure FnA where
  at_ : Str × Str
  get : Bool
  name : Str
  qual : Str
  params : Arguments
  body : List Stmt
  scope : Scope
  cl : List Str
def getAd (K : PySem.W.Frag) (C f : Str) : Addr := match PySem.W.recIn K (ma K (ga K C) f) "property" with
  | some (.ref g :: _) => g
  | _ => 0
def FnA.ad (K : PySem.W.Frag) (d : FnA) : Addr := match d.get with
  | true => getAd K d.at_.1 d.at_.2
  | false => fAd K (d.at_.1, some d.at_.2)
abbrev FnY : Type := Option (Str × Str × Arguments × FuncBody × Scope × Addr × List Str × Addr)
def fnY (K : PySem.W.Frag) (a : Addr) : FnY := match K.lookup a with
  | some ⟨_, _, .func fd, _⟩ => some (fd.name, fd.qualname, fd.params, fd.body, fd.scope, fd.globals, fd.closure.map (·.1), fd.builtins)
  | _ => none
def FnA.val (d : FnA) : FnY := some (d.name, d.qual, d.params, .stmts d.body, d.scope, mainGlobals, d.cl, builtinsNs)
def propB (K : PySem.W.Frag) (C f : Str) : Bool :=
  eqO (PySem.W.findIn K (.ref (ga K C)) f) (some (some (.ref (ma K (ga K C) f)))) &&
  (eqO (PySem.W.specialIn K (.ref (ma K (ga K C) f)) "__get__") (some (some (.builtin "property.__get__"))) &&
  (decide (PySem.W.takesIn K (.ref (ma K (ga K C) f)) = some true) && (match PySem.W.recIn K (ma K (ga K C) f) "property" with
  | some (.ref _ :: _) => true
  | _ => false)))
theorem propB_ok {K : PySem.W.Frag} {C f : Str} (h : propB K C f = true) : PropOf K (ga K C) f (ma K (ga K C) f) (getAd K C f) := by
  obtain ⟨h1, h⟩ := ba h
  obtain ⟨h2, h⟩ := ba h
  obtain ⟨h3, h4⟩ := ba h
  refine ⟨eqO_ok h1, eqO_ok h2, of_decide_eq_true h3, ?_⟩
  unfold getAd
  split at h4
  · rename_i g r e
    exact ⟨r, by rw [e]⟩
  · cases h4
def FnA.okG (K : PySem.W.Frag) (d : FnA) : Bool := PySem.W.keepIn K (.ref (d.ad K)) && (match K.lookup (d.ad K) with
  | some ⟨_, _, .func fd, _⟩ => PySem.W.codeIn K fd.code d.qual && dflB K fd.defaults []
  | _ => false)
theorem dfl0 {K : PySem.W.Frag} {v : Value} (h : dflB K v [] = true) : v = .none := by
  cases v with
  | none => rfl
  | _ => cases h
theorem clo0 {l : List (Str × Addr)} (h : l.map (·.1) = []) : l = [] := by
  cases l with
  | nil => rfl
  | cons a l => cases h
theorem FnA.funG {K : PySem.W.Frag} {d : FnA} {st : Stmt} (e : fnY K (d.ad K) = d.val) (c : d.okG K = true) (hp : d.params = defArgs st) (hb : d.body = defBody st) (hs : d.scope = defScope st) (hc : d.cl = []) : ∃ fd, Fun K d.name d.qual st (d.ad K) fd := by
  obtain ⟨kp, c2⟩ := ba c
  unfold fnY at e
  cases q : K.lookup (d.ad K) with
  | none => rw [q] at c2; cases c2
  | some o =>
    obtain ⟨oc, od, dt, osl⟩ := o
    rw [q] at c2 e
    cases dt with
    | func fd =>
      obtain ⟨n1, n2, n3, n4, n5, n6, n7, n8, n9, n10, n11, n12, n13, n14, n15⟩ := fd
      have e2 : (some (n1, n2, n3, n4, n5, n6, n7.map (·.1), n15) : FnY) = some (d.name, d.qual, d.params, .stmts d.body, d.scope, mainGlobals, d.cl, builtinsNs) := e
      simp only [Option.some.injEq, Prod.mk.injEq] at e2
      obtain ⟨h1, h2, h3, h4, h5, h6, h7, h8⟩ := e2
      rw [hc] at h7
      have h7 := clo0 h7
      rw [hp] at h3; rw [hb] at h4; rw [hs] at h5
      subst h1 h2 h3 h4 h5 h6 h7 h8
      have c3 : (PySem.W.codeIn K n13 d.qual && dflB K n8 []) = true := c2
      obtain ⟨k1, k2⟩ := ba c3
      have k3 := dfl0 k2
      subst k3
      exact ⟨_, ⟨oc, od, n9, n10, n11, n12, n13, n14, osl, rfl, q, k1⟩, kp⟩
    | _ => cases c2
/-- a method that calls super(): its code's file, its cell -/
def FnA.okS (P : Program) (K : PySem.W.Frag) (d : FnA) : Bool := PySem.W.keepIn K (.ref (d.ad K)) && (match K.lookup (d.ad K) with
  | some ⟨_, _, .func fd, _⟩ => PySem.W.codeIn K fd.code d.qual && (dflB K fd.defaults [] && ((match fd.code with
    | .ref c => (match K.lookup c with
      | some ⟨_, _, .fields vs, _⟩ => (match vs[2]? with
        | some (Value.str file _) => (P.main.file : Str) == file
        | _ => false)
      | _ => false)
    | _ => false) && ((match fd.closure with
    | [(_, cc)] => (match K.lookup cc with
      | some ⟨_, _, .cell (some (.ref D)), _⟩ => decide (D = ga K d.at_.1)
      | _ => false)
    | _ => false) && (PySem.W.clsIn K (ga K d.at_.1)).isSome)))
  | _ => false)
theorem clo1 {l : List (Str × Addr)} {x : Str} (h : l.map (·.1) = [x]) : ∃ c, l = [(x, c)] := by
  cases l with
  | nil => cases h
  | cons a l =>
    cases l with
    | nil =>
      obtain ⟨y, c⟩ := a
      have : [y] = [x] := h
      cases this
      exact ⟨c, rfl⟩
    | cons b l => cases h
theorem FnA.funS {P : Program} {K : PySem.W.Frag} {d : FnA} {st : Stmt} {ar : Arg} (e : fnY K (d.ad K) = d.val) (c : d.okS P K = true) (hp : d.params = defArgs st) (hb : d.body = defBody st) (hs : d.scope = defScope st) (hc : d.cl = [("__class__" : Str)])
    (ha : ((defArgs st).posonlyargs ++ (defArgs st).args).head? = some ar) : ∃ fd, FunS P K d.name d.qual st (d.ad K) (ga K d.at_.1) fd := by
  obtain ⟨kp, c2⟩ := ba c
  unfold fnY at e
  cases q : K.lookup (d.ad K) with
  | none => rw [q] at c2; cases c2
  | some o =>
    obtain ⟨oc, od, dt, osl⟩ := o
    rw [q] at c2 e
    cases dt with
    | func fd =>
      obtain ⟨n1, n2, n3, n4, n5, n6, n7, n8, n9, n10, n11, n12, n13, n14, n15⟩ := fd
      have e2 : (some (n1, n2, n3, n4, n5, n6, n7.map (·.1), n15) : FnY) = some (d.name, d.qual, d.params, .stmts d.body, d.scope, mainGlobals, d.cl, builtinsNs) := e
      simp only [Option.some.injEq, Prod.mk.injEq] at e2
      obtain ⟨h1, h2, h3, h4, h5, h6, h7, h8⟩ := e2
      rw [hc] at h7
      obtain ⟨cc, h7⟩ := clo1 h7
      rw [hp] at h3; rw [hb] at h4; rw [hs] at h5
      subst h1 h2 h3 h4 h5 h6 h7 h8
      obtain ⟨k1, c3⟩ := ba c2
      obtain ⟨k2, c3⟩ := ba c3
      obtain ⟨k3, c3⟩ := ba c3
      obtain ⟨k4, k5⟩ := ba c3
      have k2 := dfl0 k2
      dsimp only at k2 k3 k4 k1
      subst k2
      cases n13 with
      | ref cd =>
        dsimp only at k3
        cases q1 : K.lookup cd with
        | none => rw [q1] at k3; cases k3
        | some o1 =>
          obtain ⟨ccl, cdd, cdt, ccs⟩ := o1
          rw [q1] at k3
          cases cdt with
          | fields vs =>
            dsimp only at k3
            cases q2 : vs[2]? with
            | none => rw [q2] at k3; cases k3
            | some u =>
              rw [q2] at k3
              cases u with
              | str file tf =>
                dsimp only at k3
                cases q3 : K.lookup cc with
                | none => rw [q3] at k4; cases k4
                | some o2 =>
                  obtain ⟨cl, cld, cdt2, csl⟩ := o2
                  rw [q3] at k4
                  cases cdt2 with
                  | cell z =>
                    cases z with
                    | none => cases k4
                    | some z =>
                      cases z with
                      | ref D =>
                        dsimp only at k4
                        have k4 := of_decide_eq_true k4
                        subst k4
                        obtain ⟨cdD, k5⟩ := Option.isSome_iff_exists.mp k5
                        exact ⟨_, ⟨oc, od, n9, n10, n11, n12, cd, cc, n14, osl, ar, vs, file, tf, ccl, cl, cdd, cld, ccs, csl, cdD, rfl, q, k1, ha, q1, q2, k3, q3, k5⟩, kp⟩
                      | _ => cases k4
                  | _ => cases k4
              | _ => cases k3
          | _ => cases k3
      | _ => cases k3
    | _ => cases c2
/-- super().m behind the class D in the class C: the def of the base b -/
def supB (K : PySem.W.Frag) (D C b m : Str) : Bool :=
  eqO (PySem.W.ks_superIn K (ga K C) (ga K D) m) (some (some (.ref (fAd K (b, some m))))) &&
  (decide (PySem.W.typeIn K (.ref (fAd K (b, some m))) = some (.type "function")) && (PySem.W.fnIn K (fAd K (b, some m)) &&
  (decide (PySem.W.mroIn K (ga K C) (.ref (ga K D)) = some true) && !(m == ("__class__" : Str)))))
theorem supB_ok {K : PySem.W.Frag} {D C b m : Str} (h : supB K D C b m = true) : SupC K (ga K D) (ga K C) (fAd K (b, some m)) m := by
  obtain ⟨h1, h⟩ := ba h
  obtain ⟨h2, h⟩ := ba h
  obtain ⟨h3, h⟩ := ba h
  obtain ⟨h4, h5⟩ := ba h
  exact ⟨eqO_ok h1, of_decide_eq_true h2, h3, of_decide_eq_true h4, by simpa using h5⟩
def otB (K : PySem.W.Frag) : Bool := eqO (PySem.W.nsIn K cStatics "thirdparty.any") (some none)
/-- what is followed: a namespace's values, a class's namespace, a def's code, defaults, cells, a property's parts -/
def refsZ (o : Obj) : List Addr := match o.data with
  | .dict es _ => es.toList.flatMap fun e => He.refV e.val
  | .func fd => He.refV fd.code ++ (He.refV fd.defaults ++ (He.refV fd.kwdefaults ++ fd.closure.map (·.2)))
  | .cls cd => [cd.ns]
  | .fields vs => (match o.cls with
    | .type "property" => vs.toList.flatMap He.refV
    | _ => [])
  | _ => []
def lev (g : Addr → Option Obj) : Nat → List Addr → List Addr
  | 0, as => as
  | n + 1, as => as ++ lev g n (as.flatMap fun a => match g a with
    | some o => refsZ o
    | none => [])
def asY (g : Addr → Option Obj) (n : Nat) : List Addr := lev g n [mainGlobals, cStatics]
abbrev AlY : Type := He.AlD × Bool × List FnY
structure Hd where
  fa : List Fa
  fn : List DefD
  fs : List FnA
  tf : List Defn
  ex : PySem.W.Frag → Bool
def Hd.obsK (d : Hd) (g : Addr → Option Obj) (K : PySem.W.Frag) : AlY := (obsD d.fa d.fn K, d.ex K && tabsB g d.tf K, d.fs.map fun f => fnY K (f.ad K))
def Hd.obs (d : Hd) (n : Nat) (g : Addr → Option Obj) : AlY := d.obsK g (frT g (asY g n))
def Hd.val (d : Hd) : AlY := (valD d.fn, true, d.fs.map FnA.val)
structure Hd.Says (d : Hd) (h : Heap) (K : PySem.W.Frag) : Prop where
  sx : SaysD d.fa d.fn K
  ex : d.ex K = true
  fs : d.fs.map (fun f => fnY K (f.ad K)) = d.fs.map FnA.val
  hd : ∀ p ∈ d.tf, PySem.W.codeHdIn K (cT K p).1 (cT K p).2 = true
  out : ∀ p ∈ d.tf, K.lookup (cT K p).2 = none
  empty : ∀ p ∈ d.tf, h.get? (cT K p).2 = some { cls := .none, data := .fields #[] }
theorem Hd.says_of {d : Hd} {n : Nat} {h : Heap} (e : d.obs n h.get? = d.val) : d.Says h (frT h.get? (asY h.get? n)) := by
  have e1 : obsD d.fa d.fn (frT h.get? (asY h.get? n)) = valD d.fn := congrArg (fun z : AlY => z.1) e
  have e2 : (d.ex (frT h.get? (asY h.get? n)) && tabsB h.get? d.tf (frT h.get? (asY h.get? n))) = true := congrArg (fun z : AlY => z.2.1) e
  have e3 : d.fs.map (fun f => fnY (frT h.get? (asY h.get? n)) (f.ad (frT h.get? (asY h.get? n)))) = d.fs.map FnA.val := congrArg (fun z : AlY => z.2.2) e
  obtain ⟨h1, h2⟩ := ba e2
  have key : ∀ p ∈ d.tf, PySem.W.codeHdIn (frT h.get? (asY h.get? n)) (cT (frT h.get? (asY h.get? n)) p).1 (cT (frT h.get? (asY h.get? n)) p).2 = true ∧ ∃ o, h.get? (cT (frT h.get? (asY h.get? n)) p).2 = some o ∧ He.emptyTab o = true := fun p hp => by
    obtain ⟨h3, h4⟩ := ba (List.all_eq_true.mp h2 p hp)
    refine ⟨h3, ?_⟩
    cases q : h.get? (cT (frT h.get? (asY h.get? n)) p).2 with
    | none => rw [q] at h4; cases h4
    | some o =>
      rw [q] at h4
      exact ⟨o, rfl, h4⟩
  exact ⟨e1, h1, e3, fun p hp => (key p hp).1, fun p hp => by
    obtain ⟨_, o, q, z⟩ := key p hp
    exact He.frT_none q z, fun p hp => by
    obtain ⟨_, o, q, z⟩ := key p hp
    rw [q, He.emptyTab_eq z]⟩
def hookY (n : Nat) (d : Hd) : PySem.W.Hook where
  α := AlY
  obs := fun s => d.obs n s.heap.get?
  val := fun _ => d.val
  says := fun _ h => ∃ K : PySem.W.Frag, K.In h ∧ d.Says h K
  of := fun _ _ e => ⟨_, He.frT_in, Hd.says_of e⟩
  keeps := fun _ _ _ ⟨K, hK, c⟩ k => ⟨K, PySem.W.Frag.In.keeps hK k, ⟨c.sx, c.ex, c.fs, c.hd, c.out, fun p hp => k _ _ (c.empty p hp)⟩⟩
theorem obsY_eq {n : Nat} {d : Hd} {g : Addr → Option Obj} {s : Shared} (h : ∀ a, g a = s.heap.get? a) : d.obs n g = (hookY n d).obs s := by
  have e : g = s.heap.get? := funext h
  rw [e] <;> rfl
/-- what the defs lean on -/
structure FxG (d : Hd) (K : PySem.W.Frag) (mg : Str → Option Value) (base : Heap) : Prop where
  sx : SaysD d.fa d.fn K
  ex : d.ex K = true
  fs : d.fs.map (fun f => fnY K (f.ad K)) = d.fs.map FnA.val
  gl : ∀ (i : Nat) (x : Str), d.fa[i]? = some (.glo x) → mg x = some (.ref (ga K x))
  fr : ∀ (x : Str), Fa.free x ∈ d.fa → mg x = none
  it : ∀ (i : Nat) (x : Str) (z : Int), d.fa[i]? = some (.int x z) → ∃ t, mg x = some (.int z t)
  st : ∀ (i : Nat) (x z : Str), d.fa[i]? = some (.str x z) → ∃ t, mg x = some (.str z t)
  tb : ∀ p ∈ d.tf, LamX.TabB base mg (cT K p).1 (cT K p).2
theorem FxG.of {d : Hd} {K : PySem.W.Frag} {h b2 base : Heap} {mg : Str → Option Value} (X : K.In b2) (G : b2.Ns mainGlobals mg) (c : d.Says h K) (tb : ∀ p ∈ d.tf, LamX.TabB base mg (cT K p).1 (cT K p).2) : FxG d K mg base :=
  ⟨c.sx, c.ex, c.fs, fun i x e => He.glo_ok X G (c.sx.fact i e), fun x e => He.free_ok X G (c.sx.facts e), fun i x z e => He.int_ok X G (c.sx.fact i e), fun i x z e => He.str_ok X G (c.sx.fact i e), tb⟩
section
variable {d : Hd} {K : PySem.W.Frag} {mg : Str → Option Value} {base : Heap} (h : FxG d K mg base)
include h
theorem FxG.fsAt (i : Nat) {f : FnA} (e : d.fs[i]? = some f) : fnY K (f.ad K) = f.val := by
  have e2 : (d.fs.map fun f => fnY K (f.ad K))[i]? = (d.fs.map FnA.val)[i]? := by rw [h.fs]
  rw [List.getElem?_map, List.getElem?_map, e] at e2
  exact Option.some.inj e2
theorem FxG.nb (q : ∀ x ∈ blNames, Fa.free x ∈ d.fa) : NoB mg := fun x hx => h.fr x (q x hx)
end
/-- own facts, one Bool each -/
theorem exAt {l : List (PySem.W.Frag → Bool)} {K : PySem.W.Frag} (h : (l.all fun f => f K) = true) (i : Nat) {f : PySem.W.Frag → Bool} (e : l[i]? = some f) : f K = true := List.all_eq_true.mp h f (List.mem_of_getElem? e)
end DL
namespace DL
open PySem PySem.Spec PyProof.Rows L2
theorem code_at {K : PySem.W.Frag} {x qual : Str} {params : Arguments} {body : List Stmt} {scope : Scope} {dvs : List V} {kws : List (Str × V)} {p : He.Defn} {fd : FuncData} (F : FunD K x qual params body scope dvs kws (He.fAd K p) fd) : fd.code = .ref (He.cT K p).1 := by
  obtain ⟨oc, od, dV, kV, doc, pm, an, cdv, ct, osl, e, lk, hcd, hD, hK⟩ := F.ex
  obtain ⟨c, ec⟩ := He.codeIn_ref hcd
  have e2 : fd.code = .ref c := by rw [e]; exact ec
  have := He.codeOf_eq lk e2
  rw [e2]
  exact congrArg Value.ref this.symm
theorem kapp_of0 {K : PySem.W.Frag} {ps : List Str} {f : Addr} {fd : FuncData} {x qual : Str} {params : Arguments} {body : List Stmt} {scope : Scope} {kws : List (Str × V)} {ks : List Str} (F : FunD K x qual params body scope [] kws f fd)
    (h : ∀ (kV doc pm : Value) (an : Option Addr) (cdv ct : Value) (us ws : List Value), us.length + ws.length = ps.length → ws.length = ks.length → bindArgs (PySem.W.fnOf x qual params body scope .none kV doc pm an cdv ct) ⟨us, ks.zip ws⟩ = pure (ps.zip (us ++ ws))) : KApp K fd ps ks := fun s us ws hk h1 h2 => by
  obtain ⟨oc, od, dV, kV, doc, pm, an, cdv, ct, osl, rfl, lk, hcd, hD, hK⟩ := F.ex
  rcases hD with ⟨_, rfl⟩ | ⟨e, _⟩
  · exact .of_eq (h kV doc pm an cdv ct us ws h1 h2)
  · exact absurd rfl e
end DL
namespace DL
open PySem PySem.Spec PyProof.Rows L2
theorem law_sp {Γ : Gm} {fn : FnF} {H : Hp} {a : Addr} {ns : List Int} {E : XK} (hT : ∀ p ∈ Γ.cm.T, H p.1 = some (.tbl #[])) (hS : SqL Γ.K H a (ns.map V.int)) (h : ∃ ds, fn [Sl.fro (.scr ns)] = .ok (.fro (.bl true), ds)) :
    spD Γ 1 fn [.ref a] H (fun v _ => v = .bl true) E := by
  obtain ⟨ds, h⟩ := h
  have mem : ∀ b, b ∈ Γ.cm.T.map (·.1) → H b = some (.tbl #[]) := fun b hb => by
    obtain ⟨p, hp, e⟩ := List.mem_map.mp hb
    rw [← e]; exact hT p hp
  refine ⟨fun b => if b ∈ Γ.cm.T.map (·.1) then none else H b, [Sl.fro (.scr ns)], rfl, ⟨fun b o q => ?_, rfl, fun i d q => ?_, fun i d q => ?_, fun i j d e a q => ?_, ⟨fun p hp => ⟨#[], hT p hp, trivial, fun pos cv q => by cases q⟩, fun p hp => if_pos (List.mem_map_of_mem hp)⟩⟩, ?_⟩
  · by_cases e : b ∈ Γ.cm.T.map (·.1)
    · have q := (if_pos e).symm.trans q; cases q
    · exact (if_neg e).symm.trans q
  · cases i with
    | succ i => simp at q
    | zero =>
      simp at q
      subst q
      refine ⟨.ref a, rfl, a, rfl, ?_⟩
      rcases hS with r | r
      · refine .inl ?_
        have na : a ∉ Γ.cm.T.map (·.1) := fun e => by
          have z := mem a e
          rcases r with r | ⟨o, r⟩ <;> (rw [z] at r; cases r)
        rcases r with r | ⟨o, r⟩
        · exact .inl ((if_neg na).trans r)
        · exact .inr ⟨o, (if_neg na).trans r⟩
      · exact .inr r
  · rcases q with q | q <;> (cases i <;> simp at q)
  · rcases q with q | q <;> (cases i <;> simp at q)
  · rw [h]
    exact fun v H' F' _ r => r
/-- the end of a law -/
theorem law_at {l : PySem.W.OpenLaw} {w : World} {K : PySem.W.Frag} {mg : Str → Option Value} {fa : Addr} {h : Heap} {d : Hd} {cm : CT} {fn : FnF} {k n : Nat} {x : Str} {fd : FuncData} (X : K.In h) (says : d.Says h K)
    (hT : cm.T.map (·.1) = d.tf.map fun p => (He.cT K p).2) (hb : ∀ (s : Shared) (u : Value), BindsTo s fd ⟨[u], []⟩ [(x, u)]) (hF : ∀ base : Heap, FxG d K mg base → FJ cm l.prog w K mg base k fa fd [x] fn)
    (law : ∀ ns : List Int, ns.length ≤ n → (∀ z ∈ ns, Builtin.Int.intBits z ≤ 1048576) → ∃ ds, fn [Sl.fro (.scr ns)] = .ok (.fro (.bl true), ds)) : LamX.LawAtS l w K (L2.CX l.prog w) k n x mg fa h := by
  refine ⟨fd, d.tf.map (He.cT K), spD ⟨K, cm⟩ 1 fn, fun p hp => ?_, fun p hp => ?_, fun p hp => ?_, hb, fun H a ns hl hbits ht hS => law_sp (fun p hp => ?_) hS (law ns hl hbits), fun base Xb G tb => hF base ?_⟩
  · obtain ⟨q, hq, rfl⟩ := List.mem_map.mp hp; exact says.empty q hq
  · obtain ⟨q, hq, rfl⟩ := List.mem_map.mp hp; exact says.out q hq
  · obtain ⟨q, hq, rfl⟩ := List.mem_map.mp hp; exact PySem.W.codeHd_of_K X (says.hd q hq)
  · have h1 : p.1 ∈ cm.T.map (·.1) := List.mem_map_of_mem hp
    rw [hT] at h1
    obtain ⟨q, hq, e⟩ := List.mem_map.mp h1
    rw [← e]
    exact ht _ (List.mem_map_of_mem hq)
  · exact FxG.of Xb G says fun p hp => tb _ (List.mem_map_of_mem hp)
end DL
set_option maxHeartbeats 1000000
namespace DL
open PySem PySem.Spec PyProof.Rows L2
open SX (S)
section
variable {α β : Type} {ds ds' : DS} {d x y : D} {i j n : Nat} {f g : SF} {rv : Rv} {rvs : List Rv} {s s0 : Sl}
@[simp] theorem bind_ok' {a : α} {k : α → R β} : (R.ok a).bind k = k a := rfl
@[simp] theorem toS_ok' {a : α} {k : α → Rs} : (R.ok a).toS k = k a := rfl
@[simp] theorem noE_ok {a : α} : noE (R.ok a) = .ok a := rfl
@[simp] theorem eVar_fro (h : (s0 :: ds)[i]? = some (Sl.fro d)) : eVar i (s0 :: ds) = .ok (.fro d, (s0 :: ds)) := by unfold eVar; rw [h]
@[simp] theorem eVar_own (h : (s0 :: ds)[i]? = some (Sl.own d)) : eVar i (s0 :: ds) = .ok (.slot i, (s0 :: ds)) := by unfold eVar; rw [h]
@[simp] theorem eVar_bor (h : (s0 :: ds)[i]? = some (Sl.bor d)) : eVar i (s0 :: ds) = .ok (.slot i, (s0 :: ds)) := by unfold eVar; rw [h]
@[simp] theorem eC_eq : eC d (s0 :: ds) = .ok (.fro d, (s0 :: ds)) := rfl
@[simp] theorem peek_fro : peek ds (.fro d) = .ok d := rfl
@[simp] theorem peek_own : peek ds (.own d) = .ok d := rfl
@[simp] theorem peek_sfro (h : ds[i]? = some (Sl.fro d)) : peek ds (.slot i) = .ok d := by unfold peek; simp only [h]
@[simp] theorem peek_sown (h : ds[i]? = some (Sl.own d)) : peek ds (.slot i) = .ok d := by unfold peek; simp only [h]
@[simp] theorem peek_sbor (h : ds[i]? = some (Sl.bor d)) : peek ds (.slot i) = .ok d := by unfold peek; simp only [h]
@[simp] theorem take_fro : take ds (.fro d) = .ok (d, ds) := rfl
@[simp] theorem take_own : take ds (.own d) = .ok (d, ds) := rfl
@[simp] theorem take_sfro (h : ds[i]? = some (Sl.fro d)) : take ds (.slot i) = .ok (d, ds) := by unfold take; simp only [h]
@[simp] theorem take_sown (h : ds[i]? = some (Sl.own d)) : take ds (.slot i) = .ok (d, ds.set i (.fro d)) := by unfold take; simp only [h]
@[simp] theorem aNil_eq : aNil (s0 :: ds) = .ok ([], (s0 :: ds)) := rfl
@[simp] theorem aCons_eq {fe : EF} {fa : AF} : aCons fe fa (s0 :: ds) = (fe (s0 :: ds)).bind fun (p : Rv × DS) => (fa p.2).bind fun (q : List Rv × DS) => .ok (p.1 :: q.1, q.2) := rfl
@[simp] theorem peeks_nil : peeks ds [] = .ok [] := rfl
@[simp] theorem peeks_cons : peeks ds (rv :: rvs) = (peek ds rv).bind fun d => (peeks ds rvs).bind fun es => .ok (d :: es) := rfl
@[simp] theorem takes_nil : takes ds [] = .ok ([], ds) := rfl
@[simp] theorem takes_cons : takes ds (rv :: rvs) = (take ds rv).bind fun (p : D × DS) => (takes p.2 rvs).bind fun (q : List D × DS) => .ok (p.1 :: q.1, q.2) := rfl
@[simp] theorem e2_eq {gg : D → D → R Rv} {fa fb : EF} : e2 gg fa fb (s0 :: ds) = (fa (s0 :: ds)).bind fun (p : Rv × DS) => (fb p.2).bind fun (q : Rv × DS) => (peek q.2 p.1).bind fun x => (peek q.2 q.1).bind fun y => (gg x y).bind fun rv => .ok (rv, q.2) := rfl
@[simp] theorem eS1_eq {gg : Str → D → R Rv} {fo fe : EF} : eS1 gg fo fe (s0 :: ds) = (fo (s0 :: ds)).bind fun (p : Rv × DS) => (asStr p.1).bind fun a => (fe p.2).bind fun (q : Rv × DS) => (peek q.2 q.1).bind fun y => (gg a y).bind fun rv => .ok (rv, q.2) := rfl
@[simp] theorem eCB_eq {gg : List D → R Rv} {fa : AF} : eCB gg fa (s0 :: ds) = (fa (s0 :: ds)).bind fun (p : List Rv × DS) => (peeks p.2 p.1).bind fun xs => (gg xs).bind fun rv => .ok (rv, p.2) := rfl
@[simp] theorem asStr_eq {a : Str} : asStr (.fro (.str a)) = .ok a := rfl
@[simp] theorem asInt_eq {k : Int} : asInt (.fro (.int k)) = .ok k := rfl
@[simp] theorem asSlot_eq : asSlot (.slot i) = .ok i := rfl
@[simp] theorem asTr_eq {b : Bool} : asTr (.fro (.bl b)) = .ok b := rfl
@[simp] theorem asBl_eq {b : Bool} : asBl (.fro (.bl b), ds) = .ok (b, ds) := rfl
@[simp] theorem tVal_eq {fe : EF} : tVal fe (s0 :: ds) = (fe (s0 :: ds)).bind fun (p : Rv × DS) => asBl p := by
  unfold tVal
  cases fe (s0 :: ds) with
  | ok p => obtain ⟨r, q⟩ := p; rfl
  | err _ _ _ _ => rfl
  | stuck => rfl
@[simp] theorem tNot1_eq {t : TF} : tNot1 t (s0 :: ds) = (t (s0 :: ds)).bind fun (p : Bool × DS) => .ok (!p.1, p.2) := rfl
@[simp] theorem tAnd2_eq {t u : TF} : tAnd2 t u (s0 :: ds) = (t (s0 :: ds)).bind fun (p : Bool × DS) => if p.1 then u p.2 else .ok (false, p.2) := rfl
@[simp] theorem tOr2_eq {t u : TF} : tOr2 t u (s0 :: ds) = (t (s0 :: ds)).bind fun (p : Bool × DS) => if p.1 then .ok (true, p.2) else u p.2 := rfl
@[simp] theorem eAnd2_eq {t u : EF} : eAnd2 t u (s0 :: ds) = (t (s0 :: ds)).bind fun (p : Rv × DS) => (asBl p).bind fun (q : Bool × DS) => if q.1 then u q.2 else .ok (.fro (.bl false), q.2) := rfl
@[simp] theorem eOr2_eq {t u : EF} : eOr2 t u (s0 :: ds) = (t (s0 :: ds)).bind fun (p : Rv × DS) => (asBl p).bind fun (q : Bool × DS) => if q.1 then .ok (.fro (.bl true), q.2) else u q.2 := rfl
@[simp] theorem eNot1_eq {t : EF} : eNot1 t (s0 :: ds) = (t (s0 :: ds)).bind fun (p : Rv × DS) => (asBl p).bind fun (q : Bool × DS) => .ok (.fro (.bl (!q.1)), q.2) := rfl
@[simp] theorem eIf_eq {t : TF} {fe ge : EF} : eIf t fe ge (s0 :: ds) = (t (s0 :: ds)).bind fun (p : Bool × DS) => if p.1 then fe p.2 else ge p.2 := rfl
@[simp] theorem e3_eq {gg g' : D → D → R Rv} {fa fb fc : EF} : e3 gg g' fa fb fc (s0 :: ds) = (fa (s0 :: ds)).bind fun (p : Rv × DS) => (fb p.2).bind fun (q : Rv × DS) => (peek q.2 p.1).bind fun x => (peek q.2 q.1).bind fun y => (gg x y).bind fun rv => (asTr rv).bind fun k =>
  if k then (fc q.2).bind fun (s : Rv × DS) => (peek s.2 q.1).bind fun y => (peek s.2 s.1).bind fun z => (g' y z).bind fun rv => .ok (rv, s.2) else .ok (.fro (.bl false), q.2) := rfl
@[simp] theorem eTup_eq {fa : AF} : eTup fa (s0 :: ds) = (fa (s0 :: ds)).bind fun (p : List Rv × DS) => (takes p.2 p.1).bind fun (q : List D × DS) => if q.1.length ≤ cap then .ok (.fro (.tup q.1), q.2) else .stuck := rfl
@[simp] theorem eLst_eq {fa : AF} : eLst fa (s0 :: ds) = (fa (s0 :: ds)).bind fun (p : List Rv × DS) => (takes p.2 p.1).bind fun (q : List D × DS) => if q.1.length ≤ cap then .ok (.own (.lst q.1), q.2) else .stuck := rfl
@[simp] theorem oNo_eq : oNo (s0 :: ds) = .ok (none, (s0 :: ds)) := rfl
def oE (p : Rv × DS) : R (Option Int × DS) := match p.1 with
  | .fro (.int i) => .ok (some i, p.2)
  | _ => .stuck
@[simp] theorem oE_eq {k : Int} : oE (.fro (.int k), ds) = .ok (some k, ds) := rfl
@[simp] theorem oInt_eq {fe : EF} : oInt fe (s0 :: ds) = (fe (s0 :: ds)).bind oE := rfl
@[simp] theorem eSl_eq {fe : EF} {fl fh : OF} : eSl fe fl fh (s0 :: ds) = (fe (s0 :: ds)).bind fun (p : Rv × DS) => (fl p.2).bind fun (l : Option Int × DS) => (fh l.2).bind fun (h : Option Int × DS) => (peek h.2 p.1).bind fun x => (slD x l.1 h.1).bind fun rv => .ok (rv, h.2) := rfl
@[simp] theorem eFld_eq {cs : List Nat} {a : Str} {fe : EF} : eFld cs a fe (s0 :: ds) = (fe (s0 :: ds)).bind fun (p : Rv × DS) => (peek p.2 p.1).bind fun d => (insOf cs d).bind fun (q : List Str × List D) => (fldD q.1 q.2 a).bind fun x => .ok (.fro x, p.2) := rfl
@[simp] theorem eProp_eq {tb : MTab} {fo : EF} : eProp tb fo (s0 :: ds) = (fo (s0 :: ds)).bind fun (p : Rv × DS) => (peek p.2 p.1).bind fun d => (propOf tb d).bind fun (c : Nat × FnF) => noE (callF c.2 [p.1] p.2) := rfl
@[simp] theorem eMeth_eq {tb : MTab} {m : Str} {fo : EF} {fa : AF} : eMeth tb m fo fa (s0 :: ds) = (fo (s0 :: ds)).bind fun (p : Rv × DS) => (peek p.2 p.1).bind fun d => (methOf tb m d).bind fun (c : Nat × FnF) => (fa p.2).bind fun (q : List Rv × DS) => callF c.2 (p.1 :: q.1) q.2 := rfl
@[simp] theorem eCallV_eq {fn : FnF} {fa : AF} : eCallV fn fa (s0 :: ds) = (fa (s0 :: ds)).bind fun (p : List Rv × DS) => callF fn p.1 p.2 := rfl
@[simp] theorem eSup_eq {cs : List Nat} {fn : FnF} {fa : AF} : eSup cs fn fa (s0 :: ds) = (eVar 0 (s0 :: ds)).bind fun (p : Rv × DS) => (peek p.2 p.1).bind fun d => (insOf cs d).bind fun _ => (fa p.2).bind fun (q : List Rv × DS) => callF fn (p.1 :: q.1) q.2 := rfl
@[simp] theorem aStar_eq {fe : EF} {fa : AF} : aStar fe fa (s0 :: ds) = (fe (s0 :: ds)).bind fun (p : Rv × DS) => (take p.2 p.1).bind fun (q : D × DS) => (aStar.seqOf q.1).bind fun xs => (fa q.2).bind fun (z : List Rv × DS) => .ok (xs.map Rv.fro ++ z.1, z.2) := rfl
@[simp] theorem aApp_eq {fa ga : AF} : aApp n fa ga (s0 :: ds) = (fa (s0 :: ds)).bind fun (p : List Rv × DS) => (ga p.2).bind fun (q : List Rv × DS) => if q.1.length = n then .ok (p.1 ++ q.1, q.2) else .stuck := rfl
/-- the end of a call -/
def callE (ds : DS) (rvs : List Rv) : R (Rv × DS) → R (Rv × DS)
  | .ok p => .ok (p.1, back ds rvs p.2)
  | .err c ks es sl' => .err c ks es (back ds rvs sl')
  | .stuck => .stuck
@[simp] theorem callE_ok {p : Rv × DS} : callE ds rvs (.ok p) = .ok (p.1, back ds rvs p.2) := rfl
@[simp] theorem callF_eq {fn : FnF} : callF fn rvs (s0 :: ds) = if (lents rvs).Nodup then (lend (s0 :: ds) rvs).bind fun sl => callE (s0 :: ds) rvs (fn sl) else .stuck := by
  unfold callF
  split
  · congr 1
  · rfl
@[simp] theorem lents_nil : lents [] = [] := rfl
@[simp] theorem lents_fro : lents (.fro d :: rvs) = lents rvs := rfl
@[simp] theorem lents_own : lents (.own d :: rvs) = lents rvs := rfl
@[simp] theorem lents_slot : lents (.slot i :: rvs) = i :: lents rvs := rfl
@[simp] theorem lend_nil : lend ds [] = .ok [] := rfl
@[simp] theorem lend_cons : lend ds (rv :: rvs) = (lend1 ds rv).bind fun s => (lend ds rvs).bind fun ss => .ok (s :: ss) := rfl
@[simp] theorem lend1_fro : lend1 ds (.fro d) = .ok (.fro d) := rfl
@[simp] theorem lend1_own : lend1 ds (.own d) = .ok (.own d) := rfl
@[simp] theorem lend1_sfro (h : ds[i]? = some (Sl.fro d)) : lend1 ds (.slot i) = .ok (.fro d) := by unfold lend1; simp only [h]
@[simp] theorem lend1_sown (h : ds[i]? = some (Sl.own d)) : lend1 ds (.slot i) = .ok (.bor d) := by unfold lend1; simp only [h]
@[simp] theorem lend1_sbor (h : ds[i]? = some (Sl.bor d)) : lend1 ds (.slot i) = .ok (.bor d) := by unfold lend1; simp only [h]
@[simp] theorem back_nil {sl : DS} : back ds [] sl = ds := by unfold back; rfl
@[simp] theorem back_nil2 : back ds rvs [] = ds := by cases rvs <;> rfl
@[simp] theorem back_cons {sl : DS} : back ds (rv :: rvs) (s :: sl) = back (back1 ds rv s) rvs sl := rfl
@[simp] theorem back1_fro {s : Sl} : back1 ds (.fro d) s = ds := rfl
@[simp] theorem back1_own {s : Sl} : back1 ds (.own d) s = ds := rfl
@[simp] theorem back1_sf : back1 ds (.slot i) (.fro d) = ds := rfl
@[simp] theorem back1_so : back1 ds (.slot i) (.own d) = ds := rfl
@[simp] theorem back1_sown (h : ds[i]? = some (Sl.own d)) : back1 ds (.slot i) (.bor x) = ds.set i (.own x) := by unfold back1; simp only [h]
@[simp] theorem back1_sbor (h : ds[i]? = some (Sl.bor d)) : back1 ds (.slot i) (.bor x) = ds.set i (.bor x) := by unfold back1; simp only [h]
@[simp] theorem fnN_eq {fn : FnF} {sl : DS} : fnN n fn (s0 :: sl) = if (s0 :: sl).length = n then fn (s0 :: sl) else .stuck := rfl
def dfE (n : Nat) : R (Rv × DS) → R (Rv × DS)
  | .ok p => .ok (p.1, p.2.take n)
  | .err c ks es s => .err c ks es (s.take n)
  | .stuck => .stuck
@[simp] theorem dfE_ok {p : Rv × DS} : dfE n (.ok p) = .ok (p.1, p.2.take n) := rfl
@[simp] theorem fnD_eq {dd : List D} {fn : FnF} {sl : DS} : fnD dd fn (s0 :: sl) = dfE (s0 :: sl).length (fn ((s0 :: sl) ++ dd.map Sl.fro)) := by
  unfold fnD
  cases fn ((s0 :: sl) ++ dd.map Sl.fro) <;> rfl
def fnE (np : Nat) : Rs → R (Rv × DS)
  | .nx ds => .ok (.fro .non, ds.take np)
  | .rt rv ds => (finish rv ds).bind fun rv => .ok (rv, ds.take np)
  | .err c ks es ds => .err c ks es (ds.take np)
  | _ => .stuck
@[simp] theorem fnE_nx {np : Nat} : fnE np (.nx ds) = .ok (.fro .non, ds.take np) := rfl
@[simp] theorem fnE_rt {np : Nat} : fnE np (.rt rv ds) = (finish rv ds).bind fun rv => .ok (rv, ds.take np) := rfl
@[simp] theorem fnB_eq {np nl : Nat} {sl : DS} : fnB np nl g (s0 :: sl) = fnE np (g ((s0 :: sl) ++ List.replicate nl .no)) := by
  unfold fnB fnE
  cases g ((s0 :: sl) ++ List.replicate nl .no) <;> rfl
@[simp] theorem finish_fro : DL.finish (.fro d) ds = .ok (.fro d) := rfl
@[simp] theorem finish_own : DL.finish (.own d) ds = .ok (.own d) := rfl
@[simp] theorem finish_sfro (h : ds[i]? = some (Sl.fro d)) : DL.finish (.slot i) ds = .ok (.fro d) := by unfold DL.finish; simp only [h]
@[simp] theorem finish_sown (h : ds[i]? = some (Sl.own d)) : DL.finish (.slot i) ds = .ok (.own d) := by unfold DL.finish; simp only [h]
def Rs.seq (r : Rs) (g : SF) : Rs := match r with
  | .nx ds' => g ds'
  | r => r
@[simp] theorem seq_nx : Rs.seq (.nx ds) g = g ds := rfl
@[simp] theorem seq_rt : Rs.seq (.rt rv ds) g = .rt rv ds := rfl
@[simp] theorem sSeq_eq : sSeq f g (s0 :: ds) = (f (s0 :: ds)).seq g := rfl
@[simp] theorem sNil_eq : sNil (s0 :: ds) = .nx (s0 :: ds) := rfl
@[simp] theorem sExpr_eq {fe : EF} : sExpr fe (s0 :: ds) = (fe (s0 :: ds)).toS fun p => .nx p.2 := rfl
@[simp] theorem sRet_eq {fe : EF} : sRet fe (s0 :: ds) = (fe (s0 :: ds)).toS fun p => .rt p.1 p.2 := rfl
@[simp] theorem sRetN_eq : sRetN (s0 :: ds) = .rt (.fro .non) (s0 :: ds) := rfl
@[simp] theorem sIf_eq {t : TF} : sIf t f g (s0 :: ds) = (t (s0 :: ds)).toS fun p => if p.1 then f p.2 else g p.2 := rfl
@[simp] theorem sAsg_eq {fe : EF} : sAsg i fe (s0 :: ds) = (fe (s0 :: ds)).toS fun p => (store i p.1 p.2).toS fun ds' => .nx ds' := rfl
@[simp] theorem sPar_eq {fa : AF} : sPar i j fa (s0 :: ds) = (fa (s0 :: ds)).toS fun p => (two p.1).toS fun ab => (store i ab.1 p.2).toS fun ds1 => (store j ab.2 ds1).toS fun ds2 => .nx ds2 := rfl
def free : DS → Nat → Bool
  | [], _ => false
  | .bor _ :: _, 0 => false
  | _ :: _, 0 => true
  | _ :: r, n + 1 => free r n
@[simp] theorem free_no : free (.no :: ds) 0 = true := rfl
@[simp] theorem free_fro : free (.fro d :: ds) 0 = true := rfl
@[simp] theorem free_own : free (.own d :: ds) 0 = true := rfl
@[simp] theorem free_succ : free (s :: ds) (n + 1) = free ds n := by cases s <;> rfl
theorem free_get : ∀ {ds : DS} {i : Nat}, free ds i = true → ∃ s, ds[i]? = some s ∧ ∀ d, s ≠ .bor d
  | [], i, h => by cases i <;> cases h
  | .bor _ :: r, 0, h => by cases h
  | .no :: r, 0, h => ⟨_, rfl, fun d z => by cases z⟩
  | .fro _ :: r, 0, h => ⟨_, rfl, fun d z => by cases z⟩
  | .own _ :: r, 0, h => ⟨_, rfl, fun d z => by cases z⟩
  | s :: r, n + 1, h => by
    rw [free_succ] at h
    obtain ⟨t, e, q⟩ := free_get h
    exact ⟨t, by simpa using e, q⟩
theorem store_free (h : free ds i = true) : store i rv ds = match rv with
    | .own d => .ok (ds.set i (Sl.own d))
    | rv => (take ds rv).bind fun (p : D × DS) => .ok (p.2.set i (Sl.fro p.1)) := by
  unfold store
  obtain ⟨t, e, q⟩ := free_get h
  rw [e]
  cases t with
  | bor d => exact absurd rfl (q d)
  | no => rfl
  | fro d => rfl
  | own d => rfl
@[simp] theorem store_fro (h : free ds i = true) : store i (.fro d) ds = .ok (ds.set i (.fro d)) := by rw [store_free h]; rfl
@[simp] theorem store_own (h : free ds i = true) : store i (.own d) ds = .ok (ds.set i (.own d)) := by rw [store_free h]
@[simp] theorem store_slot (h : free ds i = true) : store i (.slot j) ds = (take ds (.slot j)).bind fun (p : D × DS) => .ok (p.2.set i (Sl.fro p.1)) := by rw [store_free h]
@[simp] theorem two_ff : two [.fro x, .fro y] = .ok (.fro x, .fro y) := rfl
@[simp] theorem two_fo : two [.fro x, .own y] = .ok (.fro x, .own y) := rfl
@[simp] theorem two_of : two [.own x, .fro y] = .ok (.own x, .fro y) := rfl
@[simp] theorem two_oo : two [.own x, .own y] = .ok (.own x, .own y) := rfl
@[simp] theorem notSlot_fro : notSlot (.fro d) = true := rfl
@[simp] theorem notSlot_own : notSlot (.own d) = true := rfl
@[simp] theorem gN_eq : gN i d (s0 :: ds) = store i (.fro d) (s0 :: ds) := rfl
@[simp] theorem gsNil_eq : gsNil [] ds = .ok ds := rfl
@[simp] theorem gsCons_eq {gt : GF} {gs : List D → DS → R DS} {es : List D} : gsCons gt gs (d :: es) (s0 :: ds) = (gt d (s0 :: ds)).bind fun ds' => gs es ds' := rfl
@[simp] theorem gTupD_eq {gs : List D → DS → R DS} {es : List D} (h : es.length = n) : gTupD n gs (.tup es) (s0 :: ds) = gs es (s0 :: ds) := by unfold gTupD; exact if_pos h
def Rs.turn (x : Rs) (k : DS → Rs) : Rs := match x with
  | .nx ds2 => k ds2
  | .ct ds2 => k ds2
  | .bk ds2 => .nx ds2
  | .rt rv ds2 => .rt rv ds2
  | .err c ks es ds2 => .err c ks es ds2
  | .stuck => .stuck
@[simp] theorem turn_nx {k : DS → Rs} : Rs.turn (.nx ds) k = k ds := rfl
@[simp] theorem turn_ct {k : DS → Rs} : Rs.turn (.ct ds) k = k ds := rfl
@[simp] theorem turn_bk {k : DS → Rs} : Rs.turn (.bk ds) k = .nx ds := rfl
@[simp] theorem turn_rt {k : DS → Rs} : Rs.turn (.rt rv ds) k = .rt rv ds := rfl
@[simp] theorem sFor_eq {it : IF} {gt : GF} : sFor it gt g (s0 :: ds) = (it (s0 :: ds)).toS fun p => forGo gt g p.1 p.2 := rfl
@[simp] theorem forGo_nil {gt : GF} : forGo gt g [] (s0 :: ds) = .nx (s0 :: ds) := rfl
theorem forGo_cons {gt : GF} {r : List D} : forGo gt g (d :: r) (s0 :: ds) = (noE (gt d (s0 :: ds))).toS fun ds1 => (g ds1).turn (forGo gt g r) := by
  show (match gt d (s0 :: ds) with | .ok ds1 => _ | _ => _) = _
  cases gt d (s0 :: ds) with
  | ok ds1 => show (match g ds1 with | .nx _ => _ | .ct _ => _ | .bk _ => _ | .rt _ _ => _ | .err _ _ _ _ => _ | .stuck => _) = _; cases h : g ds1 <;> simp [noE, R.toS, Rs.turn, h]
  | err _ _ _ _ => rfl
  | stuck => rfl
@[simp] theorem iE_eq {fe : EF} : iE fe (s0 :: ds) = (fe (s0 :: ds)).bind fun (p : Rv × DS) => (take p.2 p.1).bind fun (q : D × DS) => (itemsOf q.1).bind fun xs => .ok (xs, q.2) := rfl
@[simp] theorem itemsOf_lst {xs : List D} : itemsOf (.lst xs) = .ok xs := rfl
@[simp] theorem itemsOf_tup {xs : List D} : itemsOf (.tup xs) = .ok xs := rfl
@[simp] theorem itemsOf_str {z : Str} : itemsOf (.str z) = .ok (signs z) := rfl
def r1E (p : List Rv × DS) : R (List D × DS) := match p.1 with
  | [.fro (.int j)] => if small j then .ok (rangeD 0 j.toNat, p.2) else .stuck
  | _ => .stuck
@[simp] theorem r1E_eq {k : Int} (hs : small k = true) : r1E ([.fro (.int k)], ds) = .ok (rangeD 0 k.toNat, ds) := if_pos hs
@[simp] theorem iR1_eq {fa : AF} : iR1 fa (s0 :: ds) = (fa (s0 :: ds)).bind r1E := rfl
def zipE (q : List D × DS) : R (List D × DS) := match q.1 with
  | [a, b] => (itemsOf a).bind fun xs => (itemsOf b).bind fun ys => .ok (pairsD xs ys, q.2)
  | _ => .stuck
@[simp] theorem zipE_eq {a b : D} : zipE ([a, b], ds) = (itemsOf a).bind fun xs => (itemsOf b).bind fun ys => .ok (pairsD xs ys, ds) := rfl
@[simp] theorem iZip_eq {fa : AF} : iZip fa (s0 :: ds) = (fa (s0 :: ds)).bind fun (p : List Rv × DS) => (takes p.2 p.1).bind zipE := rfl
def enumE (q : List D × DS) : R (List D × DS) := match q.1 with
  | [a] => (itemsOf a).bind fun xs => .ok (numsD xs, q.2)
  | _ => .stuck
@[simp] theorem enumE_eq {a : D} : enumE ([a], ds) = (itemsOf a).bind fun xs => .ok (numsD xs, ds) := rfl
@[simp] theorem iEnum_eq {fa : AF} : iEnum fa (s0 :: ds) = (fa (s0 :: ds)).bind fun (p : List Rv × DS) => (takes p.2 p.1).bind enumE := rfl
@[simp] theorem eLc_eq {vs : List Nat} {it : IF} {gt : GF} {t : TF} {el : EF} : eLc vs it gt t el (s0 :: ds) = (it (s0 :: ds)).bind fun (p : List D × DS) => if compOk p.2 vs then (lcGo vs gt t el p.1 p.2 []).bind fun (q : List D × DS) => .ok (.own (.lst q.1), q.2) else .stuck := rfl
@[simp] theorem tTrue_eq : tTrue (s0 :: ds) = .ok (true, (s0 :: ds)) := rfl
@[simp] theorem mineOf_own (h : ds[i]? = some (Sl.own d)) : mineOf ds i = .ok d := by unfold mineOf; rw [h]
@[simp] theorem mineOf_bor (h : ds[i]? = some (Sl.bor d)) : mineOf ds i = .ok d := by unfold mineOf; rw [h]
@[simp] theorem put_ownn (h : ds[i]? = some (Sl.own d)) : put ds i x = ds.set i (.own x) := by unfold put; rw [h]
@[simp] theorem put_borr (h : ds[i]? = some (Sl.bor d)) : put ds i x = ds.set i (.bor x) := by unfold put; rw [h]
@[simp] theorem lstOf_own {xs : List D} (h : (s0 :: ds)[i]? = some (Sl.own (.lst xs))) : lstOf (s0 :: ds) i = .ok xs := by unfold lstOf mineOf; rw [h]; rfl
@[simp] theorem lstOf_bor {xs : List D} (h : (s0 :: ds)[i]? = some (Sl.bor (.lst xs))) : lstOf (s0 :: ds) i = .ok xs := by unfold lstOf mineOf; rw [h]; rfl
@[simp] theorem eMut_eq {gg : List D → List D → R (List D × D)} {fo : EF} {fa : AF} : eMut gg fo fa (s0 :: ds) = (fo (s0 :: ds)).bind fun (p : Rv × DS) => (asSlot p.1).bind fun i => (lstOf p.2 i).bind fun _ => (fa p.2).bind fun (q : List Rv × DS) => (takes q.2 q.1).bind fun (z : List D × DS) =>
  (lstOf z.2 i).bind fun xs => (gg xs z.1).bind fun (w : List D × D) => .ok (.fro w.2, put z.2 i (.lst w.1)) := rfl
@[simp] theorem appD_eq {xs : List D} (h : xs.length ≤ cap) : appD xs [d] = .ok (xs ++ [d], .non) := by unfold appD; exact if_pos h
@[simp] theorem sSetIx_eq {fo fi fe : EF} : sSetIx fo fi fe (s0 :: ds) = (fe (s0 :: ds)).toS fun p => (take p.2 p.1).toS fun z => (fo z.2).toS fun o => (asSlot o.1).toS fun j => (fi o.2).toS fun i => (asInt i.1).toS fun k => (lstOf i.2 j).toS fun xs => (setIx xs k z.1).toS fun ys => .nx (put i.2 j (.lst ys)) := rfl
@[simp] theorem sAsgG_eq {fe : EF} {gt : GF} : sAsgG fe gt (s0 :: ds) = (fe (s0 :: ds)).toS fun p => (take p.2 p.1).toS fun z => (noE (gt z.1 z.2)).toS .nx := by
  unfold sAsgG
  cases fe (s0 :: ds) with
  | ok p =>
    simp
    cases take p.2 p.1 with
    | ok z => simp; cases gt z.1 z.2 <;> rfl
    | err _ _ _ _ => rfl
    | stuck => rfl
  | err _ _ _ _ => rfl
  | stuck => rfl
@[simp] theorem cap_1 : 1 ≤ cap := by decide
@[simp] theorem cap_2 : 2 ≤ cap := by decide
@[simp] theorem cap_3 : 3 ≤ cap := by decide
@[simp] theorem cap_4 : 4 ≤ cap := by decide
@[simp] theorem cap_5 : 5 ≤ cap := by decide
@[simp] theorem cap_6 : 6 ≤ cap := by decide
@[simp] theorem cap_7 : 7 ≤ cap := by decide
@[simp] theorem cap_8 : 8 ≤ cap := by decide
@[simp] theorem cap_9 : 9 ≤ cap := by decide
@[simp] theorem cap_10 : 10 ≤ cap := by decide
@[simp] theorem cap_11 : 11 ≤ cap := by decide
@[simp] theorem cap_12 : 12 ≤ cap := by decide
@[simp] theorem addD_int {a b : Int} : addD (.int a) (.int b) = .ok (.fro (.int (a + b))) := rfl
@[simp] theorem subD_int {a b : Int} : subD (.int a) (.int b) = .ok (.fro (.int (a - b))) := rfl
@[simp] theorem addD_S {a b : List Nat} (h : a.length + b.length ≤ cap) : addD (.str (S a)) (.str (S b)) = .ok (.fro (.str (S (a ++ b)))) := by
  show (if (S a).length + (S b).length ≤ cap then (R.ok (Rv.fro (D.str (S a ++ S b)))) else .stuck) = _
  rw [SX.S_len, SX.S_len, if_pos h, SX.S_cat]
@[simp] theorem addD_lst {a b : List D} (h : a.length + b.length ≤ cap) : addD (.lst a) (.lst b) = .ok (.own (.lst (a ++ b))) := if_pos h
@[simp] theorem modD_eq {a b : Int} (h : 0 < b) : modD (.int a) (.int b) = .ok (.fro (.int (a % b))) := by unfold modD; simp [h, okI]
@[simp] theorem fdivD_eq {a b : Int} (h : 0 < b) (h2 : b ≤ 2 ^ 100) : fdivD (.int a) (.int b) = .ok (.fro (.int (a / b))) := by unfold fdivD; simp only [show divOk b = true by unfold divOk; rw [decide_eq_true h, decide_eq_true h2]; rfl]; rfl
@[simp] theorem mulD2_int {a b : Int} (h : wideOk a = true) (h2 : wideOk b = true) : mulD2 (.int a) (.int b) = .ok (.fro (.int (a * b))) := by
  show mulD (.int a) (.int b) = _
  unfold mulD; simp [h, h2, okI]
@[simp] theorem lenD_lst {l : List D} : lenD [.lst l] = .ok (.fro (.int l.length)) := rfl
@[simp] theorem lenD_tup {l : List D} : lenD [.tup l] = .ok (.fro (.int l.length)) := rfl
@[simp] theorem lenD_scr {l : List Int} : lenD [.scr l] = .ok (.fro (.int l.length)) := rfl
@[simp] theorem lenD_S {l : List Nat} (h : l.length ≤ cap) : lenD [.str (S l)] = .ok (.fro (.int l.length)) := by
  show (if (S l).length ≤ cap then okI (S l).length else .stuck) = _
  rw [SX.S_len, if_pos h]; rfl
@[simp] theorem intD2_int {a : Int} : intD2 [.int a] = .ok (.fro (.int a)) := rfl
@[simp] theorem intD2_bl {b : Bool} : intD2 [.bl b] = .ok (.fro (.int (if b then 1 else 0))) := rfl
@[simp] theorem absD_int {a : Int} : absD [.int a] = .ok (.fro (.int (if a < 0 then -a else a))) := rfl
@[simp] theorem tupleD_lst {l : List D} : tupleD [.lst l] = .ok (.fro (.tup l)) := rfl
@[simp] theorem tupleD_tup {l : List D} : tupleD [.tup l] = .ok (.fro (.tup l)) := rfl
@[simp] theorem listD_lst {l : List D} : listD [.lst l] = .ok (.own (.lst l)) := rfl
@[simp] theorem listD_tup {l : List D} : listD [.tup l] = .ok (.own (.lst l)) := rfl
@[simp] theorem reprD_bl {b : Bool} : reprD [.bl b] = .ok (.fro (.str (if b then "True" else "False"))) := rfl
@[simp] theorem isN_non {neg : Bool} : isN neg .non .non = .ok (.fro (.bl (!neg))) := rfl
@[simp] theorem isN_int {neg : Bool} {a : Int} : isN neg (.int a) .non = .ok (.fro (.bl neg)) := rfl
@[simp] theorem isN_str {neg : Bool} {a : Str} : isN neg (.str a) .non = .ok (.fro (.bl neg)) := rfl
@[simp] theorem isN_tup {neg : Bool} {a : List D} : isN neg (.tup a) .non = .ok (.fro (.bl neg)) := rfl
@[simp] theorem gtR_int {a b : Int} : gtR (.int a) (.int b) = .ok (.fro (.bl (decide (b < a)))) := rfl
@[simp] theorem ltR_int {a b : Int} : ltR (.int a) (.int b) = .ok (.fro (.bl (decide (a < b)))) := rfl
@[simp] theorem leR_int {a b : Int} : leR (.int a) (.int b) = .ok (.fro (.bl (decide (a ≤ b)))) := rfl
@[simp] theorem geR_int {a b : Int} : geR (.int a) (.int b) = .ok (.fro (.bl (decide (b ≤ a)))) := rfl
theorem scal_int {a b : Int} : eqD (.int a) (.int b) = .ok (decide (a = b)) := by
  have : eqD (.int a) (.int b) = .ok (decide ((V.int a) = V.int b)) := rfl
  rw [this]
  by_cases h : a = b
  · simp [h]
  · simp [h]
theorem scal_str {a b : Str} : eqD (.str a) (.str b) = .ok (decide (a = b)) := by
  have : eqD (.str a) (.str b) = .ok (decide ((V.str a) = V.str b)) := rfl
  rw [this]
  by_cases h : a = b
  · simp [h]
  · simp [h]
theorem scal_bl {a b : Bool} : eqD (.bl a) (.bl b) = .ok (decide (a = b)) := by
  cases a <;> cases b <;> rfl
@[simp] theorem eqR_int {a b : Int} : eqR (.int a) (.int b) = .ok (.fro (.bl (decide (a = b)))) := by unfold eqR; rw [scal_int]; rfl
@[simp] theorem neR_int {a b : Int} : neR (.int a) (.int b) = .ok (.fro (.bl (!decide (a = b)))) := by unfold neR; rw [scal_int]; rfl
@[simp] theorem eqR_str {a b : Str} : eqR (.str a) (.str b) = .ok (.fro (.bl (decide (a = b)))) := by unfold eqR; rw [scal_str]; rfl
@[simp] theorem neR_str {a b : Str} : neR (.str a) (.str b) = .ok (.fro (.bl (!decide (a = b)))) := by unfold neR; rw [scal_str]; rfl
@[simp] theorem neR_bl {a b : Bool} : neR (.bl a) (.bl b) = .ok (.fro (.bl (a != b))) := by cases a <;> cases b <;> rfl
theorem at_get {α : Type} {xs : List α} {k : Nat} {x : α} (h : xs[k]? = some x) : atI xs (k : Int) = some x := by
  have hl : k < xs.length := (List.getElem?_eq_some_iff.mp h).1
  unfold atI ixN
  rw [if_pos (Int.natCast_nonneg k), if_pos (by exact_mod_cast hl)]
  simpa using h
theorem atI_0 {α : Type} {x : α} {xs : List α} : atI (x :: xs) (0 : Int) = some x := at_get (k := 0) rfl
theorem atI_1 {α : Type} {x y : α} {xs : List α} : atI (x :: y :: xs) (1 : Int) = some y := at_get (k := 1) rfl
theorem atI_2 {α : Type} {x y z : α} {xs : List α} : atI (x :: y :: z :: xs) (2 : Int) = some z := at_get (k := 2) rfl
theorem ixD_lst {xs : List D} {k : Int} (h : atI xs k = some d) : ixD (.lst xs) (.int k) = .ok (.fro d) := by unfold ixD; simp only [h]
theorem ixD_tup {xs : List D} {k : Int} (h : atI xs k = some d) : ixD (.tup xs) (.int k) = .ok (.fro d) := by unfold ixD; simp only [h]
@[simp] theorem ixD_l0 {xs : List D} : ixD (.lst (d :: xs)) (.int 0) = .ok (.fro d) := ixD_lst atI_0
@[simp] theorem ixD_l1 {xs : List D} : ixD (.lst (x :: d :: xs)) (.int 1) = .ok (.fro d) := ixD_lst atI_1
@[simp] theorem ixD_l2 {xs : List D} : ixD (.lst (x :: y :: d :: xs)) (.int 2) = .ok (.fro d) := ixD_lst atI_2
@[simp] theorem ixD_t0 {xs : List D} : ixD (.tup (d :: xs)) (.int 0) = .ok (.fro d) := ixD_tup atI_0
@[simp] theorem ixD_t1 {xs : List D} : ixD (.tup (x :: d :: xs)) (.int 1) = .ok (.fro d) := ixD_tup atI_1
theorem ixD_ln {xs : List D} {k : Nat} (h : xs[k]? = some d) : ixD (.lst xs) (.int (k : Nat)) = .ok (.fro d) := ixD_lst (at_get h)
theorem ixD_tn {xs : List D} {k : Nat} (h : xs[k]? = some d) : ixD (.tup xs) (.int (k : Nat)) = .ok (.fro d) := ixD_tup (at_get h)
end
end DL
namespace DL
open PySem PySem.Spec PyProof.Rows L2
open SX (S)
open PySem.StrLaws (occBody occ_eq subAt_one)
open Builtin.Str (occurrences subAt)
theorem occ_done (s sub : Str) (hi : Nat) : ∀ (l : List Nat) (st : Array Nat × Nat), st.fst.size = 1 → (forIn l st (occBody s sub hi 1)).run.fst = st.fst
  | [], st, h => rfl
  | a :: l, st, h => by
    rw [List.forIn_cons]
    unfold occBody
    rw [if_neg (fun z => by have := z.1.1.1; omega)]
    exact occ_done s sub hi l _ h
theorem occ_first (s sub : Str) (hi : Nat) : ∀ (l : List Nat) (fr : Nat), (∀ i ∈ l, fr ≤ i) →
    (forIn l ((#[] : Array Nat), fr) (occBody s sub hi 1)).run.fst.toList = (l.find? fun i => decide (i + sub.length ≤ hi ∧ subAt s sub i = true)).toList
  | [], fr, _ => rfl
  | a :: l, fr, hf => by
    rw [List.forIn_cons]
    unfold occBody
    have ha : fr ≤ a := hf a (List.mem_cons_self ..)
    by_cases hc : a + sub.length ≤ hi ∧ subAt s sub a = true
    · rw [if_pos ⟨⟨⟨by simp, ha⟩, hc.1⟩, hc.2⟩, List.find?_cons_of_pos (by simpa using hc)]
      have := occ_done s sub hi l (((#[] : Array Nat), fr).fst.push a, a + sub.length) (by simp)
      show (forIn l _ (occBody s sub hi 1)).run.fst.toList = _
      rw [this]; rfl
    · rw [if_neg (fun h => hc ⟨h.1.2, h.2⟩), List.find?_cons_of_neg (by simpa using hc)]
      exact occ_first s sub hi l fr fun i h => hf i (List.mem_cons_of_mem _ h)
theorem occ_one {a : List Nat} {c : Nat} (h : c ∈ a) : occurrences (S a) (S [c]) 0 (S a).length 1 = [a.idxOf c] := by
  rw [occ_eq, occ_first _ _ _ _ _ (fun _ _ => Nat.zero_le _)]
  have hlt : a.idxOf c < a.length := List.idxOf_lt_length_iff.mpr h
  have e : (List.range' 0 ((S a).length + 1 - 0)).find? (fun i => decide (i + (S [c]).length ≤ (S a).length ∧ subAt (S a) (S [c]) i = true)) = some (a.idxOf c) := by
    rw [List.find?_range'_eq_some]
    refine ⟨?_, ?_, fun j _ hj => ?_⟩
    · rw [decide_eq_true_eq]
      exact (subAt_one (S a) c _).mpr (by show a.toArray.toList[_]? = _; simp [hlt])
    · rw [List.mem_range']
      exact ⟨a.idxOf c, by rw [SX.S_len]; omega, by omega⟩
    · simp only [Bool.not_eq_true', decide_eq_false_iff_not]
      intro z
      have z := (subAt_one (S a) c j).mp z
      have z : a[j]? = some c := by simpa using z
      obtain ⟨hj2, e⟩ := List.getElem?_eq_some_iff.mp z
      have := List.not_of_lt_findIdx (p := (· == c)) (xs := a) (i := j) hj
      simp [e] at this
  rw [e]; rfl
theorem find_one {L : List Nat} {c : Nat} (h : c ∈ L) : Txt.find (S L) (S [c]) = (L.idxOf c : Nat) := by
  show (match occurrences (S L) (S [c]) 0 (S L).length 1 with | i :: _ => (i : Int) | [] => -1) = _
  rw [occ_one h]
theorem findD_one {L : List Nat} {c : Nat} (h : c ∈ L) : findD (S L) (.str (S [c])) = .ok (.fro (.int (L.idxOf c : Nat))) := by
  show R.ok (Rv.fro (D.int (Txt.find (S L) (S [c])))) = _
  rw [find_one h]
theorem indexD_one {L : List Nat} {c : Nat} (h : c ∈ L) : indexD (S L) (.str (S [c])) = .ok (.fro (.int (L.idxOf c : Nat))) := by
  show (match occurrences (S L) (S [c]) 0 (S L).length 1 with | i :: _ => (R.ok (Rv.fro (D.int (i : Nat)))) | [] => .stuck) = _
  rw [occ_one h]
/-- c in text -/
theorem inStr_one {L : List Nat} {c : Nat} : inStr (S [c]) (S L) = decide (c ∈ L) := by
  show signIn c (S L) = _
  unfold signIn
  rfl
@[simp] theorem signs_S {L : List Nat} : signs (S L) = L.map fun c => .str (S [c]) := rfl
theorem inR_one {neg : Bool} {L : List Nat} {c : Nat} : inR neg (.str (S [c])) (.str (S L)) = .ok (.fro (.bl (if neg then !decide (c ∈ L) else decide (c ∈ L)))) := by
  show (R.ok (inStr (S [c]) (S L))).bind _ = _
  rw [inStr_one]; rfl
@[simp] theorem wipeD_nil {ds : DS} : wipeD ds [] = ds := rfl
@[simp] theorem wipeD_cons {ds : DS} {v : Nat} {vs : List Nat} : wipeD ds (v :: vs) = (wipeD ds vs).set v .no := rfl
@[simp] theorem restore_nil {ds o : DS} : restore ds o [] = ds := rfl
@[simp] theorem restore_cons {ds o : DS} {v : Nat} {vs : List Nat} : restore ds o (v :: vs) = (restore ds o vs).set v (o.getD v .no) := rfl
def compF : DS → Nat → Bool
  | .no :: _, 0 => true
  | .fro _ :: _, 0 => true
  | _ :: r, n + 1 => compF r n
  | _, _ => false
@[simp] theorem compF_no {ds : DS} : compF (.no :: ds) 0 = true := rfl
@[simp] theorem compF_fro {ds : DS} {d : D} : compF (.fro d :: ds) 0 = true := rfl
@[simp] theorem compF_succ {ds : DS} {s : Sl} {n : Nat} : compF (s :: ds) (n + 1) = compF ds n := by cases s <;> rfl
theorem compOk_one : ∀ {ds : DS} {i : Nat}, compOk ds [i] = compF ds i
  | [], i => by cases i <;> rfl
  | s :: r, 0 => by cases s <;> rfl
  | s :: r, n + 1 => by rw [compF_succ, ← compOk_one]; simp [compOk]
@[simp] theorem compOk_nil {ds : DS} : compOk ds [] = true := rfl
@[simp] theorem compOk_cons {ds : DS} {v : Nat} {vs : List Nat} : compOk ds (v :: vs) = (compF ds v && compOk ds vs) := by
  rw [← compOk_one]
  simp [compOk]
@[simp] theorem eIsT_eq {T : String} {fe : EF} {s0 : Sl} {ds : DS} : eIsT T fe (s0 :: ds) = (fe (s0 :: ds)).bind fun (p : Rv × DS) => (peek p.2 p.1).bind fun d => (isT T d).bind fun rv => .ok (rv, p.2) := rfl
@[simp] theorem isT_ss {a : Str} : isT "str" (.str a) = .ok (.fro (.bl true)) := rfl
@[simp] theorem isT_ii {a : Int} : isT "int" (.int a) = .ok (.fro (.bl true)) := rfl
@[simp] theorem isT_bi {a : Int} : isT "bool" (.int a) = .ok (.fro (.bl false)) := rfl
@[simp] theorem isT_bb {a : Bool} : isT "bool" (.bl a) = .ok (.fro (.bl true)) := rfl
@[simp] theorem isT_tt {a : List D} : isT "tuple" (.tup a) = .ok (.fro (.bl true)) := rfl
theorem bools_map {ι : Type} {p : ι → Bool} : ∀ xs : List ι, bools (xs.map fun x => .bl (p x)) = some (xs.map p)
  | [] => rfl
  | x :: xs => by
    show (bools (xs.map fun x => .bl (p x))).map (p x :: ·) = _
    rw [bools_map xs]; rfl
@[simp] theorem allD_map {ι : Type} {p : ι → Bool} {xs : List ι} : allD [.lst (xs.map fun x => .bl (p x))] = .ok (.fro (.bl (xs.all p))) := by
  show (match bools (xs.map fun x => .bl (p x)) with | some bs => okB (bs.all id) | none => .stuck) = _
  rw [bools_map]
  simp [okB, List.all_map]
theorem strsOf_map {ι : Type} {p : ι → Str} : ∀ xs : List ι, strsOf (xs.map fun x => .str (p x)) = some (xs.map p)
  | [] => rfl
  | x :: xs => by
    show (strsOf (xs.map fun x => .str (p x))).map (p x :: ·) = _
    rw [strsOf_map xs]; rfl
def lcTurn (vs : List Nat) (g : GF) (t : TF) (elt : EF) (d : D) (ds : DS) : R (Option D × DS) := (noE (g d (wipeD ds vs))).bind fun ds1 => (noE (t ds1)).bind fun (p : Bool × DS) => if p.1 then
      (noE (elt p.2)).bind fun (q : Rv × DS) => (take q.2 q.1).bind fun (z : D × DS) => .ok (some z.1, restore z.2 ds vs)
    else .ok (none, restore p.2 ds vs)
section
variable {vs : List Nat} {g : GF} {t : TF} {elt : EF} {body : SF}
theorem lcGo_turn {d : D} {r : List D} {ds ds' : DS} {acc : List D} {o : Option D} (h : lcTurn vs g t elt d ds = .ok (o, ds')) (hl : acc.length ≤ cap) : lcGo vs g t elt (d :: r) ds acc = lcGo vs g t elt r ds' (acc ++ o.toList) := by
  unfold lcTurn at h
  show (noE (g d (wipeD ds vs))).bind _ = _
  cases e1 : noE (g d (wipeD ds vs)) with
  | ok ds1 =>
    rw [e1] at h
    simp only [bind_ok'] at h ⊢
    cases e2 : noE (t ds1) with
    | ok p =>
      rw [e2] at h
      simp only [bind_ok'] at h ⊢
      by_cases hp : p.1 = true
      · rw [if_pos hp] at h ⊢
        cases e3 : noE (elt p.2) with
        | ok q =>
          rw [e3] at h
          simp only [bind_ok'] at h ⊢
          cases e4 : take q.2 q.1 with
          | ok z =>
            rw [e4] at h
            simp only [bind_ok'] at h ⊢
            cases h
            rw [if_pos hl]; rfl
          | err _ _ _ _ => rw [e4] at h; cases h
          | stuck => rw [e4] at h; cases h
        | err _ _ _ _ => rw [e3] at h; cases h
        | stuck => rw [e3] at h; cases h
      · rw [if_neg hp] at h ⊢
        cases h
        simp
    | err _ _ _ _ => rw [e2] at h; cases h
    | stuck => rw [e2] at h; cases h
  | err _ _ _ _ => rw [e1] at h; cases h
  | stuck => rw [e1] at h; cases h
theorem lc_pure {f : D → Option D} {ds : DS} : ∀ {xs acc : List D}, (∀ d ∈ xs, lcTurn vs g t elt d ds = .ok (f d, ds)) → acc.length + xs.length ≤ cap → lcGo vs g t elt xs ds acc = .ok (acc ++ xs.filterMap f, ds)
  | [], acc, _, _ => by simp [lcGo]
  | d :: r, acc, h, hl => by
    have hl : acc.length + (r.length + 1) ≤ cap := hl
    rw [lcGo_turn (h d (List.mem_cons_self ..)) (by omega), lc_pure (fun x hx => h x (List.mem_cons_of_mem _ hx)) (by
      cases f d <;> simp <;> omega)]
    cases q : f d <;> simp [q]
theorem lc_map {f : D → D} {ds : DS} {xs : List D} (h : ∀ d ∈ xs, lcTurn vs g t elt d ds = .ok (some (f d), ds)) (hl : xs.length ≤ cap) : lcGo vs g t elt xs ds [] = .ok (xs.map f, ds) := by
  rw [lc_pure (f := fun d => some (f d)) h (by simpa using hl)]
  simp
theorem lc_ind {J : List D → DS → List D → Prop} (step : ∀ d r ds acc, J (d :: r) ds acc → ∃ o ds', lcTurn vs g t elt d ds = .ok (o, ds') ∧ acc.length ≤ cap ∧ J r ds' (acc ++ o.toList)) :
    ∀ {xs : List D} {ds : DS} {acc : List D}, J xs ds acc → ∃ out ds', lcGo vs g t elt xs ds acc = .ok (out, ds') ∧ J [] ds' out
  | [], ds, acc, h => ⟨acc, ds, rfl, h⟩
  | d :: r, ds, acc, h => by
    obtain ⟨o, ds', e, hl, h'⟩ := step d r ds acc h
    rw [lcGo_turn e hl]
    exact lc_ind step h'
theorem lc_maps {ι : Type} {h : ι → D} {f : ι → D} {ds : DS} {xs : List ι} (H : ∀ x ∈ xs, lcTurn vs g t elt (h x) ds = .ok (some (f x), ds)) (hl : xs.length ≤ cap) : lcGo vs g t elt (xs.map h) ds [] = .ok (xs.map f, ds) := by
  have : ∀ {xs : List ι} {acc : List D}, (∀ x ∈ xs, lcTurn vs g t elt (h x) ds = .ok (some (f x), ds)) → acc.length + xs.length ≤ cap → lcGo vs g t elt (xs.map h) ds acc = .ok (acc ++ xs.map f, ds) := by
    intro xs
    induction xs with
    | nil => intro acc _ _; simp [lcGo]
    | cons x xs ih =>
      intro acc H hl
      have hl : acc.length + (xs.length + 1) ≤ cap := hl
      rw [List.map_cons, lcGo_turn (H x (List.mem_cons_self ..)) (by omega), ih (fun y hy => H y (List.mem_cons_of_mem _ hy)) (by simp; omega)]
      simp
  simpa using this (acc := []) H (by simpa using hl)
theorem lc_filt {ι : Type} {h : ι → D} {f : ι → Option D} {ds : DS} {xs : List ι} (H : ∀ x ∈ xs, lcTurn vs g t elt (h x) ds = .ok (f x, ds)) (hl : xs.length ≤ cap) : lcGo vs g t elt (xs.map h) ds [] = .ok (xs.filterMap f, ds) := by
  have : ∀ {xs : List ι} {acc : List D}, (∀ x ∈ xs, lcTurn vs g t elt (h x) ds = .ok (f x, ds)) → acc.length + xs.length ≤ cap → lcGo vs g t elt (xs.map h) ds acc = .ok (acc ++ xs.filterMap f, ds) := by
    intro xs
    induction xs with
    | nil => intro acc _ _; simp [lcGo]
    | cons x xs ih =>
      intro acc H hl
      have hl : acc.length + (xs.length + 1) ≤ cap := hl
      rw [List.map_cons, lcGo_turn (H x (List.mem_cons_self ..)) (by omega), ih (fun y hy => H y (List.mem_cons_of_mem _ hy)) (by cases f x <;> simp <;> omega)]
      cases q : f x <;> simp [q]
  simpa using this (acc := []) H (by simpa using hl)
def forT (g : GF) (body : SF) (d : D) (ds : DS) : Rs := (noE (g d ds)).toS body
theorem forGo_turn {d : D} {r : List D} {ds ds' : DS} (h : forT g body d ds = .nx ds') : forGo g body (d :: r) ds = forGo g body r ds' := by
  unfold forT at h
  cases ds with
  | nil =>
    show (match g d [] with | .ok ds1 => _ | _ => _) = _
    cases e : g d [] with
    | ok ds1 =>
      rw [e] at h
      simp only [noE_ok, toS_ok'] at h
      show (match body ds1 with | .nx _ => _ | .ct _ => _ | .bk _ => _ | .rt _ _ => _ | .err _ _ _ _ => _ | .stuck => _) = _
      rw [h]
    | err _ _ _ _ => rw [e] at h; cases h
    | stuck => rw [e] at h; cases h
  | cons s0 ds =>
    rw [forGo_cons]
    cases e : noE (g d (s0 :: ds)) with
    | ok ds1 =>
      rw [e] at h
      simp only [toS_ok'] at h ⊢
      rw [h]; rfl
    | err _ _ _ _ => rw [e] at h; cases h
    | stuck => rw [e] at h; cases h
theorem for_ind {J : List D → DS → Prop} (step : ∀ d r ds, J (d :: r) ds → ∃ ds', forT g body d ds = .nx ds' ∧ J r ds') : ∀ {xs : List D} {ds : DS}, J xs ds → ∃ ds', forGo g body xs ds = .nx ds' ∧ J [] ds'
  | [], ds, h => ⟨ds, rfl, h⟩
  | d :: r, ds, h => by
    obtain ⟨ds', e, h'⟩ := step d r ds h
    rw [forGo_turn e]
    exact for_ind step h'
theorem while_ind {J : DS → Prop} {m : DS → Nat} {Q : DS → Prop} (step : ∀ ds, J ds → (∃ ds', t ds = .ok (false, ds') ∧ Q ds') ∨ ∃ ds1 ds2, t ds = .ok (true, ds1) ∧ body ds1 = .nx ds2 ∧ J ds2 ∧ m ds2 < m ds) :
    ∀ {n : Nat} {ds : DS}, J ds → m ds < n → ∃ ds', whileGo t body n ds = .nx ds' ∧ Q ds'
  | 0, ds, _, h => absurd h (Nat.not_lt_zero _)
  | n + 1, ds, hj, hm => by
    rcases step ds hj with ⟨ds', e, q⟩ | ⟨ds1, ds2, e1, e2, hj', hm'⟩
    · refine ⟨ds', ?_, q⟩
      show (match t ds with | .ok (true, _) => _ | .ok (false, _) => _ | .err _ _ _ _ => _ | .stuck => _) = _
      rw [e]
    · obtain ⟨ds', e, q⟩ := while_ind step (n := n) hj' (by omega)
      refine ⟨ds', ?_, q⟩
      show (match t ds with | .ok (true, _) => _ | .ok (false, _) => _ | .err _ _ _ _ => _ | .stuck => _) = _
      rw [e1]
      show (match body ds1 with | .nx _ => _ | .ct _ => _ | .bk _ => _ | .rt _ _ => _ | .err _ _ _ _ => _ | .stuck => _) = _
      rw [e2]
      exact e
end
end DL
set_option maxHeartbeats 4000000
namespace K23
open PySem PySem.Spec PyProof.Rows L2 DL
def m_Machine_letters : SF := (sRet (eFld [1, 2] "own_letters" (eVar 0)))
def G_Machine_letters : FnF := fnB 1 0 m_Machine_letters
def F_Machine_letters : FnF := fnN 1 (fnB 1 0 m_Machine_letters)
def m_Machine_states : SF := (sRet (eFld [1, 2] "own_states" (eVar 0)))
def G_Machine_states : FnF := fnB 1 0 m_Machine_states
def F_Machine_states : FnF := fnN 1 (fnB 1 0 m_Machine_states)
def m_Machine_move : SF := (sRet (eIf (tVal (e2 (isN false) (eVar 1) (eC .non))) (eC .non) (e2 ixD (e2 ixD (e2 ixD (eProp [(1, G_Machine_states), (2, G_Machine_states)] (eVar 0)) (eVar 1)) (eC (.int 1))) (eS1 findD (eProp [(1, G_Machine_letters), (2, G_Machine_letters)] (eVar 0)) (eVar 2)))))
def G_Machine_move : FnF := fnB 3 0 m_Machine_move
def F_Machine_move : FnF := fnN 3 (fnB 3 0 m_Machine_move)
def L1_Collation_ranks : SF := (sSeq (sAsgG (e2 ixD (eProp [(1, G_Machine_states)] (eVar 0)) (eVar 4)) (gTupD 2 (gsCons (gN 5) (gsCons (gN 6) gsNil)))) (sSeq (sExpr (eMut appD (eVar 3) (aCons (eS1 indexD (eVar 5) (eVar 2)) aNil))) (sIf (tVal (e2 neR (eVar 2) (eC (.str ".")))) (sAsg 4 (eMeth [(1, F_Machine_move)] "move" (eVar 0) (aCons (eVar 4) (aCons (eVar 2) aNil)))) sNil)))
def m_Collation_ranks : SF := (sSeq (sPar 3 4 (aCons (eLst aNil) (aCons (eC (.int 0)) aNil))) (sSeq (sFor (iE (e2 addD (eVar 1) (eC (.str ".")))) (gN 2) L1_Collation_ranks) (sRet (eCB tupleD (aCons (eVar 3) aNil)))))
def G_Collation_ranks : FnF := fnB 2 5 m_Collation_ranks
def F_Collation_ranks : FnF := fnN 2 (fnB 2 5 m_Collation_ranks)
def m_Upgrade_new : SF := (sRet (eFld [3] "own_new" (eVar 0)))
def G_Upgrade_new : FnF := fnB 1 0 m_Upgrade_new
def F_Upgrade_new : FnF := fnN 1 (fnB 1 0 m_Upgrade_new)
def m_Upgrade_old : SF := (sRet (eFld [3] "own_old" (eVar 0)))
def G_Upgrade_old : FnF := fnB 1 0 m_Upgrade_old
def F_Upgrade_old : FnF := fnN 1 (fnB 1 0 m_Upgrade_old)
def m_Upgrade_are_flipped : SF := (sRet (e2 neR (e2 ltR (eMeth [(1, F_Collation_ranks)] "ranks" (eProp [(3, G_Upgrade_old)] (eVar 0)) (aCons (eVar 1) aNil)) (eMeth [(1, F_Collation_ranks)] "ranks" (eProp [(3, G_Upgrade_old)] (eVar 0)) (aCons (eVar 2) aNil))) (e2 ltR (eMeth [(1, F_Collation_ranks)] "ranks" (eProp [(3, G_Upgrade_new)] (eVar 0)) (aCons (eVar 1) aNil)) (eMeth [(1, F_Collation_ranks)] "ranks" (eProp [(3, G_Upgrade_new)] (eVar 0)) (aCons (eVar 2) aNil)))))
def G_Upgrade_are_flipped : FnF := fnB 3 0 m_Upgrade_are_flipped
def F_Upgrade_are_flipped : FnF := fnN 3 (fnB 3 0 m_Upgrade_are_flipped)
def m_Language_is_live : SF := (sRet (eAnd2 (e2 (isN true) (eVar 1) (eC .non)) (e2 (isN true) (e2 ixD (eFld [2] "tails" (eVar 0)) (eVar 1)) (eC .non))))
def G_Language_is_live : FnF := fnB 2 0 m_Language_is_live
def F_Language_is_live : FnF := fnN 2 (fnB 2 0 m_Language_is_live)
def E1_Language_options_at : EF := (eVar 3)
def T1_Language_options_at : TF := (tVal (eMeth [(2, F_Language_is_live)] "is_live" (eVar 0) (aCons (eMeth [(2, F_Machine_move)] "move" (eVar 0) (aCons (eVar 1) (aCons (eVar 3) aNil))) aNil)))
def m_Language_options_at : SF := (sSeq (sIf (tNot1 (tVal (eMeth [(2, F_Language_is_live)] "is_live" (eVar 0) (aCons (eVar 1) aNil)))) (sRet (eC (.str ""))) sNil) (sSeq (sAsg 2 (eIf (tVal (e2 ixD (e2 ixD (eProp [(2, G_Machine_states)] (eVar 0)) (eVar 1)) (eC (.int 0)))) (eC (.str ".")) (eC (.str "")))) (sRet (e2 addD (eVar 2) (eS1 joinD (eC (.str "")) (eLc [3] (iE (eProp [(2, G_Machine_letters)] (eVar 0))) (gN 3) T1_Language_options_at E1_Language_options_at))))))
def G_Language_options_at : FnF := fnB 2 2 m_Language_options_at
def F_Language_options_at : FnF := fnN 2 (fnB 2 2 m_Language_options_at)
def L1_Machine_state_behind : SF := (sAsg 2 (eMeth [(1, F_Machine_move), (2, F_Machine_move)] "move" (eVar 0) (aCons (eVar 2) (aCons (eVar 3) aNil))))
def m_Machine_state_behind : SF := (sSeq (sAsg 2 (eC (.int 0))) (sSeq (sFor (iE (eVar 1)) (gN 3) L1_Machine_state_behind) (sRet (eVar 2))))
def G_Machine_state_behind : FnF := fnB 2 2 m_Machine_state_behind
def F_Machine_state_behind : FnF := fnN 2 (fnB 2 2 m_Machine_state_behind)
def m_Language_has : SF := (sRet (e2 (inR false) (eC (.str ".")) (eMeth [(2, F_Language_options_at)] "options_at" (eVar 0) (aCons (eMeth [(2, F_Machine_state_behind)] "state_behind" (eVar 0) (aCons (eVar 1) aNil)) aNil))))
def G_Language_has : FnF := fnB 2 0 m_Language_has
def F_Language_has : FnF := fnN 2 (fnB 2 0 m_Language_has)
def E1_is_text : EF := (e2 (inR false) (eVar 2) (eVar 1))
def m_is_text : SF := (sRet (eAnd2 (eIsT "str" (eVar 0)) (eCB allD (aCons (eLc [2] (iE (eVar 0)) (gN 2) tTrue E1_is_text) aNil))))
def G_is_text : FnF := fnB 2 1 m_is_text
def F_is_text : FnF := fnN 2 (fnB 2 1 m_is_text)
def m_may_be_passed : SF := (sRet (eAnd2 (eCallV F_is_text (aCons (eVar 0) (aCons (eVar 1) aNil))) (e2 leR (eCB lenD (aCons (eVar 0) aNil)) (eC (.int 400)))))
def G_may_be_passed : FnF := fnB 2 0 m_may_be_passed
def F_may_be_passed : FnF := fnN 2 (fnB 2 0 m_may_be_passed)
def m_Machine_need_text : SF := (sIf (tNot1 (tVal (eCallV F_may_be_passed (aCons (eVar 1) (aCons (eProp [(1, G_Machine_letters), (2, G_Machine_letters)] (eVar 0)) aNil))))) sNever sNil)
def G_Machine_need_text : FnF := fnB 2 0 m_Machine_need_text
def F_Machine_need_text : FnF := fnN 2 (fnB 2 0 m_Machine_need_text)
def m_Upgrade_language : SF := (sRet (eFld [3] "own_language" (eVar 0)))
def G_Upgrade_language : FnF := fnB 1 0 m_Upgrade_language
def F_Upgrade_language : FnF := fnN 1 (fnB 1 0 m_Upgrade_language)
def m_Upgrade_need_text : SF := (sSeq (sExpr (eMeth [(2, F_Machine_need_text)] "need_text" (eProp [(3, G_Upgrade_language)] (eVar 0)) (aCons (eVar 1) aNil))) (sIf (tNot1 (tVal (eMeth [(2, F_Language_has)] "has" (eProp [(3, G_Upgrade_language)] (eVar 0)) (aCons (eVar 1) aNil)))) sNever sNil))
def G_Upgrade_need_text : FnF := fnB 2 0 m_Upgrade_need_text
def F_Upgrade_need_text : FnF := fnN 2 (fnB 2 0 m_Upgrade_need_text)
def m_Upgrade_flips : SF := (sSeq (sExpr (eMeth [(3, F_Upgrade_need_text)] "need_text" (eVar 0) (aCons (eVar 1) aNil))) (sSeq (sExpr (eMeth [(3, F_Upgrade_need_text)] "need_text" (eVar 0) (aCons (eVar 2) aNil))) (sRet (eMeth [(3, F_Upgrade_are_flipped)] "are_flipped" (eVar 0) (aCons (eVar 1) (aCons (eVar 2) aNil))))))
def G_Upgrade_flips : FnF := fnB 3 0 m_Upgrade_flips
def F_Upgrade_flips : FnF := fnN 3 (fnB 3 0 m_Upgrade_flips)
def m__law_bag : SF := (sSeq (sAsg 2 (eIf (tVal (e2 ltR (eVar 1) (eCB lenD (aCons (eVar 0) aNil)))) (e2 ixD (eVar 0) (eVar 1)) (eC (.int 0)))) (sSeq (sAsg 3 (eIf (tVal (e2 geR (eCB absD (aCons (eVar 2) aNil)) (e2 powD (eC (.int 10)) (eC (.int 18))))) (eCB absD (aCons (eVar 2) aNil)) (eC (.int 0)))) (sRet (eLst (aCons (eVar 3) (aCons (e2 modD (e2 mulD2 (eCB intD2 (aCons (e2 addD (e2 addD (e2 modD (eCB intD2 (aCons (eVar 2) aNil)) (eC (.int 2305843009213693951))) (e2 mulD2 (eC (.int 6007)) (eVar 1))) (eC (.int 94))) aNil)) (eC (.int 6364137))) (eC (.int 2305843009213693951))) (aCons (eC (.int 0)) aNil)))))))
def G__law_bag : FnF := fnB 2 2 m__law_bag
def F__law_bag : FnF := fnN 2 (fnB 2 2 m__law_bag)
def m__law_take : SF := (sSeq (sIf (tVal (e2 gtR (e2 ixD (eVar 0) (eC (.int 0))) (eC (.int 0)))) (sSeq (sAsg 3 (e2 modD (eCB intD2 (aCons (e2 ixD (eVar 0) (eC (.int 0))) aNil)) (eVar 1))) (sSeq (sSetIx (eVar 0) (eC (.int 0)) (e2 fdivD (e2 ixD (eVar 0) (eC (.int 0))) (eVar 1))) (sRet (eVar 3)))) sNil) (sSeq (sSetIx (eVar 0) (eC (.int 2)) (e2 addD (e2 ixD (eVar 0) (eC (.int 2))) (eC (.int 1)))) (sSeq (sAsg 2 (e2 modD (eCB intD2 (aCons (e2 powD (e2 addD (e2 ixD (eVar 0) (eC (.int 1))) (e2 mulD2 (eC (.int 1000099)) (e2 ixD (eVar 0) (eC (.int 2))))) (eC (.int 3))) aNil)) (eC (.int 2305843009213693921)))) (sSeq (sAsg 2 (e2 modD (eCB intD2 (aCons (e2 powD (e2 addD (eVar 2) (e2 mulD2 (eC (.int 179424691)) (e2 ixD (eVar 0) (eC (.int 2))))) (eC (.int 2))) aNil)) (eC (.int 2305843009213693951)))) (sRet (e2 modD (eCB intD2 (aCons (e2 fdivD (eVar 2) (eC (.int 4096))) aNil)) (eVar 1)))))))
def G__law_take : FnF := fnB 2 2 m__law_take
def F__law_take : FnF := fnN 2 (fnB 2 2 m__law_take)
def E2__law_language : EF := (eIf (tVal (e2 eqR (eCallV F__law_take (aCons (eVar 0) (aCons (eC (.int 5)) aNil))) (eC (.int 0)))) (eC .non) (eCallV F__law_take (aCons (eVar 0) (aCons (eVar 2) aNil))))
def L1__law_language : SF := (sSeq (sAsg 5 (eLc [6] (iE (eVar 1)) (gN 6) tTrue E2__law_language)) (sExpr (eMut appD (eVar 3) (aCons (eTup (aCons (e2 gtR (eCallV F__law_take (aCons (eVar 0) (aCons (eC (.int 3)) aNil))) (eC (.int 0))) (aCons (eCB tupleD (aCons (eVar 5) aNil)) aNil))) aNil))))
def m__law_language : SF := (sSeq (sAsg 3 (eLst aNil)) (sSeq (sFor (iR1 (aCons (eVar 2) aNil)) (gN 4) L1__law_language) (sRet (eVar 3))))
def G__law_language : FnF := fnB 3 4 m__law_language
def F__law_language : FnF := fnN 3 (fnB 3 4 m__law_language)
def L1__law_near : SF := (sSeq (sAsg 5 (eCallV F__law_take (aCons (eVar 0) (aCons (eCB lenD (aCons (eVar 3) aNil)) aNil)))) (sSeq (sAsgG (e2 ixD (eVar 3) (eVar 5)) (gTupD 2 (gsCons (gN 8) (gsCons (gN 9) gsNil)))) (sSeq (sAsg 6 (eCallV F__law_take (aCons (eVar 0) (aCons (e2 subD (eCB lenD (aCons (eVar 8) aNil)) (eC (.int 1))) aNil)))) (sSeq (sAsg 7 (eRevS (eSl (eVar 8) (oInt (eVar 6)) (oInt (e2 addD (eVar 6) (eC (.int 2))))))) (sSetIx (eVar 3) (eVar 5) (eTup (aCons (e2 addD (e2 addD (eSl (eVar 8) oNo (oInt (eVar 6))) (eVar 7)) (eSl (eVar 8) (oInt (e2 addD (eVar 6) (eC (.int 2)))) oNo)) (aCons (eVar 9) aNil))))))))
def m__law_near : SF := (sSeq (sAsg 3 (eCB listD (aCons (eVar 1) aNil))) (sSeq (sFor (iR1 (aCons (eCallV F__law_take (aCons (eVar 0) (aCons (e2 addD (eVar 2) (eC (.int 1))) aNil))) aNil)) (gN 4) L1__law_near) (sRet (eVar 3))))
def G__law_near : FnF := fnB 3 7 m__law_near
def F__law_near : FnF := fnN 3 (fnB 3 7 m__law_near)
def m__law_of : SF := (sRet (e2 ixD (eVar 1) (eCallV F__law_take (aCons (eVar 0) (aCons (eCB lenD (aCons (eVar 1) aNil)) aNil)))))
def G__law_of : FnF := fnB 2 0 m__law_of
def F__law_of : FnF := fnN 2 (fnB 2 0 m__law_of)
def L1__law_shuffled : SF := (sExpr (eMut appD (eVar 3) (aCons (eMut popD (eVar 2) (aCons (eCallV F__law_take (aCons (eVar 0) (aCons (eCB lenD (aCons (eVar 2) aNil)) aNil))) aNil)) aNil)))
def m__law_shuffled : SF := (sSeq (sPar 2 3 (aCons (eCB listD (aCons (eVar 1) aNil)) (aCons (eLst aNil) aNil))) (sSeq (sWhile (tVal (e2 neR (eVar 2) (eLst aNil))) L1__law_shuffled) (sRet (eVar 3))))
def G__law_shuffled : FnF := fnB 2 2 m__law_shuffled
def F__law_shuffled : FnF := fnN 2 (fnB 2 2 m__law_shuffled)
def E2__law_order : EF := (eCallV F__law_take (aCons (eVar 0) (aCons (eVar 2) aNil)))
def L1__law_order : SF := (sSeq (sAsg 5 (eCB tupleD (aCons (eLc [6] (iE (eVar 1)) (gN 6) tTrue E2__law_order) aNil))) (sExpr (eMut appD (eVar 3) (aCons (eTup (aCons (eS1 joinD (eC (.str "")) (eCallV F__law_shuffled (aCons (eVar 0) (aCons (e2 addD (eVar 1) (eC (.str "."))) aNil)))) (aCons (eVar 5) aNil))) aNil))))
def m__law_order : SF := (sSeq (sAsg 3 (eLst aNil)) (sSeq (sFor (iR1 (aCons (eVar 2) aNil)) (gN 4) L1__law_order) (sRet (eVar 3))))
def G__law_order : FnF := fnB 3 4 m__law_order
def F__law_order : FnF := fnN 3 (fnB 3 4 m__law_order)
def m__law_drawn : SF := (sSeq (sAsg 2 (eCallV F__law_of (aCons (eVar 0) (aCons (eLst (aCons (eC (.str "a")) (aCons (eC (.str "ab")) (aCons (eC (.str "ab")) (aCons (eC (.str "ab")) (aCons (eC (.str "abc")) (aCons (eC (.str "bcz")) (aCons (eC (.str "ax")) (aCons (eC (.str "abcdef")) aNil))))))))) aNil)))) (sSeq (sAsg 3 (eIf (tVal (e2 eqR (eCB lenD (aCons (eVar 2) aNil)) (eC (.int 6)))) (eC (.int 6)) (eVar 1))) (sSeq (sPar 5 6 (aCons (eCallV F__law_order (aCons (eVar 0) (aCons (eVar 2) (aCons (e2 addD (eC (.int 1)) (eCallV F__law_take (aCons (eVar 0) (aCons (eVar 3) aNil)))) aNil)))) (aCons (eLst (aCons (eTup (aCons (eC (.bl true)) (aCons (e2 mulD2 (eTup (aCons (eC (.int 0)) aNil)) (eCB lenD (aCons (eVar 2) aNil))) aNil))) aNil)) aNil))) (sSeq (sAsg 4 (eCallV F__law_near (aCons (eVar 0) (aCons (eVar 5) (aCons (eC (.int 3)) aNil))))) (sSeq (sIf (tVal (e2 eqR (eCallV F__law_take (aCons (eVar 0) (aCons (eC (.int 3)) aNil))) (eC (.int 0)))) (sAsg 4 (eCallV F__law_order (aCons (eVar 0) (aCons (eVar 2) (aCons (e2 addD (eC (.int 1)) (eCallV F__law_take (aCons (eVar 0) (aCons (eVar 3) aNil)))) aNil))))) sNil) (sSeq (sIf (tVal (e2 gtR (eCallV F__law_take (aCons (eVar 0) (aCons (eC (.int 3)) aNil))) (eC (.int 0)))) (sAsg 6 (eCallV F__law_language (aCons (eVar 0) (aCons (eVar 2) (aCons (e2 addD (eC (.int 1)) (eCallV F__law_take (aCons (eVar 0) (aCons (eVar 3) aNil)))) aNil))))) sNil) (sRet (eTup (aCons (eVar 2) (aCons (eVar 5) (aCons (eVar 4) (aCons (eVar 6) aNil))))))))))))
def G__law_drawn : FnF := fnB 2 5 m__law_drawn
def F__law_drawn : FnF := fnN 2 (fnB 2 5 m__law_drawn)
def L1__law_key : SF := (sSeq (sExpr (eMut appD (eVar 4) (aCons (eS1 indexD (e2 ixD (e2 ixD (eVar 1) (eVar 5)) (eC (.int 0))) (eVar 3)) aNil))) (sIf (tVal (e2 neR (eVar 3) (eC (.str ".")))) (sAsg 5 (e2 ixD (e2 ixD (e2 ixD (eVar 1) (eVar 5)) (eC (.int 1))) (eS1 indexD (eVar 0) (eVar 3)))) sNil))
def m__law_key : SF := (sSeq (sPar 4 5 (aCons (eLst aNil) (aCons (eC (.int 0)) aNil))) (sSeq (sFor (iE (e2 addD (eVar 2) (eC (.str ".")))) (gN 3) L1__law_key) (sRet (eVar 4))))
def G__law_key : FnF := fnB 3 3 m__law_key
def F__law_key : FnF := fnN 3 (fnB 3 3 m__law_key)
def m__law_flips : SF := (sSeq (sAsgG (eVar 0) (gTupD 4 (gsCons (gN 4) (gsCons (gN 5) (gsCons (gN 6) (gsCons (gN 7) gsNil)))))) (sSeq (sAsg 3 (e2 ltR (eCallV F__law_key (aCons (eVar 4) (aCons (eVar 5) (aCons (eVar 1) aNil)))) (eCallV F__law_key (aCons (eVar 4) (aCons (eVar 5) (aCons (eVar 2) aNil)))))) (sRet (e2 neR (eVar 3) (e2 ltR (eCallV F__law_key (aCons (eVar 4) (aCons (eVar 6) (aCons (eVar 1) aNil)))) (eCallV F__law_key (aCons (eVar 4) (aCons (eVar 6) (aCons (eVar 2) aNil)))))))))
def G__law_flips : FnF := fnB 3 5 m__law_flips
def F__law_flips : FnF := fnN 3 (fnB 3 5 m__law_flips)
def L1_Upgrade_init : SF := (sIf (tVal (e2 neR (eProp [(1, G_Machine_letters), (2, G_Machine_letters)] (eVar 4)) (eProp [(1, G_Machine_letters)] (eVar 1)))) sNever sNil)
def m_Upgrade_init : SF := (sSeq (sFor (iE (eTup (aCons (eVar 2) (aCons (eVar 3) aNil)))) (gN 4) L1_Upgrade_init) (sSeq (sSetFld [3] "own_old" (eVar 0) (eVar 1)) (sSeq (sSetFld [3] "own_new" (eVar 0) (eVar 2)) (sSetFld [3] "own_language" (eVar 0) (eVar 3)))))
def G_Upgrade_init : FnF := fnB 4 1 m_Upgrade_init
def F_Upgrade_init : FnF := fnN 4 (fnB 4 1 m_Upgrade_init)
def E2__law_machine_lines : EF := (eIf (tVal (e2 (isN false) (eVar 7) (eC .non))) (eC (.str "-")) (eCB strD (aCons (eVar 7) aNil)))
def L1__law_machine_lines : SF := (sSeq (sAsg 6 (eIf (tVal (e2 eqR (eVar 0) (eC (.str "order")))) (eVar 4) (e2 ixD (eLst (aCons (eC (.str "no")) (aCons (eC (.str "yes")) aNil))) (eCB intD2 (aCons (eVar 4) aNil))))) (sExpr (eMut appD (eVar 3) (aCons (eS1 joinD (eC (.str " ")) (e2 addD (eLst (aCons (eVar 6) aNil)) (eLc [7] (iE (eVar 5)) (gN 7) tTrue E2__law_machine_lines))) aNil))))
def m__law_machine_lines : SF := (sSeq (sAsg 3 (eLst (aCons (e2 addD (e2 addD (eVar 0) (eC (.str " "))) (eVar 1)) aNil))) (sSeq (sFor (iE (eVar 2)) (gTupD 2 (gsCons (gN 4) (gsCons (gN 5) gsNil))) L1__law_machine_lines) (sRet (eS1 joinD (eC (.str "\n")) (eVar 3)))))
def G__law_machine_lines : FnF := fnB 3 5 m__law_machine_lines
def F__law_machine_lines : FnF := fnN 3 (fnB 3 5 m__law_machine_lines)
def m_Collation_is_mark : SF := (sRet (eAnd2 (eIsT "str" (eVar 1)) (e2 eqR (eCB sortedD (aCons (eVar 1) aNil)) (eCB sortedD (aCons (e2 addD (eProp [(1, G_Machine_letters)] (eVar 0)) (eC (.str "."))) aNil)))))
def G_Collation_is_mark : FnF := fnB 2 0 m_Collation_is_mark
def F_Collation_is_mark : FnF := fnN 2 (fnB 2 0 m_Collation_is_mark)
def m_Language_is_mark : SF := (sRet (eIsT "bool" (eVar 1)))
def G_Language_is_mark : FnF := fnB 2 0 m_Language_is_mark
def F_Language_is_mark : FnF := fnN 2 (fnB 2 0 m_Language_is_mark)
def m_is_integer : SF := (sRet (eAnd2 (eIsT "int" (eVar 0)) (eNot1 (eIsT "bool" (eVar 0)))))
def G_is_integer : FnF := fnB 1 0 m_is_integer
def F_is_integer : FnF := fnN 1 (fnB 1 0 m_is_integer)
def m_Machine_is_move : SF := (sRet (eAnd2 (eCallV F_is_integer (aCons (eVar 1) aNil)) (e3 leR ltR (eC (.int 0)) (eVar 1) (eCB lenD (aCons (eProp [(1, G_Machine_states), (2, G_Machine_states)] (eVar 0)) aNil)))))
def G_Machine_is_move : FnF := fnB 2 0 m_Machine_is_move
def F_Machine_is_move : FnF := fnN 2 (fnB 2 0 m_Machine_is_move)
def m_Language_is_move : SF := (sSeq (sRet (eOr2 (e2 (isN false) (eVar 1) (eC .non)) (eSup [2] F_Machine_is_move (aCons (eVar 1) aNil)))) sNil)
def G_Language_is_move : FnF := fnB 2 1 m_Language_is_move
def F_Language_is_move : FnF := fnN 2 (fnB 2 1 m_Language_is_move)
def E1_Machine_is_state : EF := (eMeth [(1, F_Machine_is_move), (2, F_Language_is_move)] "is_move" (eVar 0) (aCons (eVar 3) aNil))
def m_Machine_is_state : SF := (sSeq (sIf (tOr2 (tNot1 (tVal (eIsT "tuple" (eVar 1)))) (tOr2 (tVal (e2 neR (eCB lenD (aCons (eVar 1) aNil)) (eC (.int 2)))) (tNot1 (tVal (eMeth [(1, F_Collation_is_mark), (2, F_Language_is_mark)] "is_mark" (eVar 0) (aCons (e2 ixD (eVar 1) (eC (.int 0))) aNil)))))) (sRet (eC (.bl false))) sNil) (sSeq (sAsg 2 (e2 ixD (eVar 1) (eC (.int 1)))) (sSeq (sIf (tOr2 (tNot1 (tVal (eIsT "tuple" (eVar 2)))) (tVal (e2 neR (eCB lenD (aCons (eVar 2) aNil)) (eCB lenD (aCons (eProp [(1, G_Machine_letters), (2, G_Machine_letters)] (eVar 0)) aNil))))) (sRet (eC (.bl false))) sNil) (sRet (eCB allD (aCons (eLc [3] (iE (eVar 2)) (gN 3) tTrue E1_Machine_is_state) aNil))))))
def G_Machine_is_state : FnF := fnB 2 2 m_Machine_is_state
def F_Machine_is_state : FnF := fnN 2 (fnB 2 2 m_Machine_is_state)
def E1_is_letters : EF := (e3 leR leR (eC (.str "a")) (eVar 1) (eC (.str "z")))
def E2_is_letters : EF := (e2 ltR (eVar 2) (eVar 3))
def m_is_letters : SF := (sSeq (sIf (tOr2 (tNot1 (tVal (eIsT "str" (eVar 0)))) (tNot1 (tVal (e3 leR leR (eC (.int 1)) (eCB lenD (aCons (eVar 0) aNil)) (eC (.int 6)))))) (sRet (eC (.bl false))) sNil) (sSeq (sIf (tNot1 (tVal (eCB allD (aCons (eLc [1] (iE (eVar 0)) (gN 1) tTrue E1_is_letters) aNil)))) (sRet (eC (.bl false))) sNil) (sRet (eCB allD (aCons (eLc [2, 3] (iZip (aCons (eVar 0) (aCons (eSl (eVar 0) (oInt (eC (.int 1))) oNo) aNil))) (gTupD 2 (gsCons (gN 2) (gsCons (gN 3) gsNil))) tTrue E2_is_letters) aNil)))))
def G_is_letters : FnF := fnB 1 3 m_is_letters
def F_is_letters : FnF := fnN 1 (fnB 1 3 m_is_letters)
def L1_Machine_init : SF := (sIf (tNot1 (tVal (eMeth [(1, F_Machine_is_state), (2, F_Machine_is_state)] "is_state" (eVar 0) (aCons (eVar 4) aNil)))) sNever sNil)
def m_Machine_init : SF := (sSeq (sIf (tNot1 (tVal (eCallV F_is_letters (aCons (eVar 1) aNil)))) sNever sNil) (sSeq (sIf (tNot1 (tVal (e3 leR leR (eC (.int 1)) (eCB lenD (aCons (eVar 2) aNil)) (eC (.int 6))))) sNever sNil) (sSeq (sSetFld [1, 2] "own_letters" (eVar 0) (eVar 1)) (sSeq (sSetFld [1, 2] "own_states" (eVar 0) (eVar 2)) (sFor (iEnum (aCons (eVar 2) aNil)) (gTupD 2 (gsCons (gN 3) (gsCons (gN 4) gsNil))) L1_Machine_init)))))
def G_Machine_init : FnF := fnB 3 2 m_Machine_init
def F_Machine_init : FnF := starF 2 (fnB 3 2 m_Machine_init)
def m_Collation_init : SF := (sSeq (sExpr (eSup [1] F_Machine_init (aCons (eVar 1) (aStar (eVar 2) aNil)))) sNil)
def G_Collation_init : FnF := fnB 3 1 m_Collation_init
def F_Collation_init : FnF := starF 2 (fnB 3 1 m_Collation_init)
def E1_lines_in : EF := (eS1 splitD (eVar 4) (eC (.str " ")))
def m_lines_in : SF := (sSeq (sIf (tNot1 (tVal (eIsT "str" (eVar 0)))) sNever sNil) (sSeq (sAsgG (eLc [4] (iE (eS1 splitD (eVar 0) (eC (.str "\n")))) (gN 4) tTrue E1_lines_in) (gStarD 2 1 (gsCons (gN 2) (gsCons (gN 3) gsNil)))) (sSeq (sIf (tOr2 (tVal (e2 neR (eCB lenD (aCons (eVar 2) aNil)) (eC (.int 2)))) (tOr2 (tVal (e2 neR (e2 ixD (eVar 2) (eC (.int 0))) (eVar 1))) (tNot1 (tVal (eCallV F_is_letters (aCons (e2 ixD (eVar 2) (eC (.int 1))) aNil)))))) sNever sNil) (sRet (eTup (aCons (e2 ixD (eVar 2) (eC (.int 1))) (aCons (eVar 3) aNil)))))))
def G_lines_in : FnF := fnB 2 3 m_lines_in
def F_lines_in : FnF := fnN 2 (fnB 2 3 m_lines_in)
def E1_number_in : EF := (e2 (inR false) (eVar 2) (eC (.str "0123456789")))
def m_number_in : SF := (sSeq (sIf (tAnd2 (tVal (eVar 1)) (tVal (e2 eqR (eVar 0) (eC (.str "-"))))) (sRet (eTup (aCons (eC .non) aNil))) sNil) (sSeq (sIf (tOr2 (tNot1 (tVal (e3 leR leR (eC (.int 1)) (eCB lenD (aCons (eVar 0) aNil)) (eC (.int 9))))) (tOr2 (tNot1 (tVal (eCB allD (aCons (eLc [2] (iE (eVar 0)) (gN 2) tTrue E1_number_in) aNil)))) (tAnd2 (tVal (e2 eqR (e2 ixD (eVar 0) (eC (.int 0))) (eC (.str "0")))) (tVal (e2 neR (eVar 0) (eC (.str "0"))))))) (sRet (eTup aNil)) sNil) (sRet (eTup (aCons (eCB intD2 (aCons (eVar 0) aNil)) aNil)))))
def G_number_in : FnF := fnB 2 1 m_number_in
def FK_number_in : FnF := fnN 2 (fnB 2 1 m_number_in)
def F_number_in : FnF := fnN 1 (fnD [.bl false] (fnB 2 1 m_number_in))
def E1_moves_in : EF := (eCallV FK_number_in (aApp 1 (aCons (eVar 4) aNil) (aCons (eVar 2) aNil)))
def E2_moves_in : EF := (eVar 5)
def m_moves_in : SF := (sSeq (sAsg 3 (eLc [4] (iE (eVar 0)) (gN 4) tTrue E1_moves_in)) (sRet (eIf (tOr2 (tVal (e2 neR (eCB lenD (aCons (eVar 0) aNil)) (eCB lenD (aCons (eVar 1) aNil)))) (tVal (e2 (inR false) (eTup aNil) (eVar 3)))) (eC .non) (eCB tupleD (aCons (eLc [5] (iE (eVar 3)) (gTupD 1 (gsCons (gN 5) gsNil)) tTrue E2_moves_in) aNil)))))
def G_moves_in : FnF := fnB 3 3 m_moves_in
def FK_moves_in : FnF := fnN 3 (fnB 3 3 m_moves_in)
def F_moves_in : FnF := fnN 2 (fnD [.bl false] (fnB 3 3 m_moves_in))
def L1_read_collation : SF := (sSeq (sAsg 5 (eCallV F_moves_in (aCons (eVar 7) (aCons (eVar 2) aNil)))) (sSeq (sIf (tOr2 (tVal (e2 (isN false) (eVar 5) (eC .non))) (tVal (e2 neR (eCB sortedD (aCons (eVar 6) aNil)) (eCB sortedD (aCons (e2 addD (eVar 2) (eC (.str "."))) aNil))))) sNever sNil) (sExpr (eMut appD (eVar 1) (aCons (eTup (aCons (eVar 6) (aCons (eVar 5) aNil))) aNil)))))
def m_read_collation : SF := (sSeq (sAsgG (eCallV F_lines_in (aCons (eVar 0) (aCons (eC (.str "order")) aNil))) (gTupD 2 (gsCons (gN 2) (gsCons (gN 3) gsNil)))) (sSeq (sAsg 1 (eLst aNil)) (sSeq (sFor (iEnum (aCons (eVar 3) aNil)) (gTupD 2 (gsCons (gN 4) (gsCons (gStarD 2 1 (gsCons (gN 6) (gsCons (gN 7) gsNil))) gsNil))) L1_read_collation) (sRet (eMake 1 F_Collation_init (aCons (eVar 2) (aStar (eVar 1) aNil)))))))
def G_read_collation : FnF := fnB 1 7 m_read_collation
def F_read_collation : FnF := fnN 1 (fnB 1 7 m_read_collation)
def L1_Language_better_tail : SF := (sSeq (sAsg 5 (eMeth [(2, F_Machine_move)] "move" (eVar 0) (aCons (eVar 1) (aCons (eVar 4) aNil)))) (sIf (tAnd2 (tVal (e2 (isN true) (eVar 5) (eC .non))) (tVal (e2 (isN true) (e2 ixD (eVar 2) (eVar 5)) (eC .non)))) (sExpr (eMut appD (eVar 3) (aCons (e2 addD (eVar 4) (e2 ixD (eVar 2) (eVar 5))) aNil))) sNil))
def m_Language_better_tail : SF := (sSeq (sAsg 3 (eIf (tVal (e2 (isN false) (e2 ixD (eVar 2) (eVar 1)) (eC .non))) (eLst aNil) (eLst (aCons (e2 ixD (eVar 2) (eVar 1)) aNil)))) (sSeq (sFor (iE (eProp [(2, G_Machine_letters)] (eVar 0))) (gN 4) L1_Language_better_tail) (sRet (eMinKey (eVar 3)))))
def G_Language_better_tail : FnF := fnB 3 3 m_Language_better_tail
def F_Language_better_tail : FnF := fnN 3 (fnB 3 3 m_Language_better_tail)
def E1_Language_shortest_tails : EF := (eIf (tVal (eVar 5)) (eC (.str "")) (eC .non))
def L3_Language_shortest_tails : SF := (sSeq (sAsg 4 (eMeth [(2, F_Language_better_tail)] "better_tail" (eVar 0) (aCons (eVar 3) (aCons (eVar 1) aNil)))) (sIf (tVal (e2 neR (eVar 4) (e2 ixD (eVar 1) (eVar 3)))) (sSeq (sSetIx (eVar 1) (eVar 3) (eVar 4)) (sAsg 2 (eC (.bl true)))) sNil))
def L2_Language_shortest_tails : SF := (sSeq (sAsg 2 (eC (.bl false))) (sFor (iR1 (aCons (eCB lenD (aCons (eProp [(2, G_Machine_states)] (eVar 0)) aNil)) aNil)) (gN 3) L3_Language_shortest_tails))
def m_Language_shortest_tails : SF := (sSeq (sAsg 1 (eLc [5, 6] (iE (eProp [(2, G_Machine_states)] (eVar 0))) (gTupD 2 (gsCons (gN 5) (gsCons (gN 6) gsNil))) tTrue E1_Language_shortest_tails)) (sSeq (sAsg 2 (eC (.bl true))) (sSeq (sWhile (tVal (eVar 2)) L2_Language_shortest_tails) (sRet (eVar 1)))))
def G_Language_shortest_tails : FnF := fnB 1 6 m_Language_shortest_tails
def F_Language_shortest_tails : FnF := fnN 1 (fnB 1 6 m_Language_shortest_tails)
def m_Language_init : SF := (sSeq (sExpr (eSup [2] F_Machine_init (aCons (eVar 1) (aStar (eVar 2) aNil)))) (sSeq (sSetFld [2] "tails" (eVar 0) (eMeth [(2, F_Language_shortest_tails)] "shortest_tails" (eVar 0) aNil)) sNil))
def G_Language_init : FnF := fnB 3 1 m_Language_init
def F_Language_init : FnF := starF 2 (fnB 3 1 m_Language_init)
def L1_read_language : SF := (sSeq (sAsg 5 (eCallV FK_moves_in (aApp 1 (aCons (eVar 7) (aCons (eVar 2) aNil)) (aCons (eC (.bl true)) aNil)))) (sSeq (sIf (tOr2 (tVal (e2 (isN false) (eVar 5) (eC .non))) (tVal (e2 (inR true) (eVar 6) (eTup (aCons (eC (.str "yes")) (aCons (eC (.str "no")) aNil)))))) sNever sNil) (sExpr (eMut appD (eVar 1) (aCons (eTup (aCons (e2 eqR (eVar 6) (eC (.str "yes"))) (aCons (eVar 5) aNil))) aNil)))))
def m_read_language : SF := (sSeq (sAsgG (eCallV F_lines_in (aCons (eVar 0) (aCons (eC (.str "language")) aNil))) (gTupD 2 (gsCons (gN 2) (gsCons (gN 3) gsNil)))) (sSeq (sAsg 1 (eLst aNil)) (sSeq (sFor (iEnum (aCons (eVar 3) aNil)) (gTupD 2 (gsCons (gN 4) (gsCons (gStarD 2 1 (gsCons (gN 6) (gsCons (gN 7) gsNil))) gsNil))) L1_read_language) (sRet (eMake 2 F_Language_init (aCons (eVar 2) (aStar (eVar 1) aNil)))))))
def G_read_language : FnF := fnB 1 7 m_read_language
def F_read_language : FnF := fnN 1 (fnB 1 7 m_read_language)
def E1__law_made : EF := (eCallV F_read_collation (aCons (eCallV F__law_machine_lines (aCons (eC (.str "order")) (aCons (eVar 2) (aCons (eVar 6) aNil)))) aNil))
def m__law_made : SF := (sSeq (sAsgG (eVar 0) (gTupD 4 (gsCons (gN 2) (gsCons (gN 3) (gsCons (gN 4) (gsCons (gN 5) gsNil)))))) (sSeq (sAsg 1 (eLc [6] (iE (eLst (aCons (eVar 3) (aCons (eVar 4) aNil)))) (gN 6) tTrue E1__law_made)) (sRet (eMake 3 F_Upgrade_init (aCons (e2 ixD (eVar 1) (eC (.int 0))) (aCons (e2 ixD (eVar 1) (eC (.int 1))) (aCons (eCallV F_read_language (aCons (eCallV F__law_machine_lines (aCons (eC (.str "language")) (aCons (eVar 2) (aCons (eVar 5) aNil)))) aNil)) aNil)))))))
def G__law_made : FnF := fnB 1 6 m__law_made
def F__law_made : FnF := fnN 1 (fnB 1 6 m__law_made)
def E2__law_texts : EF := (eVar 10)
def T2__law_texts : TF := (tVal (e2 ixD (e2 ixD (eVar 6) (eVar 11)) (eC (.int 0))))
def L4__law_texts : SF := (sIf (tVal (e2 (isN true) (eVar 13) (eC .non))) (sExpr (eMut appD (eVar 9) (aCons (eTup (aCons (e2 addD (eVar 10) (eVar 12)) (aCons (eVar 13) aNil))) aNil))) sNil)
def L3__law_texts : SF := (sFor (iZip (aCons (eVar 3) (aCons (e2 ixD (e2 ixD (eVar 6) (eVar 11)) (eC (.int 1))) aNil))) (gTupD 2 (gsCons (gN 12) (gsCons (gN 13) gsNil))) L4__law_texts)
def L1__law_texts : SF := (sSeq (sAsg 8 (e2 addD (eVar 8) (eLc [10, 11] (iE (eVar 7)) (gTupD 2 (gsCons (gN 10) (gsCons (gN 11) gsNil))) T2__law_texts E2__law_texts))) (sSeq (sAsg 9 (eLst aNil)) (sSeq (sFor (iE (eVar 7)) (gTupD 2 (gsCons (gN 10) (gsCons (gN 11) gsNil))) L3__law_texts) (sAsg 7 (eVar 9)))))
def m__law_texts : SF := (sSeq (sAsgG (eVar 0) (gTupD 4 (gsCons (gN 3) (gsCons (gN 4) (gsCons (gN 5) (gsCons (gN 6) gsNil)))))) (sSeq (sPar 7 8 (aCons (eLst (aCons (eTup (aCons (eC (.str "")) (aCons (eC (.int 0)) aNil))) aNil)) (aCons (eLst aNil) aNil))) (sSeq (sFor (iR1 (aCons (e2 addD (eIf (tVal (e2 eqR (eCB lenD (aCons (eVar 3) aNil)) (eC (.int 6)))) (eCB minD (aCons (eC (.int 3)) (aCons (eVar 1) aNil))) (eVar 1)) (eC (.int 1))) aNil)) (gN 2) L1__law_texts) (sRet (eVar 8)))))
def G__law_texts : FnF := fnB 2 12 m__law_texts
def F__law_texts : FnF := fnN 2 (fnB 2 12 m__law_texts)
def E3_law : EF := (eMut popD (eVar 6) (aCons (eCallV F__law_take (aCons (eVar 2) (aCons (eCB lenD (aCons (eVar 6) aNil)) aNil))) aNil))
def L5_law : SF := (sSeq (sAsg 11 (eCallV F__law_flips (aCons (eVar 4) (aCons (eVar 8) (aCons (eVar 9) aNil))))) (sIf (tOr2 (tVal (e2 neR (eCB reprD (aCons (eMeth [(3, F_Upgrade_flips)] "flips" (eVar 5) (aCons (eVar 8) (aCons (eVar 9) aNil))) aNil)) (eCB reprD (aCons (eVar 11) aNil)))) (tVal (e2 neR (eCB reprD (aCons (eMeth [(3, F_Upgrade_flips)] "flips" (eVar 5) (aCons (eVar 9) (aCons (eVar 8) aNil))) aNil)) (eCB reprD (aCons (eVar 11) aNil))))) (sRet (eC (.bl false))) sNil))
def L4_law : SF := (sFor (iE (eVar 7)) (gN 9) L5_law)
def L2_law : SF := (sSeq (sAsg 4 (eCallV F__law_drawn (aCons (eVar 2) (aCons (eC (.int 3)) aNil)))) (sSeq (sAsg 5 (eCallV F__law_made (aCons (eVar 4) aNil))) (sSeq (sAsg 6 (eCallV F__law_texts (aCons (eVar 4) (aCons (eC (.int 4)) aNil)))) (sSeq (sAsg 7 (eLc [10] (iR1 (aCons (eCB minD (aCons (eC (.int 9)) (aCons (eCB lenD (aCons (eVar 6) aNil)) aNil))) aNil)) (gN 10) tTrue E3_law)) (sFor (iE (eVar 7)) (gN 8) L4_law)))))
def L1_law : SF := (sSeq (sAsg 2 (eCallV F__law_bag (aCons (eVar 0) (aCons (eVar 1) aNil)))) (sFor (iR1 (aCons (eC (.int 2)) aNil)) (gN 3) L2_law))
def m_law : SF := (sSeq (sFor (iR1 (aCons (eCB maxD (aCons (eC (.int 1)) (aCons (eCB minD (aCons (eC (.int 2)) (aCons (eCB lenD (aCons (eVar 0) aNil)) aNil))) aNil))) aNil)) (gN 1) L1_law) (sRet (eC (.bl true))))
def G_law : FnF := fnB 1 11 m_law
def F_law : FnF := fnN 1 (fnB 1 11 m_law)
end K23
namespace K23
open PySem PySem.Spec PyProof.Rows L2 DL
def top (i : Nat) : Stmt := PySem.Challenge.pw_elderorder_k23_flips_by_both_orders.main.body.getD i (.Pass ⟨0, 0, 0, 0⟩)
def inClass (st : Stmt) (i : Nat) : Stmt := match st with
  | .ClassDef _ _ _ b _ _ _ _ _ _ _ => b.getD i (.Pass ⟨0, 0, 0, 0⟩)
  | _ => .Pass ⟨0, 0, 0, 0⟩
abbrev prog : Program := PySem.Challenge.pw_elderorder_k23_flips_by_both_orders
def a_Machine_letters_Collation : FnA := ⟨("Collation", "letters"), true, "letters", "Machine.letters", defArgs (inClass (top 19) 3), defBody (inClass (top 19) 3), defScope (inClass (top 19) 3), []⟩
def a_Machine_letters_Language : FnA := ⟨("Language", "letters"), true, "letters", "Machine.letters", defArgs (inClass (top 19) 3), defBody (inClass (top 19) 3), defScope (inClass (top 19) 3), []⟩
def a_Machine_states_Collation : FnA := ⟨("Collation", "states"), true, "states", "Machine.states", defArgs (inClass (top 19) 4), defBody (inClass (top 19) 4), defScope (inClass (top 19) 4), []⟩
def a_Machine_states_Language : FnA := ⟨("Language", "states"), true, "states", "Machine.states", defArgs (inClass (top 19) 4), defBody (inClass (top 19) 4), defScope (inClass (top 19) 4), []⟩
def d_Machine_move_Collation : He.DefD := ⟨("Collation", some "move"), "move", "Machine.move", defArgs (inClass (top 19) 8), defBody (inClass (top 19) 8), defScope (inClass (top 19) 8), [], []⟩
def d_Machine_move_Language : He.DefD := ⟨("Language", some "move"), "move", "Machine.move", defArgs (inClass (top 19) 8), defBody (inClass (top 19) 8), defScope (inClass (top 19) 8), [], []⟩
def d_Collation_ranks_Collation : He.DefD := ⟨("Collation", some "ranks"), "ranks", "Collation.ranks", defArgs (inClass (top 20) 6), defBody (inClass (top 20) 6), defScope (inClass (top 20) 6), [], []⟩
def a_Upgrade_new_Upgrade : FnA := ⟨("Upgrade", "new"), true, "new", "Upgrade.new", defArgs (inClass (top 28) 2), defBody (inClass (top 28) 2), defScope (inClass (top 28) 2), []⟩
def a_Upgrade_old_Upgrade : FnA := ⟨("Upgrade", "old"), true, "old", "Upgrade.old", defArgs (inClass (top 28) 1), defBody (inClass (top 28) 1), defScope (inClass (top 28) 1), []⟩
def d_Upgrade_are_flipped_Upgrade : He.DefD := ⟨("Upgrade", some "are_flipped"), "are_flipped", "Upgrade.are_flipped", defArgs (inClass (top 28) 14), defBody (inClass (top 28) 14), defScope (inClass (top 28) 14), [], []⟩
def d_Language_is_live_Language : He.DefD := ⟨("Language", some "is_live"), "is_live", "Language.is_live", defArgs (inClass (top 21) 8), defBody (inClass (top 21) 8), defScope (inClass (top 21) 8), [], []⟩
def d_Language_options_at_Language : He.DefD := ⟨("Language", some "options_at"), "options_at", "Language.options_at", defArgs (inClass (top 21) 9), defBody (inClass (top 21) 9), defScope (inClass (top 21) 9), [], []⟩
def d_Machine_state_behind_Language : He.DefD := ⟨("Language", some "state_behind"), "state_behind", "Machine.state_behind", defArgs (inClass (top 19) 10), defBody (inClass (top 19) 10), defScope (inClass (top 19) 10), [], []⟩
def d_Language_has_Language : He.DefD := ⟨("Language", some "has"), "has", "Language.has", defArgs (inClass (top 21) 11), defBody (inClass (top 21) 11), defScope (inClass (top 21) 11), [], []⟩
def d_is_text : He.DefD := ⟨("is_text", none), "is_text", "is_text", defArgs (top 17), defBody (top 17), defScope (top 17), [], []⟩
def d_may_be_passed : He.DefD := ⟨("may_be_passed", none), "may_be_passed", "may_be_passed", defArgs (top 18), defBody (top 18), defScope (top 18), [], []⟩
def d_Machine_need_text_Language : He.DefD := ⟨("Language", some "need_text"), "need_text", "Machine.need_text", defArgs (inClass (top 19) 9), defBody (inClass (top 19) 9), defScope (inClass (top 19) 9), [], []⟩
def a_Upgrade_language_Upgrade : FnA := ⟨("Upgrade", "language"), true, "language", "Upgrade.language", defArgs (inClass (top 28) 3), defBody (inClass (top 28) 3), defScope (inClass (top 28) 3), []⟩
def d_Upgrade_need_text_Upgrade : He.DefD := ⟨("Upgrade", some "need_text"), "need_text", "Upgrade.need_text", defArgs (inClass (top 28) 6), defBody (inClass (top 28) 6), defScope (inClass (top 28) 6), [], []⟩
def d_Upgrade_flips_Upgrade : He.DefD := ⟨("Upgrade", some "flips"), "flips", "Upgrade.flips", defArgs (inClass (top 28) 15), defBody (inClass (top 28) 15), defScope (inClass (top 28) 15), [], []⟩
def d__law_bag : He.DefD := ⟨("_law_bag", none), "_law_bag", "_law_bag", defArgs (top 30), defBody (top 30), defScope (top 30), [], []⟩
def d__law_take : He.DefD := ⟨("_law_take", none), "_law_take", "_law_take", defArgs (top 31), defBody (top 31), defScope (top 31), [], []⟩
def d__law_language : He.DefD := ⟨("_law_language", none), "_law_language", "_law_language", defArgs (top 36), defBody (top 36), defScope (top 36), [], []⟩
def d__law_near : He.DefD := ⟨("_law_near", none), "_law_near", "_law_near", defArgs (top 35), defBody (top 35), defScope (top 35), [], []⟩
def d__law_of : He.DefD := ⟨("_law_of", none), "_law_of", "_law_of", defArgs (top 32), defBody (top 32), defScope (top 32), [], []⟩
def d__law_shuffled : He.DefD := ⟨("_law_shuffled", none), "_law_shuffled", "_law_shuffled", defArgs (top 33), defBody (top 33), defScope (top 33), [], []⟩
def d__law_order : He.DefD := ⟨("_law_order", none), "_law_order", "_law_order", defArgs (top 34), defBody (top 34), defScope (top 34), [], []⟩
def d__law_drawn : He.DefD := ⟨("_law_drawn", none), "_law_drawn", "_law_drawn", defArgs (top 37), defBody (top 37), defScope (top 37), [], []⟩
def d__law_key : He.DefD := ⟨("_law_key", none), "_law_key", "_law_key", defArgs (top 40), defBody (top 40), defScope (top 40), [], []⟩
def d__law_flips : He.DefD := ⟨("_law_flips", none), "_law_flips", "_law_flips", defArgs (top 41), defBody (top 41), defScope (top 41), [], []⟩
def d_Upgrade_init_Upgrade : He.DefD := ⟨("Upgrade", some "__init__"), "__init__", "Upgrade.__init__", defArgs (inClass (top 28) 0), defBody (inClass (top 28) 0), defScope (inClass (top 28) 0), [], []⟩
def d__law_machine_lines : He.DefD := ⟨("_law_machine_lines", none), "_law_machine_lines", "_law_machine_lines", defArgs (top 38), defBody (top 38), defScope (top 38), [], []⟩
def d_Collation_is_mark_Collation : He.DefD := ⟨("Collation", some "is_mark"), "is_mark", "Collation.is_mark", defArgs (inClass (top 20) 3), defBody (inClass (top 20) 3), defScope (inClass (top 20) 3), [], []⟩
def d_Language_is_mark_Language : He.DefD := ⟨("Language", some "is_mark"), "is_mark", "Language.is_mark", defArgs (inClass (top 21) 3), defBody (inClass (top 21) 3), defScope (inClass (top 21) 3), [], []⟩
def d_is_integer : He.DefD := ⟨("is_integer", none), "is_integer", "is_integer", defArgs (top 15), defBody (top 15), defScope (top 15), [], []⟩
def d_Machine_is_move_Collation : He.DefD := ⟨("Collation", some "is_move"), "is_move", "Machine.is_move", defArgs (inClass (top 19) 7), defBody (inClass (top 19) 7), defScope (inClass (top 19) 7), [], []⟩
def d_Machine_is_move_Machine : He.DefD := ⟨("Machine", some "is_move"), "is_move", "Machine.is_move", defArgs (inClass (top 19) 7), defBody (inClass (top 19) 7), defScope (inClass (top 19) 7), [], []⟩
def a_Language_is_move_Language : FnA := ⟨("Language", "is_move"), false, "is_move", "Language.is_move", defArgs (inClass (top 21) 4), defBody (inClass (top 21) 4), defScope (inClass (top 21) 4), ["__class__"]⟩
def d_Machine_is_state_Collation : He.DefD := ⟨("Collation", some "is_state"), "is_state", "Machine.is_state", defArgs (inClass (top 19) 5), defBody (inClass (top 19) 5), defScope (inClass (top 19) 5), [], []⟩
def d_Machine_is_state_Language : He.DefD := ⟨("Language", some "is_state"), "is_state", "Machine.is_state", defArgs (inClass (top 19) 5), defBody (inClass (top 19) 5), defScope (inClass (top 19) 5), [], []⟩
def d_is_letters : He.DefD := ⟨("is_letters", none), "is_letters", "is_letters", defArgs (top 16), defBody (top 16), defScope (top 16), [], []⟩
def d_Machine_init_Machine : He.DefD := ⟨("Machine", some "__init__"), "__init__", "Machine.__init__", defArgs (inClass (top 19) 2), defBody (inClass (top 19) 2), defScope (inClass (top 19) 2), [], []⟩
def a_Collation_init_Collation : FnA := ⟨("Collation", "__init__"), false, "__init__", "Collation.__init__", defArgs (inClass (top 20) 1), defBody (inClass (top 20) 1), defScope (inClass (top 20) 1), ["__class__"]⟩
def d_lines_in : He.DefD := ⟨("lines_in", none), "lines_in", "lines_in", defArgs (top 23), defBody (top 23), defScope (top 23), [], []⟩
def d_number_in : He.DefD := ⟨("number_in", none), "number_in", "number_in", defArgs (top 22), defBody (top 22), defScope (top 22), [], [("gap", .bl false)]⟩
def d_moves_in : He.DefD := ⟨("moves_in", none), "moves_in", "moves_in", defArgs (top 24), defBody (top 24), defScope (top 24), [], [("gap", .bl false)]⟩
def d_read_collation : He.DefD := ⟨("read_collation", none), "read_collation", "read_collation", defArgs (top 25), defBody (top 25), defScope (top 25), [], []⟩
def d_Language_better_tail_Language : He.DefD := ⟨("Language", some "better_tail"), "better_tail", "Language.better_tail", defArgs (inClass (top 21) 7), defBody (inClass (top 21) 7), defScope (inClass (top 21) 7), [], []⟩
def d_Language_shortest_tails_Language : He.DefD := ⟨("Language", some "shortest_tails"), "shortest_tails", "Language.shortest_tails", defArgs (inClass (top 21) 6), defBody (inClass (top 21) 6), defScope (inClass (top 21) 6), [], []⟩
def a_Language_init_Language : FnA := ⟨("Language", "__init__"), false, "__init__", "Language.__init__", defArgs (inClass (top 21) 1), defBody (inClass (top 21) 1), defScope (inClass (top 21) 1), ["__class__"]⟩
def d_read_language : He.DefD := ⟨("read_language", none), "read_language", "read_language", defArgs (top 26), defBody (top 26), defScope (top 26), [], []⟩
def d__law_made : He.DefD := ⟨("_law_made", none), "_law_made", "_law_made", defArgs (top 39), defBody (top 39), defScope (top 39), [], []⟩
def d__law_texts : He.DefD := ⟨("_law_texts", none), "_law_texts", "_law_texts", defArgs (top 42), defBody (top 42), defScope (top 42), [], []⟩
def d_law : He.DefD := ⟨("law", none), "law", "law", defArgs (top 43), defBody (top 43), defScope (top 43), [], []⟩
def fb : List He.Fa := [.cls "Collation", .noat "Collation" "own_letters", .noat "Collation" "own_states", .cls "Language", .noat "Language" "own_letters", .noat "Language" "own_states", .noat "Language" "tails", .cls "Upgrade", .noat "Upgrade" "own_language", .noat "Upgrade" "own_new", .noat "Upgrade" "own_old", .int "LONGEST_TEXT" 400, .int "MOST_LETTERS" 6, .int "MOST_STATES" 6, .meth "Collation" "is_mark", .meth "Collation" "is_move", .meth "Collation" "is_state", .meth "Collation" "move", .meth "Collation" "ranks", .meth "Language" "better_tail", .meth "Language" "has", .meth "Language" "is_live", .meth "Language" "is_mark", .meth "Language" "is_move", .meth "Language" "is_state", .meth "Language" "move", .meth "Language" "need_text", .meth "Language" "options_at", .meth "Language" "shortest_tails", .meth "Language" "state_behind", .meth "Upgrade" "are_flipped", .meth "Upgrade" "flips", .meth "Upgrade" "need_text", .mkr "Collation", .glo "Collation", .mkr "Language", .glo "Language", .mkr "Upgrade", .glo "Upgrade", .str "DIGITS" "0123456789", .str "END" ".", .str "NO_STATE" "-", .glo "is_text", .glo "may_be_passed", .glo "_law_bag", .glo "_law_take", .glo "_law_language", .glo "_law_near", .glo "_law_of", .glo "_law_shuffled", .glo "_law_order", .glo "_law_drawn", .glo "_law_key", .glo "_law_flips", .glo "_law_machine_lines", .glo "is_integer", .glo "is_letters", .glo "lines_in", .glo "number_in", .glo "moves_in", .glo "read_collation", .glo "read_language", .glo "_law_made", .glo "_law_texts", .glo "law", .free "super"]
def fa : List He.Fa := fb ++ blNames.map He.Fa.free
def fn : List He.DefD := [d_Machine_move_Collation, d_Machine_move_Language, d_Collation_ranks_Collation, d_Upgrade_are_flipped_Upgrade, d_Language_is_live_Language, d_Language_options_at_Language, d_Machine_state_behind_Language, d_Language_has_Language, d_is_text, d_may_be_passed, d_Machine_need_text_Language, d_Upgrade_need_text_Upgrade, d_Upgrade_flips_Upgrade, d__law_bag, d__law_take, d__law_language, d__law_near, d__law_of, d__law_shuffled, d__law_order, d__law_drawn, d__law_key, d__law_flips, d_Upgrade_init_Upgrade, d__law_machine_lines, d_Collation_is_mark_Collation, d_Language_is_mark_Language, d_is_integer, d_Machine_is_move_Collation, d_Machine_is_move_Machine, d_Machine_is_state_Collation, d_Machine_is_state_Language, d_is_letters, d_Machine_init_Machine, d_lines_in, d_number_in, d_moves_in, d_read_collation, d_Language_better_tail_Language, d_Language_shortest_tails_Language, d_read_language, d__law_made, d__law_texts, d_law]
def fs : List FnA := [a_Machine_letters_Collation, a_Machine_letters_Language, a_Machine_states_Collation, a_Machine_states_Language, a_Upgrade_new_Upgrade, a_Upgrade_old_Upgrade, a_Upgrade_language_Upgrade, a_Language_is_move_Language, a_Collation_init_Collation, a_Language_init_Language]
def tf : List He.Defn := [("Language", some "better_tail")]
def exL : List (PySem.W.Frag → Bool) := [fun K => FnA.okG K a_Machine_letters_Collation, fun K => FnA.okG K a_Machine_letters_Language, fun K => FnA.okG K a_Machine_states_Collation, fun K => FnA.okG K a_Machine_states_Language, fun K => FnA.okG K a_Upgrade_new_Upgrade, fun K => FnA.okG K a_Upgrade_old_Upgrade, fun K => FnA.okG K a_Upgrade_language_Upgrade, fun K => FnA.okS prog K a_Language_is_move_Language, fun K => FnA.okS prog K a_Collation_init_Collation, fun K => FnA.okS prog K a_Language_init_Language, fun K => propB K "Collation" "letters", fun K => propB K "Collation" "states", fun K => propB K "Language" "letters", fun K => propB K "Language" "states", fun K => propB K "Upgrade" "language", fun K => propB K "Upgrade" "new", fun K => propB K "Upgrade" "old", fun K => supB K "Collation" "Collation" "Machine" "__init__", fun K => supB K "Language" "Language" "Machine" "__init__", fun K => supB K "Language" "Language" "Machine" "is_move", otB]
def hd : Hd := ⟨fa, fn, fs, tf, fun K => exL.all fun f => f K⟩
def clNames : List Str := ["Machine", "Collation", "Language", "Upgrade"]
def cmK (K : PySem.W.Frag) : CT := ⟨fun n => He.ga K (clNames.getD n ""), [((He.cT K ("Language", some "better_tail")).2, ("Language.better_tail" : Str) ++ ".<locals>." ++ "<lambda>")]⟩
structure Fx (P : Program) (w : World) (K : PySem.W.Frag) (mg : Str → Option Value) (base : Heap) : Prop where
  x : FxG hd K mg base
  hP : P = prog
section
variable {P : Program} {w : World} {K : PySem.W.Frag} {mg : Str → Option Value} {base : Heap}
theorem Fx.nb (h : Fx P w K mg base) : NoB mg := h.x.nb fun x hx => List.mem_append_right _ (List.mem_map_of_mem hx)
theorem supG (h : Fx P w K mg base) : SupG P K mg := ⟨h.x.fr _ (List.mem_append_left _ (by simp [fb])), by rw [h.hP]; decide +kernel, He.eqO_ok (exAt (l := exL) h.x.ex 20 rfl)⟩
theorem c_Collation (h : Fx P w K mg base) : Cls K (cmK K 1) := He.cls_ok (h.x.sx.fact 0 (f := .cls "Collation") rfl)
theorem n_Collation_own_letters (h : Fx P w K mg base) : NoAttr K (cmK K 1) "own_letters" := He.noat_ok (h.x.sx.fact 1 (f := .noat "Collation" "own_letters") rfl)
theorem n_Collation_own_states (h : Fx P w K mg base) : NoAttr K (cmK K 1) "own_states" := He.noat_ok (h.x.sx.fact 2 (f := .noat "Collation" "own_states") rfl)
theorem c_Language (h : Fx P w K mg base) : Cls K (cmK K 2) := He.cls_ok (h.x.sx.fact 3 (f := .cls "Language") rfl)
theorem n_Language_own_letters (h : Fx P w K mg base) : NoAttr K (cmK K 2) "own_letters" := He.noat_ok (h.x.sx.fact 4 (f := .noat "Language" "own_letters") rfl)
theorem n_Language_own_states (h : Fx P w K mg base) : NoAttr K (cmK K 2) "own_states" := He.noat_ok (h.x.sx.fact 5 (f := .noat "Language" "own_states") rfl)
theorem n_Language_tails (h : Fx P w K mg base) : NoAttr K (cmK K 2) "tails" := He.noat_ok (h.x.sx.fact 6 (f := .noat "Language" "tails") rfl)
theorem c_Upgrade (h : Fx P w K mg base) : Cls K (cmK K 3) := He.cls_ok (h.x.sx.fact 7 (f := .cls "Upgrade") rfl)
theorem n_Upgrade_own_language (h : Fx P w K mg base) : NoAttr K (cmK K 3) "own_language" := He.noat_ok (h.x.sx.fact 8 (f := .noat "Upgrade" "own_language") rfl)
theorem n_Upgrade_own_new (h : Fx P w K mg base) : NoAttr K (cmK K 3) "own_new" := He.noat_ok (h.x.sx.fact 9 (f := .noat "Upgrade" "own_new") rfl)
theorem n_Upgrade_own_old (h : Fx P w K mg base) : NoAttr K (cmK K 3) "own_old" := He.noat_ok (h.x.sx.fact 10 (f := .noat "Upgrade" "own_old") rfl)
theorem Fx.i_LONGEST_TEXT (h : Fx P w K mg base) : ∃ t, mg "LONGEST_TEXT" = some (.int 400 t) := h.x.it 11 _ _ rfl
theorem Fx.i_MOST_LETTERS (h : Fx P w K mg base) : ∃ t, mg "MOST_LETTERS" = some (.int 6 t) := h.x.it 12 _ _ rfl
theorem Fx.i_MOST_STATES (h : Fx P w K mg base) : ∃ t, mg "MOST_STATES" = some (.int 6 t) := h.x.it 13 _ _ rfl
theorem me_Collation_is_mark (h : Fx P w K mg base) : Meth K (cmK K 1) "is_mark" (He.fAd K ("Collation", some "is_mark")) := He.meth_ok (h.x.sx.fact 14 (f := .meth "Collation" "is_mark") rfl)
theorem me_Collation_is_move (h : Fx P w K mg base) : Meth K (cmK K 1) "is_move" (He.fAd K ("Collation", some "is_move")) := He.meth_ok (h.x.sx.fact 15 (f := .meth "Collation" "is_move") rfl)
theorem me_Collation_is_state (h : Fx P w K mg base) : Meth K (cmK K 1) "is_state" (He.fAd K ("Collation", some "is_state")) := He.meth_ok (h.x.sx.fact 16 (f := .meth "Collation" "is_state") rfl)
theorem me_Collation_move (h : Fx P w K mg base) : Meth K (cmK K 1) "move" (He.fAd K ("Collation", some "move")) := He.meth_ok (h.x.sx.fact 17 (f := .meth "Collation" "move") rfl)
theorem me_Collation_ranks (h : Fx P w K mg base) : Meth K (cmK K 1) "ranks" (He.fAd K ("Collation", some "ranks")) := He.meth_ok (h.x.sx.fact 18 (f := .meth "Collation" "ranks") rfl)
theorem me_Language_better_tail (h : Fx P w K mg base) : Meth K (cmK K 2) "better_tail" (He.fAd K ("Language", some "better_tail")) := He.meth_ok (h.x.sx.fact 19 (f := .meth "Language" "better_tail") rfl)
theorem me_Language_has (h : Fx P w K mg base) : Meth K (cmK K 2) "has" (He.fAd K ("Language", some "has")) := He.meth_ok (h.x.sx.fact 20 (f := .meth "Language" "has") rfl)
theorem me_Language_is_live (h : Fx P w K mg base) : Meth K (cmK K 2) "is_live" (He.fAd K ("Language", some "is_live")) := He.meth_ok (h.x.sx.fact 21 (f := .meth "Language" "is_live") rfl)
theorem me_Language_is_mark (h : Fx P w K mg base) : Meth K (cmK K 2) "is_mark" (He.fAd K ("Language", some "is_mark")) := He.meth_ok (h.x.sx.fact 22 (f := .meth "Language" "is_mark") rfl)
theorem me_Language_is_move (h : Fx P w K mg base) : Meth K (cmK K 2) "is_move" (He.fAd K ("Language", some "is_move")) := He.meth_ok (h.x.sx.fact 23 (f := .meth "Language" "is_move") rfl)
theorem me_Language_is_state (h : Fx P w K mg base) : Meth K (cmK K 2) "is_state" (He.fAd K ("Language", some "is_state")) := He.meth_ok (h.x.sx.fact 24 (f := .meth "Language" "is_state") rfl)
theorem me_Language_move (h : Fx P w K mg base) : Meth K (cmK K 2) "move" (He.fAd K ("Language", some "move")) := He.meth_ok (h.x.sx.fact 25 (f := .meth "Language" "move") rfl)
theorem me_Language_need_text (h : Fx P w K mg base) : Meth K (cmK K 2) "need_text" (He.fAd K ("Language", some "need_text")) := He.meth_ok (h.x.sx.fact 26 (f := .meth "Language" "need_text") rfl)
theorem me_Language_options_at (h : Fx P w K mg base) : Meth K (cmK K 2) "options_at" (He.fAd K ("Language", some "options_at")) := He.meth_ok (h.x.sx.fact 27 (f := .meth "Language" "options_at") rfl)
theorem me_Language_shortest_tails (h : Fx P w K mg base) : Meth K (cmK K 2) "shortest_tails" (He.fAd K ("Language", some "shortest_tails")) := He.meth_ok (h.x.sx.fact 28 (f := .meth "Language" "shortest_tails") rfl)
theorem me_Language_state_behind (h : Fx P w K mg base) : Meth K (cmK K 2) "state_behind" (He.fAd K ("Language", some "state_behind")) := He.meth_ok (h.x.sx.fact 29 (f := .meth "Language" "state_behind") rfl)
theorem me_Upgrade_are_flipped (h : Fx P w K mg base) : Meth K (cmK K 3) "are_flipped" (He.fAd K ("Upgrade", some "are_flipped")) := He.meth_ok (h.x.sx.fact 30 (f := .meth "Upgrade" "are_flipped") rfl)
theorem me_Upgrade_flips (h : Fx P w K mg base) : Meth K (cmK K 3) "flips" (He.fAd K ("Upgrade", some "flips")) := He.meth_ok (h.x.sx.fact 31 (f := .meth "Upgrade" "flips") rfl)
theorem me_Upgrade_need_text (h : Fx P w K mg base) : Meth K (cmK K 3) "need_text" (He.fAd K ("Upgrade", some "need_text")) := He.meth_ok (h.x.sx.fact 32 (f := .meth "Upgrade" "need_text") rfl)
theorem mk_Collation (h : Fx P w K mg base) : Mk K (cmK K 1) (He.fAd K ("Collation", some "__init__")) := He.mkr_ok (h.x.sx.fact 33 (f := .mkr "Collation") rfl)
theorem Fx.glo_Collation (h : Fx P w K mg base) : mg "Collation" = some (.ref (cmK K 1)) := h.x.gl 34 _ rfl
theorem mk_Language (h : Fx P w K mg base) : Mk K (cmK K 2) (He.fAd K ("Language", some "__init__")) := He.mkr_ok (h.x.sx.fact 35 (f := .mkr "Language") rfl)
theorem Fx.glo_Language (h : Fx P w K mg base) : mg "Language" = some (.ref (cmK K 2)) := h.x.gl 36 _ rfl
theorem mk_Upgrade (h : Fx P w K mg base) : Mk K (cmK K 3) (He.fAd K ("Upgrade", some "__init__")) := He.mkr_ok (h.x.sx.fact 37 (f := .mkr "Upgrade") rfl)
theorem Fx.glo_Upgrade (h : Fx P w K mg base) : mg "Upgrade" = some (.ref (cmK K 3)) := h.x.gl 38 _ rfl
theorem p_Collation_letters (h : Fx P w K mg base) : PropOf K (cmK K 1) "letters" (He.ma K (He.ga K "Collation") "letters") (getAd K "Collation" "letters") := propB_ok (exAt h.x.ex 10 rfl)
theorem p_Collation_states (h : Fx P w K mg base) : PropOf K (cmK K 1) "states" (He.ma K (He.ga K "Collation") "states") (getAd K "Collation" "states") := propB_ok (exAt h.x.ex 11 rfl)
theorem p_Language_letters (h : Fx P w K mg base) : PropOf K (cmK K 2) "letters" (He.ma K (He.ga K "Language") "letters") (getAd K "Language" "letters") := propB_ok (exAt h.x.ex 12 rfl)
theorem p_Language_states (h : Fx P w K mg base) : PropOf K (cmK K 2) "states" (He.ma K (He.ga K "Language") "states") (getAd K "Language" "states") := propB_ok (exAt h.x.ex 13 rfl)
theorem p_Upgrade_language (h : Fx P w K mg base) : PropOf K (cmK K 3) "language" (He.ma K (He.ga K "Upgrade") "language") (getAd K "Upgrade" "language") := propB_ok (exAt h.x.ex 14 rfl)
theorem p_Upgrade_new (h : Fx P w K mg base) : PropOf K (cmK K 3) "new" (He.ma K (He.ga K "Upgrade") "new") (getAd K "Upgrade" "new") := propB_ok (exAt h.x.ex 15 rfl)
theorem p_Upgrade_old (h : Fx P w K mg base) : PropOf K (cmK K 3) "old" (He.ma K (He.ga K "Upgrade") "old") (getAd K "Upgrade" "old") := propB_ok (exAt h.x.ex 16 rfl)
theorem Fx.s_DIGITS (h : Fx P w K mg base) : ∃ t, mg "DIGITS" = some (.str "0123456789" t) := h.x.st 39 _ _ rfl
theorem Fx.s_END (h : Fx P w K mg base) : ∃ t, mg "END" = some (.str "." t) := h.x.st 40 _ _ rfl
theorem Fx.s_NO_STATE (h : Fx P w K mg base) : ∃ t, mg "NO_STATE" = some (.str "-" t) := h.x.st 41 _ _ rfl
theorem s_Collation_Collation_init (h : Fx P w K mg base) : SupC K (He.ga K "Collation") (cmK K 1) (He.fAd K ("Machine", some "__init__")) "__init__" := supB_ok (exAt h.x.ex 17 rfl)
theorem s_Language_Language_init (h : Fx P w K mg base) : SupC K (He.ga K "Language") (cmK K 2) (He.fAd K ("Machine", some "__init__")) "__init__" := supB_ok (exAt h.x.ex 18 rfl)
theorem s_Language_Language_is_move (h : Fx P w K mg base) : SupC K (He.ga K "Language") (cmK K 2) (He.fAd K ("Machine", some "is_move")) "is_move" := supB_ok (exAt h.x.ex 19 rfl)
theorem Fx.glo_is_text (h : Fx P w K mg base) : mg "is_text" = some (.ref (He.fAd K ("is_text", none))) := h.x.gl 42 _ rfl
theorem Fx.glo_may_be_passed (h : Fx P w K mg base) : mg "may_be_passed" = some (.ref (He.fAd K ("may_be_passed", none))) := h.x.gl 43 _ rfl
theorem Fx.glo__law_bag (h : Fx P w K mg base) : mg "_law_bag" = some (.ref (He.fAd K ("_law_bag", none))) := h.x.gl 44 _ rfl
theorem Fx.glo__law_take (h : Fx P w K mg base) : mg "_law_take" = some (.ref (He.fAd K ("_law_take", none))) := h.x.gl 45 _ rfl
theorem Fx.glo__law_language (h : Fx P w K mg base) : mg "_law_language" = some (.ref (He.fAd K ("_law_language", none))) := h.x.gl 46 _ rfl
theorem Fx.glo__law_near (h : Fx P w K mg base) : mg "_law_near" = some (.ref (He.fAd K ("_law_near", none))) := h.x.gl 47 _ rfl
theorem Fx.glo__law_of (h : Fx P w K mg base) : mg "_law_of" = some (.ref (He.fAd K ("_law_of", none))) := h.x.gl 48 _ rfl
theorem Fx.glo__law_shuffled (h : Fx P w K mg base) : mg "_law_shuffled" = some (.ref (He.fAd K ("_law_shuffled", none))) := h.x.gl 49 _ rfl
theorem Fx.glo__law_order (h : Fx P w K mg base) : mg "_law_order" = some (.ref (He.fAd K ("_law_order", none))) := h.x.gl 50 _ rfl
theorem Fx.glo__law_drawn (h : Fx P w K mg base) : mg "_law_drawn" = some (.ref (He.fAd K ("_law_drawn", none))) := h.x.gl 51 _ rfl
theorem Fx.glo__law_key (h : Fx P w K mg base) : mg "_law_key" = some (.ref (He.fAd K ("_law_key", none))) := h.x.gl 52 _ rfl
theorem Fx.glo__law_flips (h : Fx P w K mg base) : mg "_law_flips" = some (.ref (He.fAd K ("_law_flips", none))) := h.x.gl 53 _ rfl
theorem Fx.glo__law_machine_lines (h : Fx P w K mg base) : mg "_law_machine_lines" = some (.ref (He.fAd K ("_law_machine_lines", none))) := h.x.gl 54 _ rfl
theorem Fx.glo_is_integer (h : Fx P w K mg base) : mg "is_integer" = some (.ref (He.fAd K ("is_integer", none))) := h.x.gl 55 _ rfl
theorem Fx.glo_is_letters (h : Fx P w K mg base) : mg "is_letters" = some (.ref (He.fAd K ("is_letters", none))) := h.x.gl 56 _ rfl
theorem Fx.glo_lines_in (h : Fx P w K mg base) : mg "lines_in" = some (.ref (He.fAd K ("lines_in", none))) := h.x.gl 57 _ rfl
theorem Fx.glo_number_in (h : Fx P w K mg base) : mg "number_in" = some (.ref (He.fAd K ("number_in", none))) := h.x.gl 58 _ rfl
theorem Fx.glo_moves_in (h : Fx P w K mg base) : mg "moves_in" = some (.ref (He.fAd K ("moves_in", none))) := h.x.gl 59 _ rfl
theorem Fx.glo_read_collation (h : Fx P w K mg base) : mg "read_collation" = some (.ref (He.fAd K ("read_collation", none))) := h.x.gl 60 _ rfl
theorem Fx.glo_read_language (h : Fx P w K mg base) : mg "read_language" = some (.ref (He.fAd K ("read_language", none))) := h.x.gl 61 _ rfl
theorem Fx.glo__law_made (h : Fx P w K mg base) : mg "_law_made" = some (.ref (He.fAd K ("_law_made", none))) := h.x.gl 62 _ rfl
theorem Fx.glo__law_texts (h : Fx P w K mg base) : mg "_law_texts" = some (.ref (He.fAd K ("_law_texts", none))) := h.x.gl 63 _ rfl
theorem Fx.glo_law (h : Fx P w K mg base) : mg "law" = some (.ref (He.fAd K ("law", none))) := h.x.gl 64 _ rfl
theorem sc_Machine_letters : FnScope ["self"] ["self"] (defScope (inClass (top 19) 3)) := ⟨rfl, rfl, rfl, by decide +kernel, rfl, by decide +kernel, by decide +kernel⟩
theorem g_Machine_letters (h : Fx P w K mg base) {f : Addr} {fd : FuncData} (Fn : Fun K "letters" "Machine.letters" (inClass (top 19) 3) f fd) : FJ (cmK K) P w K mg base 1 f fd ["self"] (fnB 1 0 m_Machine_letters) :=
  fj_ofC (N := ["self"]) Fn sc_Machine_letters rfl fun cdv A outer s H E hcd hr => by
    have sc := sc_Machine_letters
    exact (bj_one (sj_ret (ej_fld (dAllC ⟨c_Collation h, n_Collation_own_letters h⟩ (dAll1 ⟨c_Language h, n_Language_own_letters h⟩)) (ej_var (pv 0)))))
theorem j_Machine_letters_Collation (h : Fx P w K mg base) : ∃ fd, FJ (cmK K) P w K mg base 1 (getAd K "Collation" "letters") fd ["self"] (fnB 1 0 m_Machine_letters) ∧ Binds K fd ["self"] [] := by
  obtain ⟨fd, F⟩ := FnA.funG (d := a_Machine_letters_Collation) (st := (inClass (top 19) 3)) (h.x.fsAt 0 rfl) (exAt h.x.ex 0 rfl) rfl rfl rfl rfl
  refine ⟨fd, g_Machine_letters h F, ?_⟩
  obtain ⟨oc, od, kV, doc, pm, an, cdv, ct, osl, rfl, lk, hcd⟩ := F.ex
  exact .all fun us hl => match us, hl with | [_], _ => rfl
theorem j_Machine_letters_Language (h : Fx P w K mg base) : ∃ fd, FJ (cmK K) P w K mg base 1 (getAd K "Language" "letters") fd ["self"] (fnB 1 0 m_Machine_letters) ∧ Binds K fd ["self"] [] := by
  obtain ⟨fd, F⟩ := FnA.funG (d := a_Machine_letters_Language) (st := (inClass (top 19) 3)) (h.x.fsAt 1 rfl) (exAt h.x.ex 1 rfl) rfl rfl rfl rfl
  refine ⟨fd, g_Machine_letters h F, ?_⟩
  obtain ⟨oc, od, kV, doc, pm, an, cdv, ct, osl, rfl, lk, hcd⟩ := F.ex
  exact .all fun us hl => match us, hl with | [_], _ => rfl
theorem sc_Machine_states : FnScope ["self"] ["self"] (defScope (inClass (top 19) 4)) := ⟨rfl, rfl, rfl, by decide +kernel, rfl, by decide +kernel, by decide +kernel⟩
theorem g_Machine_states (h : Fx P w K mg base) {f : Addr} {fd : FuncData} (Fn : Fun K "states" "Machine.states" (inClass (top 19) 4) f fd) : FJ (cmK K) P w K mg base 1 f fd ["self"] (fnB 1 0 m_Machine_states) :=
  fj_ofC (N := ["self"]) Fn sc_Machine_states rfl fun cdv A outer s H E hcd hr => by
    have sc := sc_Machine_states
    exact (bj_one (sj_ret (ej_fld (dAllC ⟨c_Collation h, n_Collation_own_states h⟩ (dAll1 ⟨c_Language h, n_Language_own_states h⟩)) (ej_var (pv 0)))))
theorem j_Machine_states_Collation (h : Fx P w K mg base) : ∃ fd, FJ (cmK K) P w K mg base 1 (getAd K "Collation" "states") fd ["self"] (fnB 1 0 m_Machine_states) ∧ Binds K fd ["self"] [] := by
  obtain ⟨fd, F⟩ := FnA.funG (d := a_Machine_states_Collation) (st := (inClass (top 19) 4)) (h.x.fsAt 2 rfl) (exAt h.x.ex 2 rfl) rfl rfl rfl rfl
  refine ⟨fd, g_Machine_states h F, ?_⟩
  obtain ⟨oc, od, kV, doc, pm, an, cdv, ct, osl, rfl, lk, hcd⟩ := F.ex
  exact .all fun us hl => match us, hl with | [_], _ => rfl
theorem j_Machine_states_Language (h : Fx P w K mg base) : ∃ fd, FJ (cmK K) P w K mg base 1 (getAd K "Language" "states") fd ["self"] (fnB 1 0 m_Machine_states) ∧ Binds K fd ["self"] [] := by
  obtain ⟨fd, F⟩ := FnA.funG (d := a_Machine_states_Language) (st := (inClass (top 19) 4)) (h.x.fsAt 3 rfl) (exAt h.x.ex 3 rfl) rfl rfl rfl rfl
  refine ⟨fd, g_Machine_states h F, ?_⟩
  obtain ⟨oc, od, kV, doc, pm, an, cdv, ct, osl, rfl, lk, hcd⟩ := F.ex
  exact .all fun us hl => match us, hl with | [_], _ => rfl
theorem sc_Machine_move : FnScope ["self", "state", "letter"] ["self", "state", "letter"] (defScope (inClass (top 19) 8)) := ⟨rfl, rfl, rfl, by decide +kernel, rfl, by decide +kernel, by decide +kernel⟩
theorem g_Machine_move (h : Fx P w K mg base) {f : Addr} {fd : FuncData} (Fn : Fun K "move" "Machine.move" (inClass (top 19) 8) f fd) : FJ (cmK K) P w K mg base 3 f fd ["self", "state", "letter"] (fnB 3 0 m_Machine_move) :=
  fj_ofC (N := ["self", "state", "letter"]) Fn sc_Machine_move rfl fun cdv A outer s H E hcd hr => by
    have sc := sc_Machine_move
    exact (bj_one (sj_ret (ej_if (tj_isN (ej_var (pv 1)) ej_non) ej_non (ej_ix (ej_ix (ej_ix (ej_prop (by decide) (dAllC (pd_of (c_Collation h) (p_Collation_states h) (j_Machine_states_Collation h) rfl (hr.mono (by decide))) (dAll1 (pd_of (c_Language h) (p_Language_states h) (j_Machine_states_Language h) rfl (hr.mono (by decide))))) (ej_var (pv 0))) (ej_var (pv 1))) ej_int) (ej_find (ej_prop (by decide) (dAllC (pd_of (c_Collation h) (p_Collation_letters h) (j_Machine_letters_Collation h) rfl (hr.mono (by decide))) (dAll1 (pd_of (c_Language h) (p_Language_letters h) (j_Machine_letters_Language h) rfl (hr.mono (by decide))))) (ej_var (pv 0))) (ej_var (pv 2)))))))
theorem u_Machine_move_Collation (h : Fx P w K mg base) : ∃ fd, FunD K "move" "Machine.move" (defArgs (inClass (top 19) 8)) (defBody (inClass (top 19) 8)) (defScope (inClass (top 19) 8)) [] [] (He.fAd K ("Collation", some "move")) fd := h.x.sx.def_ 0 (d := d_Machine_move_Collation) rfl
theorem r_Machine_move_Collation (h : Fx P w K mg base) : FR (cmK K) P w K mg base 3 (He.fAd K ("Collation", some "move")) F_Machine_move := by
  obtain ⟨fd, F⟩ := u_Machine_move_Collation h
  exact fr_of (g_Machine_move h (fun_of F)) (F.bindsN fun _ _ _ _ _ _ us hl => match us, hl with | [_, _, _], _ => rfl)
theorem u_Machine_move_Language (h : Fx P w K mg base) : ∃ fd, FunD K "move" "Machine.move" (defArgs (inClass (top 19) 8)) (defBody (inClass (top 19) 8)) (defScope (inClass (top 19) 8)) [] [] (He.fAd K ("Language", some "move")) fd := h.x.sx.def_ 1 (d := d_Machine_move_Language) rfl
theorem r_Machine_move_Language (h : Fx P w K mg base) : FR (cmK K) P w K mg base 3 (He.fAd K ("Language", some "move")) F_Machine_move := by
  obtain ⟨fd, F⟩ := u_Machine_move_Language h
  exact fr_of (g_Machine_move h (fun_of F)) (F.bindsN fun _ _ _ _ _ _ us hl => match us, hl with | [_, _, _], _ => rfl)
theorem sc_Collation_ranks : FnScope ["self", "text", "option", "found", "state", "ranking", "moves"] ["self", "text"] (defScope (inClass (top 20) 6)) := ⟨rfl, rfl, rfl, by decide +kernel, rfl, by decide +kernel, by decide +kernel⟩
theorem g_Collation_ranks (h : Fx P w K mg base) {f : Addr} {fd : FuncData} (Fn : Fun K "ranks" "Collation.ranks" (inClass (top 20) 6) f fd) : FJ (cmK K) P w K mg base 4 f fd ["self", "text"] (fnB 2 5 m_Collation_ranks) :=
  fj_ofC (N := ["self", "text", "option", "found", "state", "ranking", "moves"]) Fn sc_Collation_ranks rfl fun cdv A outer s H E hcd hr => by
    have sc := sc_Collation_ranks
    exact (bj_cons (sj_par rfl sc.nd rfl rfl (by decide) rfl rfl (aj_cons (ej_lst aj_nil) (aj_cons ej_int aj_nil)) rfl) (bj_cons (sj_for (passes_of rfl) rfl (ij_e (ej_add (ej_var (pv 1)) (ej_globS (h.s_END).choose_spec))) (gj_name (pg_name sc.nd rfl (Or.inl rfl))) (bj_cons (sj_asgG (ej_ix (ej_prop (by decide) (dAll1 (pd_of (c_Collation h) (p_Collation_states h) (j_Machine_states_Collation h) rfl (hr.mono (by decide)))) (ej_var (pv 0))) (ej_var (pv 4))) (gj_tup rfl (gsj_cons (gj_name (pg_name sc.nd rfl (Or.inl rfl))) (gsj_cons (gj_name (pg_name sc.nd rfl (Or.inl rfl))) gsj_nil (fun a b => pgs_cons a b)) (fun a b => pgs_cons a b)))) (bj_cons (sj_expr (ej_append (ej_var (pv 3)) (aj_cons (ej_sindex (ej_var (pv 5)) (ej_var (pv 2))) aj_nil))) (bj_one (sj_if (tj_ne hr.units (ej_var (pv 2)) (ej_globS (h.s_END).choose_spec)) (bj_one (sj_asg (ej_meth (by decide) (dAll1 (md_of (c_Collation h) (me_Collation_move h) (r_Machine_move_Collation h) (hr.mono (by decide)))) (ej_var (pv 0)) (aj_cons (ej_var (pv 4)) (aj_cons (ej_var (pv 2)) aj_nil))) (fun q => ps_set sc.nd rfl (Or.inl rfl) q))) bj_nil))))) (bj_one (sj_ret (ej_tupleC h.nb (aj_cons (ej_var (pv 3)) aj_nil))))))
theorem u_Collation_ranks_Collation (h : Fx P w K mg base) : ∃ fd, FunD K "ranks" "Collation.ranks" (defArgs (inClass (top 20) 6)) (defBody (inClass (top 20) 6)) (defScope (inClass (top 20) 6)) [] [] (He.fAd K ("Collation", some "ranks")) fd := h.x.sx.def_ 2 (d := d_Collation_ranks_Collation) rfl
theorem r_Collation_ranks_Collation (h : Fx P w K mg base) : FR (cmK K) P w K mg base 4 (He.fAd K ("Collation", some "ranks")) F_Collation_ranks := by
  obtain ⟨fd, F⟩ := u_Collation_ranks_Collation h
  exact fr_of (g_Collation_ranks h (fun_of F)) (F.bindsN fun _ _ _ _ _ _ us hl => match us, hl with | [_, _], _ => rfl)
theorem sc_Upgrade_new : FnScope ["self"] ["self"] (defScope (inClass (top 28) 2)) := ⟨rfl, rfl, rfl, by decide +kernel, rfl, by decide +kernel, by decide +kernel⟩
theorem g_Upgrade_new (h : Fx P w K mg base) {f : Addr} {fd : FuncData} (Fn : Fun K "new" "Upgrade.new" (inClass (top 28) 2) f fd) : FJ (cmK K) P w K mg base 1 f fd ["self"] (fnB 1 0 m_Upgrade_new) :=
  fj_ofC (N := ["self"]) Fn sc_Upgrade_new rfl fun cdv A outer s H E hcd hr => by
    have sc := sc_Upgrade_new
    exact (bj_one (sj_ret (ej_fld (dAll1 ⟨c_Upgrade h, n_Upgrade_own_new h⟩) (ej_var (pv 0)))))
theorem j_Upgrade_new_Upgrade (h : Fx P w K mg base) : ∃ fd, FJ (cmK K) P w K mg base 1 (getAd K "Upgrade" "new") fd ["self"] (fnB 1 0 m_Upgrade_new) ∧ Binds K fd ["self"] [] := by
  obtain ⟨fd, F⟩ := FnA.funG (d := a_Upgrade_new_Upgrade) (st := (inClass (top 28) 2)) (h.x.fsAt 4 rfl) (exAt h.x.ex 4 rfl) rfl rfl rfl rfl
  refine ⟨fd, g_Upgrade_new h F, ?_⟩
  obtain ⟨oc, od, kV, doc, pm, an, cdv, ct, osl, rfl, lk, hcd⟩ := F.ex
  exact .all fun us hl => match us, hl with | [_], _ => rfl
theorem sc_Upgrade_old : FnScope ["self"] ["self"] (defScope (inClass (top 28) 1)) := ⟨rfl, rfl, rfl, by decide +kernel, rfl, by decide +kernel, by decide +kernel⟩
theorem g_Upgrade_old (h : Fx P w K mg base) {f : Addr} {fd : FuncData} (Fn : Fun K "old" "Upgrade.old" (inClass (top 28) 1) f fd) : FJ (cmK K) P w K mg base 1 f fd ["self"] (fnB 1 0 m_Upgrade_old) :=
  fj_ofC (N := ["self"]) Fn sc_Upgrade_old rfl fun cdv A outer s H E hcd hr => by
    have sc := sc_Upgrade_old
    exact (bj_one (sj_ret (ej_fld (dAll1 ⟨c_Upgrade h, n_Upgrade_own_old h⟩) (ej_var (pv 0)))))
theorem j_Upgrade_old_Upgrade (h : Fx P w K mg base) : ∃ fd, FJ (cmK K) P w K mg base 1 (getAd K "Upgrade" "old") fd ["self"] (fnB 1 0 m_Upgrade_old) ∧ Binds K fd ["self"] [] := by
  obtain ⟨fd, F⟩ := FnA.funG (d := a_Upgrade_old_Upgrade) (st := (inClass (top 28) 1)) (h.x.fsAt 5 rfl) (exAt h.x.ex 5 rfl) rfl rfl rfl rfl
  refine ⟨fd, g_Upgrade_old h F, ?_⟩
  obtain ⟨oc, od, kV, doc, pm, an, cdv, ct, osl, rfl, lk, hcd⟩ := F.ex
  exact .all fun us hl => match us, hl with | [_], _ => rfl
theorem sc_Upgrade_are_flipped : FnScope ["self", "text", "other"] ["self", "text", "other"] (defScope (inClass (top 28) 14)) := ⟨rfl, rfl, rfl, by decide +kernel, rfl, by decide +kernel, by decide +kernel⟩
theorem g_Upgrade_are_flipped (h : Fx P w K mg base) {f : Addr} {fd : FuncData} (Fn : Fun K "are_flipped" "Upgrade.are_flipped" (inClass (top 28) 14) f fd) : FJ (cmK K) P w K mg base 5 f fd ["self", "text", "other"] (fnB 3 0 m_Upgrade_are_flipped) :=
  fj_ofC (N := ["self", "text", "other"]) Fn sc_Upgrade_are_flipped rfl fun cdv A outer s H E hcd hr => by
    have sc := sc_Upgrade_are_flipped
    exact (bj_one (sj_ret (ej_ne hr.units (ej_lt hr.units (ej_meth (by decide) (dAll1 (md_of (c_Collation h) (me_Collation_ranks h) (r_Collation_ranks_Collation h) (hr.mono (by decide)))) (ej_prop (by decide) (dAll1 (pd_of (c_Upgrade h) (p_Upgrade_old h) (j_Upgrade_old_Upgrade h) rfl (hr.mono (by decide)))) (ej_var (pv 0))) (aj_cons (ej_var (pv 1)) aj_nil)) (ej_meth (by decide) (dAll1 (md_of (c_Collation h) (me_Collation_ranks h) (r_Collation_ranks_Collation h) (hr.mono (by decide)))) (ej_prop (by decide) (dAll1 (pd_of (c_Upgrade h) (p_Upgrade_old h) (j_Upgrade_old_Upgrade h) rfl (hr.mono (by decide)))) (ej_var (pv 0))) (aj_cons (ej_var (pv 2)) aj_nil))) (ej_lt hr.units (ej_meth (by decide) (dAll1 (md_of (c_Collation h) (me_Collation_ranks h) (r_Collation_ranks_Collation h) (hr.mono (by decide)))) (ej_prop (by decide) (dAll1 (pd_of (c_Upgrade h) (p_Upgrade_new h) (j_Upgrade_new_Upgrade h) rfl (hr.mono (by decide)))) (ej_var (pv 0))) (aj_cons (ej_var (pv 1)) aj_nil)) (ej_meth (by decide) (dAll1 (md_of (c_Collation h) (me_Collation_ranks h) (r_Collation_ranks_Collation h) (hr.mono (by decide)))) (ej_prop (by decide) (dAll1 (pd_of (c_Upgrade h) (p_Upgrade_new h) (j_Upgrade_new_Upgrade h) rfl (hr.mono (by decide)))) (ej_var (pv 0))) (aj_cons (ej_var (pv 2)) aj_nil))))))
theorem u_Upgrade_are_flipped_Upgrade (h : Fx P w K mg base) : ∃ fd, FunD K "are_flipped" "Upgrade.are_flipped" (defArgs (inClass (top 28) 14)) (defBody (inClass (top 28) 14)) (defScope (inClass (top 28) 14)) [] [] (He.fAd K ("Upgrade", some "are_flipped")) fd := h.x.sx.def_ 3 (d := d_Upgrade_are_flipped_Upgrade) rfl
theorem r_Upgrade_are_flipped_Upgrade (h : Fx P w K mg base) : FR (cmK K) P w K mg base 5 (He.fAd K ("Upgrade", some "are_flipped")) F_Upgrade_are_flipped := by
  obtain ⟨fd, F⟩ := u_Upgrade_are_flipped_Upgrade h
  exact fr_of (g_Upgrade_are_flipped h (fun_of F)) (F.bindsN fun _ _ _ _ _ _ us hl => match us, hl with | [_, _, _], _ => rfl)
theorem sc_Language_is_live : FnScope ["self", "state"] ["self", "state"] (defScope (inClass (top 21) 8)) := ⟨rfl, rfl, rfl, by decide +kernel, rfl, by decide +kernel, by decide +kernel⟩
theorem g_Language_is_live (h : Fx P w K mg base) {f : Addr} {fd : FuncData} (Fn : Fun K "is_live" "Language.is_live" (inClass (top 21) 8) f fd) : FJ (cmK K) P w K mg base 1 f fd ["self", "state"] (fnB 2 0 m_Language_is_live) :=
  fj_ofC (N := ["self", "state"]) Fn sc_Language_is_live rfl fun cdv A outer s H E hcd hr => by
    have sc := sc_Language_is_live
    exact (bj_one (sj_ret (ej_and (ej_notN (ej_var (pv 1)) ej_non) (ej_one (ej_notN (ej_ix (ej_fld (dAll1 ⟨c_Language h, n_Language_tails h⟩) (ej_var (pv 0))) (ej_var (pv 1))) ej_non)))))
theorem u_Language_is_live_Language (h : Fx P w K mg base) : ∃ fd, FunD K "is_live" "Language.is_live" (defArgs (inClass (top 21) 8)) (defBody (inClass (top 21) 8)) (defScope (inClass (top 21) 8)) [] [] (He.fAd K ("Language", some "is_live")) fd := h.x.sx.def_ 4 (d := d_Language_is_live_Language) rfl
theorem r_Language_is_live_Language (h : Fx P w K mg base) : FR (cmK K) P w K mg base 1 (He.fAd K ("Language", some "is_live")) F_Language_is_live := by
  obtain ⟨fd, F⟩ := u_Language_is_live_Language h
  exact fr_of (g_Language_is_live h (fun_of F)) (F.bindsN fun _ _ _ _ _ _ us hl => match us, hl with | [_, _], _ => rfl)
theorem sc_Language_options_at : FnScope ["self", "state", "first", "letter"] ["self", "state"] (defScope (inClass (top 21) 9)) := ⟨rfl, rfl, rfl, by decide +kernel, rfl, by decide +kernel, by decide +kernel⟩
theorem g_Language_options_at (h : Fx P w K mg base) {f : Addr} {fd : FuncData} (Fn : Fun K "options_at" "Language.options_at" (inClass (top 21) 9) f fd) : FJ (cmK K) P w K mg base 4 f fd ["self", "state"] (fnB 2 2 m_Language_options_at) :=
  fj_ofC (N := ["self", "state", "first", "letter"]) Fn sc_Language_options_at rfl fun cdv A outer s H E hcd hr => by
    have sc := sc_Language_options_at
    exact (bj_cons (sj_if (tj_not (tj_val (ej_meth (by decide) (dAll1 (md_of (c_Language h) (me_Language_is_live h) (r_Language_is_live_Language h) (hr.mono (by decide)))) (ej_var (pv 0)) (aj_cons (ej_var (pv 1)) aj_nil)))) (bj_one (sj_ret ej_str)) bj_nil) (bj_cons (sj_asg (ej_if (tj_val (ej_ix (ej_ix (ej_prop (by decide) (dAll1 (pd_of (c_Language h) (p_Language_states h) (j_Machine_states_Language h) rfl (hr.mono (by decide)))) (ej_var (pv 0))) (ej_var (pv 1))) ej_int)) (ej_globS (h.s_END).choose_spec) ej_str) (fun q => ps_set sc.nd rfl (Or.inl rfl) q)) (bj_one (sj_ret (ej_add (ej_var (pv 2)) (ej_join ej_str (ej_lc (own := [("letter", 3)]) rfl sc.nd (ij_e (ej_prop (by decide) (dAll1 (pd_of (c_Language h) (p_Language_letters h) (j_Machine_letters_Language h) rfl (hr.mono (by decide)))) (ej_var (pv 0)))) (blk_by (by kernel_rfl)) (fun _ _ _ _ _ => (gj_name (pg_name sc.nd rfl (Or.inl rfl)))) (fun _ _ _ _ _ => (tsj_one (tj_val (ej_meth (by decide) (dAll1 (md_of (c_Language h) (me_Language_is_live h) (r_Language_is_live_Language h) (hr.mono (by decide)))) (ej_var (pv 0)) (aj_cons (ej_meth (by decide) (dAll1 (md_of (c_Language h) (me_Language_move h) (r_Machine_move_Language h) (hr.mono (by decide)))) (ej_var (pv 0)) (aj_cons (ej_var (pv 1)) (aj_cons (ej_var (pv 3)) aj_nil))) aj_nil))))) (fun _ _ _ _ _ => (ej_var (pv 3))))))))))
theorem u_Language_options_at_Language (h : Fx P w K mg base) : ∃ fd, FunD K "options_at" "Language.options_at" (defArgs (inClass (top 21) 9)) (defBody (inClass (top 21) 9)) (defScope (inClass (top 21) 9)) [] [] (He.fAd K ("Language", some "options_at")) fd := h.x.sx.def_ 5 (d := d_Language_options_at_Language) rfl
theorem r_Language_options_at_Language (h : Fx P w K mg base) : FR (cmK K) P w K mg base 4 (He.fAd K ("Language", some "options_at")) F_Language_options_at := by
  obtain ⟨fd, F⟩ := u_Language_options_at_Language h
  exact fr_of (g_Language_options_at h (fun_of F)) (F.bindsN fun _ _ _ _ _ _ us hl => match us, hl with | [_, _], _ => rfl)
theorem sc_Machine_state_behind : FnScope ["self", "text", "state", "letter"] ["self", "text"] (defScope (inClass (top 19) 10)) := ⟨rfl, rfl, rfl, by decide +kernel, rfl, by decide +kernel, by decide +kernel⟩
theorem g_Machine_state_behind (h : Fx P w K mg base) {f : Addr} {fd : FuncData} (Fn : Fun K "state_behind" "Machine.state_behind" (inClass (top 19) 10) f fd) : FJ (cmK K) P w K mg base 4 f fd ["self", "text"] (fnB 2 2 m_Machine_state_behind) :=
  fj_ofC (N := ["self", "text", "state", "letter"]) Fn sc_Machine_state_behind rfl fun cdv A outer s H E hcd hr => by
    have sc := sc_Machine_state_behind
    exact (bj_cons (sj_asg ej_int (fun q => ps_set sc.nd rfl (Or.inl rfl) q)) (bj_cons (sj_for (passes_of rfl) rfl (ij_e (ej_var (pv 1))) (gj_name (pg_name sc.nd rfl (Or.inl rfl))) (bj_one (sj_asg (ej_meth (by decide) (dAllC (md_of (c_Collation h) (me_Collation_move h) (r_Machine_move_Collation h) (hr.mono (by decide))) (dAll1 (md_of (c_Language h) (me_Language_move h) (r_Machine_move_Language h) (hr.mono (by decide))))) (ej_var (pv 0)) (aj_cons (ej_var (pv 2)) (aj_cons (ej_var (pv 3)) aj_nil))) (fun q => ps_set sc.nd rfl (Or.inl rfl) q)))) (bj_one (sj_ret (ej_var (pv 2))))))
theorem u_Machine_state_behind_Language (h : Fx P w K mg base) : ∃ fd, FunD K "state_behind" "Machine.state_behind" (defArgs (inClass (top 19) 10)) (defBody (inClass (top 19) 10)) (defScope (inClass (top 19) 10)) [] [] (He.fAd K ("Language", some "state_behind")) fd := h.x.sx.def_ 6 (d := d_Machine_state_behind_Language) rfl
theorem r_Machine_state_behind_Language (h : Fx P w K mg base) : FR (cmK K) P w K mg base 4 (He.fAd K ("Language", some "state_behind")) F_Machine_state_behind := by
  obtain ⟨fd, F⟩ := u_Machine_state_behind_Language h
  exact fr_of (g_Machine_state_behind h (fun_of F)) (F.bindsN fun _ _ _ _ _ _ us hl => match us, hl with | [_, _], _ => rfl)
theorem sc_Language_has : FnScope ["self", "text"] ["self", "text"] (defScope (inClass (top 21) 11)) := ⟨rfl, rfl, rfl, by decide +kernel, rfl, by decide +kernel, by decide +kernel⟩
theorem g_Language_has (h : Fx P w K mg base) {f : Addr} {fd : FuncData} (Fn : Fun K "has" "Language.has" (inClass (top 21) 11) f fd) : FJ (cmK K) P w K mg base 5 f fd ["self", "text"] (fnB 2 0 m_Language_has) :=
  fj_ofC (N := ["self", "text"]) Fn sc_Language_has rfl fun cdv A outer s H E hcd hr => by
    have sc := sc_Language_has
    exact (bj_one (sj_ret (ej_in (units65 hr) (ej_globS (h.s_END).choose_spec) (ej_meth (by decide) (dAll1 (md_of (c_Language h) (me_Language_options_at h) (r_Language_options_at_Language h) (hr.mono (by decide)))) (ej_var (pv 0)) (aj_cons (ej_meth (by decide) (dAll1 (md_of (c_Language h) (me_Language_state_behind h) (r_Machine_state_behind_Language h) (hr.mono (by decide)))) (ej_var (pv 0)) (aj_cons (ej_var (pv 1)) aj_nil)) aj_nil)))))
theorem u_Language_has_Language (h : Fx P w K mg base) : ∃ fd, FunD K "has" "Language.has" (defArgs (inClass (top 21) 11)) (defBody (inClass (top 21) 11)) (defScope (inClass (top 21) 11)) [] [] (He.fAd K ("Language", some "has")) fd := h.x.sx.def_ 7 (d := d_Language_has_Language) rfl
theorem r_Language_has_Language (h : Fx P w K mg base) : FR (cmK K) P w K mg base 5 (He.fAd K ("Language", some "has")) F_Language_has := by
  obtain ⟨fd, F⟩ := u_Language_has_Language h
  exact fr_of (g_Language_has h (fun_of F)) (F.bindsN fun _ _ _ _ _ _ us hl => match us, hl with | [_, _], _ => rfl)
theorem sc_is_text : FnScope ["value", "letters", "letter"] ["value", "letters"] (defScope (top 17)) := ⟨rfl, rfl, rfl, by decide +kernel, rfl, by decide +kernel, by decide +kernel⟩
theorem g_is_text (h : Fx P w K mg base) {f : Addr} {fd : FuncData} (Fn : Fun K "is_text" "is_text" (top 17) f fd) : FJ (cmK K) P w K mg base 1 f fd ["value", "letters"] (fnB 2 1 m_is_text) :=
  fj_ofC (N := ["value", "letters", "letter"]) Fn sc_is_text rfl fun cdv A outer s H E hcd hr => by
    have sc := sc_is_text
    exact (bj_one (sj_ret (ej_and (ej_isT h.nb bb_str (h.nb _ (by decide)) (ej_var (pv 0))) (ej_one (ej_all h.nb (aj_cons (ej_lc (own := [("letter", 2)]) rfl sc.nd (ij_e (ej_var (pv 0))) (blk_by (by kernel_rfl)) (fun _ _ _ _ _ => (gj_name (pg_name sc.nd rfl (Or.inl rfl)))) (fun _ _ _ _ _ => tsj_nil) (fun _ _ _ _ _ => (ej_in (units65 hr) (ej_var (pv 2)) (ej_var (pv 1))))) aj_nil) rfl)))))
theorem u_is_text (h : Fx P w K mg base) : ∃ fd, FunD K "is_text" "is_text" (defArgs (top 17)) (defBody (top 17)) (defScope (top 17)) [] [] (He.fAd K ("is_text", none)) fd := h.x.sx.def_ 8 (d := d_is_text) rfl
theorem r_is_text (h : Fx P w K mg base) : FR (cmK K) P w K mg base 1 (He.fAd K ("is_text", none)) F_is_text := by
  obtain ⟨fd, F⟩ := u_is_text h
  exact fr_of (g_is_text h (fun_of F)) (F.bindsN fun _ _ _ _ _ _ us hl => match us, hl with | [_, _], _ => rfl)
theorem kp_is_text (h : Fx P w K mg base) : PySem.W.keepIn K (.ref (He.fAd K ("is_text", none))) = true := by obtain ⟨fd, F⟩ := u_is_text h; exact F.kp
theorem sc_may_be_passed : FnScope ["value", "letters"] ["value", "letters"] (defScope (top 18)) := ⟨rfl, rfl, rfl, by decide +kernel, rfl, by decide +kernel, by decide +kernel⟩
theorem g_may_be_passed (h : Fx P w K mg base) {f : Addr} {fd : FuncData} (Fn : Fun K "may_be_passed" "may_be_passed" (top 18) f fd) : FJ (cmK K) P w K mg base 2 f fd ["value", "letters"] (fnB 2 0 m_may_be_passed) :=
  fj_ofC (N := ["value", "letters"]) Fn sc_may_be_passed rfl fun cdv A outer s H E hcd hr => by
    have sc := sc_may_be_passed
    exact (bj_one (sj_ret (ej_and (ej_callF (r_is_text h) (hr.mono (by decide)) (h.glo_is_text) (kp_is_text h) (aj_cons (ej_var (pv 0)) (aj_cons (ej_var (pv 1)) aj_nil))) (ej_one (ej_le hr.units (ej_len h.nb (aj_cons (ej_var (pv 0)) aj_nil)) (ej_globI (h.i_LONGEST_TEXT).choose_spec))))))
theorem u_may_be_passed (h : Fx P w K mg base) : ∃ fd, FunD K "may_be_passed" "may_be_passed" (defArgs (top 18)) (defBody (top 18)) (defScope (top 18)) [] [] (He.fAd K ("may_be_passed", none)) fd := h.x.sx.def_ 9 (d := d_may_be_passed) rfl
theorem r_may_be_passed (h : Fx P w K mg base) : FR (cmK K) P w K mg base 2 (He.fAd K ("may_be_passed", none)) F_may_be_passed := by
  obtain ⟨fd, F⟩ := u_may_be_passed h
  exact fr_of (g_may_be_passed h (fun_of F)) (F.bindsN fun _ _ _ _ _ _ us hl => match us, hl with | [_, _], _ => rfl)
theorem kp_may_be_passed (h : Fx P w K mg base) : PySem.W.keepIn K (.ref (He.fAd K ("may_be_passed", none))) = true := by obtain ⟨fd, F⟩ := u_may_be_passed h; exact F.kp
theorem sc_Machine_need_text : FnScope ["self", "text"] ["self", "text"] (defScope (inClass (top 19) 9)) := ⟨rfl, rfl, rfl, by decide +kernel, rfl, by decide +kernel, by decide +kernel⟩
theorem g_Machine_need_text (h : Fx P w K mg base) {f : Addr} {fd : FuncData} (Fn : Fun K "need_text" "Machine.need_text" (inClass (top 19) 9) f fd) : FJ (cmK K) P w K mg base 3 f fd ["self", "text"] (fnB 2 0 m_Machine_need_text) :=
  fj_ofC (N := ["self", "text"]) Fn sc_Machine_need_text rfl fun cdv A outer s H E hcd hr => by
    have sc := sc_Machine_need_text
    exact (bj_one (sj_if (tj_not (tj_val (ej_callF (r_may_be_passed h) (hr.mono (by decide)) (h.glo_may_be_passed) (kp_may_be_passed h) (aj_cons (ej_var (pv 1)) (aj_cons (ej_prop (by decide) (dAllC (pd_of (c_Collation h) (p_Collation_letters h) (j_Machine_letters_Collation h) rfl (hr.mono (by decide))) (dAll1 (pd_of (c_Language h) (p_Language_letters h) (j_Machine_letters_Language h) rfl (hr.mono (by decide))))) (ej_var (pv 0))) aj_nil))))) (bj_one sj_never) bj_nil))
theorem u_Machine_need_text_Language (h : Fx P w K mg base) : ∃ fd, FunD K "need_text" "Machine.need_text" (defArgs (inClass (top 19) 9)) (defBody (inClass (top 19) 9)) (defScope (inClass (top 19) 9)) [] [] (He.fAd K ("Language", some "need_text")) fd := h.x.sx.def_ 10 (d := d_Machine_need_text_Language) rfl
theorem r_Machine_need_text_Language (h : Fx P w K mg base) : FR (cmK K) P w K mg base 3 (He.fAd K ("Language", some "need_text")) F_Machine_need_text := by
  obtain ⟨fd, F⟩ := u_Machine_need_text_Language h
  exact fr_of (g_Machine_need_text h (fun_of F)) (F.bindsN fun _ _ _ _ _ _ us hl => match us, hl with | [_, _], _ => rfl)
theorem sc_Upgrade_language : FnScope ["self"] ["self"] (defScope (inClass (top 28) 3)) := ⟨rfl, rfl, rfl, by decide +kernel, rfl, by decide +kernel, by decide +kernel⟩
theorem g_Upgrade_language (h : Fx P w K mg base) {f : Addr} {fd : FuncData} (Fn : Fun K "language" "Upgrade.language" (inClass (top 28) 3) f fd) : FJ (cmK K) P w K mg base 1 f fd ["self"] (fnB 1 0 m_Upgrade_language) :=
  fj_ofC (N := ["self"]) Fn sc_Upgrade_language rfl fun cdv A outer s H E hcd hr => by
    have sc := sc_Upgrade_language
    exact (bj_one (sj_ret (ej_fld (dAll1 ⟨c_Upgrade h, n_Upgrade_own_language h⟩) (ej_var (pv 0)))))
theorem j_Upgrade_language_Upgrade (h : Fx P w K mg base) : ∃ fd, FJ (cmK K) P w K mg base 1 (getAd K "Upgrade" "language") fd ["self"] (fnB 1 0 m_Upgrade_language) ∧ Binds K fd ["self"] [] := by
  obtain ⟨fd, F⟩ := FnA.funG (d := a_Upgrade_language_Upgrade) (st := (inClass (top 28) 3)) (h.x.fsAt 6 rfl) (exAt h.x.ex 6 rfl) rfl rfl rfl rfl
  refine ⟨fd, g_Upgrade_language h F, ?_⟩
  obtain ⟨oc, od, kV, doc, pm, an, cdv, ct, osl, rfl, lk, hcd⟩ := F.ex
  exact .all fun us hl => match us, hl with | [_], _ => rfl
theorem sc_Upgrade_need_text : FnScope ["self", "text"] ["self", "text"] (defScope (inClass (top 28) 6)) := ⟨rfl, rfl, rfl, by decide +kernel, rfl, by decide +kernel, by decide +kernel⟩
theorem g_Upgrade_need_text (h : Fx P w K mg base) {f : Addr} {fd : FuncData} (Fn : Fun K "need_text" "Upgrade.need_text" (inClass (top 28) 6) f fd) : FJ (cmK K) P w K mg base 6 f fd ["self", "text"] (fnB 2 0 m_Upgrade_need_text) :=
  fj_ofC (N := ["self", "text"]) Fn sc_Upgrade_need_text rfl fun cdv A outer s H E hcd hr => by
    have sc := sc_Upgrade_need_text
    exact (bj_cons (sj_expr (ej_meth (by decide) (dAll1 (md_of (c_Language h) (me_Language_need_text h) (r_Machine_need_text_Language h) (hr.mono (by decide)))) (ej_prop (by decide) (dAll1 (pd_of (c_Upgrade h) (p_Upgrade_language h) (j_Upgrade_language_Upgrade h) rfl (hr.mono (by decide)))) (ej_var (pv 0))) (aj_cons (ej_var (pv 1)) aj_nil))) (bj_one (sj_if (tj_not (tj_val (ej_meth (by decide) (dAll1 (md_of (c_Language h) (me_Language_has h) (r_Language_has_Language h) (hr.mono (by decide)))) (ej_prop (by decide) (dAll1 (pd_of (c_Upgrade h) (p_Upgrade_language h) (j_Upgrade_language_Upgrade h) rfl (hr.mono (by decide)))) (ej_var (pv 0))) (aj_cons (ej_var (pv 1)) aj_nil)))) (bj_one sj_never) bj_nil)))
theorem u_Upgrade_need_text_Upgrade (h : Fx P w K mg base) : ∃ fd, FunD K "need_text" "Upgrade.need_text" (defArgs (inClass (top 28) 6)) (defBody (inClass (top 28) 6)) (defScope (inClass (top 28) 6)) [] [] (He.fAd K ("Upgrade", some "need_text")) fd := h.x.sx.def_ 11 (d := d_Upgrade_need_text_Upgrade) rfl
theorem r_Upgrade_need_text_Upgrade (h : Fx P w K mg base) : FR (cmK K) P w K mg base 6 (He.fAd K ("Upgrade", some "need_text")) F_Upgrade_need_text := by
  obtain ⟨fd, F⟩ := u_Upgrade_need_text_Upgrade h
  exact fr_of (g_Upgrade_need_text h (fun_of F)) (F.bindsN fun _ _ _ _ _ _ us hl => match us, hl with | [_, _], _ => rfl)
theorem sc_Upgrade_flips : FnScope ["self", "text", "other"] ["self", "text", "other"] (defScope (inClass (top 28) 15)) := ⟨rfl, rfl, rfl, by decide +kernel, rfl, by decide +kernel, by decide +kernel⟩
theorem g_Upgrade_flips (h : Fx P w K mg base) {f : Addr} {fd : FuncData} (Fn : Fun K "flips" "Upgrade.flips" (inClass (top 28) 15) f fd) : FJ (cmK K) P w K mg base 7 f fd ["self", "text", "other"] (fnB 3 0 m_Upgrade_flips) :=
  fj_ofC (N := ["self", "text", "other"]) Fn sc_Upgrade_flips rfl fun cdv A outer s H E hcd hr => by
    have sc := sc_Upgrade_flips
    exact (bj_cons (sj_expr (ej_meth (by decide) (dAll1 (md_of (c_Upgrade h) (me_Upgrade_need_text h) (r_Upgrade_need_text_Upgrade h) (hr.mono (by decide)))) (ej_var (pv 0)) (aj_cons (ej_var (pv 1)) aj_nil))) (bj_cons (sj_expr (ej_meth (by decide) (dAll1 (md_of (c_Upgrade h) (me_Upgrade_need_text h) (r_Upgrade_need_text_Upgrade h) (hr.mono (by decide)))) (ej_var (pv 0)) (aj_cons (ej_var (pv 2)) aj_nil))) (bj_one (sj_ret (ej_meth (by decide) (dAll1 (md_of (c_Upgrade h) (me_Upgrade_are_flipped h) (r_Upgrade_are_flipped_Upgrade h) (hr.mono (by decide)))) (ej_var (pv 0)) (aj_cons (ej_var (pv 1)) (aj_cons (ej_var (pv 2)) aj_nil)))))))
theorem u_Upgrade_flips_Upgrade (h : Fx P w K mg base) : ∃ fd, FunD K "flips" "Upgrade.flips" (defArgs (inClass (top 28) 15)) (defBody (inClass (top 28) 15)) (defScope (inClass (top 28) 15)) [] [] (He.fAd K ("Upgrade", some "flips")) fd := h.x.sx.def_ 12 (d := d_Upgrade_flips_Upgrade) rfl
theorem r_Upgrade_flips_Upgrade (h : Fx P w K mg base) : FR (cmK K) P w K mg base 7 (He.fAd K ("Upgrade", some "flips")) F_Upgrade_flips := by
  obtain ⟨fd, F⟩ := u_Upgrade_flips_Upgrade h
  exact fr_of (g_Upgrade_flips h (fun_of F)) (F.bindsN fun _ _ _ _ _ _ us hl => match us, hl with | [_, _, _], _ => rfl)
theorem sc__law_bag : FnScope ["_law_script", "_law_at", "_law_cell", "_law_digits"] ["_law_script", "_law_at"] (defScope (top 30)) := ⟨rfl, rfl, rfl, by decide +kernel, rfl, by decide +kernel, by decide +kernel⟩
theorem g__law_bag (h : Fx P w K mg base) {f : Addr} {fd : FuncData} (Fn : Fun K "_law_bag" "_law_bag" (top 30) f fd) : FJ (cmK K) P w K mg base 1 f fd ["_law_script", "_law_at"] (fnB 2 2 m__law_bag) :=
  fj_ofC (N := ["_law_script", "_law_at", "_law_cell", "_law_digits"]) Fn sc__law_bag rfl fun cdv A outer s H E hcd hr => by
    have sc := sc__law_bag
    exact (bj_cons (sj_asg (ej_if (tj_lt hr.units (ej_var (pv 1)) (ej_len h.nb (aj_cons (ej_var (pv 0)) aj_nil))) (ej_ix (ej_var (pv 0)) (ej_var (pv 1))) ej_int) (fun q => ps_set sc.nd rfl (Or.inl rfl) q)) (bj_cons (sj_asg (ej_if (tj_ge hr.units (ej_abs h.nb (aj_cons (ej_var (pv 2)) aj_nil)) (ej_pow ej_int ej_int)) (ej_abs h.nb (aj_cons (ej_var (pv 2)) aj_nil)) ej_int) (fun q => ps_set sc.nd rfl (Or.inl rfl) q)) (bj_one (sj_ret (ej_lst (aj_cons (ej_var (pv 3)) (aj_cons (ej_mod (ej_mul2 (ej_intC2 h.nb (aj_cons (ej_add (ej_add (ej_mod (ej_intC2 h.nb (aj_cons (ej_var (pv 2)) aj_nil)) ej_int) (ej_mul2 ej_int (ej_var (pv 1)))) ej_int) aj_nil)) ej_int) ej_int) (aj_cons ej_int aj_nil))))))))
theorem u__law_bag (h : Fx P w K mg base) : ∃ fd, FunD K "_law_bag" "_law_bag" (defArgs (top 30)) (defBody (top 30)) (defScope (top 30)) [] [] (He.fAd K ("_law_bag", none)) fd := h.x.sx.def_ 13 (d := d__law_bag) rfl
theorem r__law_bag (h : Fx P w K mg base) : FR (cmK K) P w K mg base 1 (He.fAd K ("_law_bag", none)) F__law_bag := by
  obtain ⟨fd, F⟩ := u__law_bag h
  exact fr_of (g__law_bag h (fun_of F)) (F.bindsN fun _ _ _ _ _ _ us hl => match us, hl with | [_, _], _ => rfl)
theorem kp__law_bag (h : Fx P w K mg base) : PySem.W.keepIn K (.ref (He.fAd K ("_law_bag", none))) = true := by obtain ⟨fd, F⟩ := u__law_bag h; exact F.kp
theorem sc__law_take : FnScope ["_law_bag_here", "_law_many", "_law_mixed", "_law_digit"] ["_law_bag_here", "_law_many"] (defScope (top 31)) := ⟨rfl, rfl, rfl, by decide +kernel, rfl, by decide +kernel, by decide +kernel⟩
theorem g__law_take (h : Fx P w K mg base) {f : Addr} {fd : FuncData} (Fn : Fun K "_law_take" "_law_take" (top 31) f fd) : FJ (cmK K) P w K mg base 1 f fd ["_law_bag_here", "_law_many"] (fnB 2 2 m__law_take) :=
  fj_ofC (N := ["_law_bag_here", "_law_many", "_law_mixed", "_law_digit"]) Fn sc__law_take rfl fun cdv A outer s H E hcd hr => by
    have sc := sc__law_take
    exact (bj_cons (sj_if (tj_gt hr.units (ej_ix (ej_var (pv 0)) ej_int) ej_int) (bj_cons (sj_asg (ej_mod (ej_intC2 h.nb (aj_cons (ej_ix (ej_var (pv 0)) ej_int) aj_nil)) (ej_var (pv 1))) (fun q => ps_set sc.nd rfl (Or.inl rfl) q)) (bj_cons (sj_setIx (ej_fdiv (ej_ix (ej_var (pv 0)) ej_int) (ej_var (pv 1))) (ej_var (pv 0)) ej_int) (bj_one (sj_ret (ej_var (pv 3)))))) bj_nil) (bj_cons (sj_setIx (ej_add (ej_ix (ej_var (pv 0)) ej_int) ej_int) (ej_var (pv 0)) ej_int) (bj_cons (sj_asg (ej_mod (ej_intC2 h.nb (aj_cons (ej_pow (ej_add (ej_ix (ej_var (pv 0)) ej_int) (ej_mul2 ej_int (ej_ix (ej_var (pv 0)) ej_int))) ej_int) aj_nil)) ej_int) (fun q => ps_set sc.nd rfl (Or.inl rfl) q)) (bj_cons (sj_asg (ej_mod (ej_intC2 h.nb (aj_cons (ej_pow (ej_add (ej_var (pv 2)) (ej_mul2 ej_int (ej_ix (ej_var (pv 0)) ej_int))) ej_int) aj_nil)) ej_int) (fun q => ps_set sc.nd rfl (Or.inl rfl) q)) (bj_one (sj_ret (ej_mod (ej_intC2 h.nb (aj_cons (ej_fdiv (ej_var (pv 2)) ej_int) aj_nil)) (ej_var (pv 1)))))))))
theorem u__law_take (h : Fx P w K mg base) : ∃ fd, FunD K "_law_take" "_law_take" (defArgs (top 31)) (defBody (top 31)) (defScope (top 31)) [] [] (He.fAd K ("_law_take", none)) fd := h.x.sx.def_ 14 (d := d__law_take) rfl
theorem r__law_take (h : Fx P w K mg base) : FR (cmK K) P w K mg base 1 (He.fAd K ("_law_take", none)) F__law_take := by
  obtain ⟨fd, F⟩ := u__law_take h
  exact fr_of (g__law_take h (fun_of F)) (F.bindsN fun _ _ _ _ _ _ us hl => match us, hl with | [_, _], _ => rfl)
theorem kp__law_take (h : Fx P w K mg base) : PySem.W.keepIn K (.ref (He.fAd K ("_law_take", none))) = true := by obtain ⟨fd, F⟩ := u__law_take h; exact F.kp
theorem sc__law_language : FnScope ["_law_bag_here", "_law_letters", "_law_many", "_law_found", "_law_state", "_law_moves", "_law_letter"] ["_law_bag_here", "_law_letters", "_law_many"] (defScope (top 36)) := ⟨rfl, rfl, rfl, by decide +kernel, rfl, by decide +kernel, by decide +kernel⟩
theorem g__law_language (h : Fx P w K mg base) {f : Addr} {fd : FuncData} (Fn : Fun K "_law_language" "_law_language" (top 36) f fd) : FJ (cmK K) P w K mg base 2 f fd ["_law_bag_here", "_law_letters", "_law_many"] (fnB 3 4 m__law_language) :=
  fj_ofC (N := ["_law_bag_here", "_law_letters", "_law_many", "_law_found", "_law_state", "_law_moves", "_law_letter"]) Fn sc__law_language rfl fun cdv A outer s H E hcd hr => by
    have sc := sc__law_language
    exact (bj_cons (sj_asg (ej_lst aj_nil) (fun q => ps_set sc.nd rfl (Or.inl rfl) q)) (bj_cons (sj_for (passes_of rfl) rfl (ij_r1 rfl (h.nb _ (by decide)) (aj_cons (ej_var (pv 2)) aj_nil)) (gj_name (pg_name sc.nd rfl (Or.inl rfl))) (bj_cons (by first | exact (sj_setLc (own := [("_law_letter", 6)]) rfl sc.nd rfl rfl rfl (ij_e (ej_var (pv 1))) (blk_by (by kernel_rfl)) (fun _ _ _ _ _ => (gj_name (pg_name sc.nd rfl (Or.inl rfl)))) (fun _ _ _ _ _ => tsj_nil) (fun _ _ _ _ _ => (ej_if (tj_eq hr.units (ej_callF (r__law_take h) (hr.mono (by decide)) (h.glo__law_take) (kp__law_take h) (aj_cons (ej_var (pv 0)) (aj_cons ej_int aj_nil))) ej_int) ej_non (ej_callF (r__law_take h) (hr.mono (by decide)) (h.glo__law_take) (kp__law_take h) (aj_cons (ej_var (pv 0)) (aj_cons (ej_var (pv 2)) aj_nil)))))) | exact (sj_asg (ej_lc (own := [("_law_letter", 6)]) rfl sc.nd (ij_e (ej_var (pv 1))) (blk_by (by kernel_rfl)) (fun _ _ _ _ _ => (gj_name (pg_name sc.nd rfl (Or.inl rfl)))) (fun _ _ _ _ _ => tsj_nil) (fun _ _ _ _ _ => (ej_if (tj_eq hr.units (ej_callF (r__law_take h) (hr.mono (by decide)) (h.glo__law_take) (kp__law_take h) (aj_cons (ej_var (pv 0)) (aj_cons ej_int aj_nil))) ej_int) ej_non (ej_callF (r__law_take h) (hr.mono (by decide)) (h.glo__law_take) (kp__law_take h) (aj_cons (ej_var (pv 0)) (aj_cons (ej_var (pv 2)) aj_nil)))))) (fun q => ps_set sc.nd rfl (Or.inl rfl) q))) (bj_one (sj_expr (ej_append (ej_var (pv 3)) (aj_cons (ej_tup (aj_cons (ej_gt hr.units (ej_callF (r__law_take h) (hr.mono (by decide)) (h.glo__law_take) (kp__law_take h) (aj_cons (ej_var (pv 0)) (aj_cons ej_int aj_nil))) ej_int) (aj_cons (ej_tupleC h.nb (aj_cons (ej_var (pv 5)) aj_nil)) aj_nil))) aj_nil)))))) (bj_one (sj_ret (ej_var (pv 3))))))
theorem u__law_language (h : Fx P w K mg base) : ∃ fd, FunD K "_law_language" "_law_language" (defArgs (top 36)) (defBody (top 36)) (defScope (top 36)) [] [] (He.fAd K ("_law_language", none)) fd := h.x.sx.def_ 15 (d := d__law_language) rfl
theorem r__law_language (h : Fx P w K mg base) : FR (cmK K) P w K mg base 2 (He.fAd K ("_law_language", none)) F__law_language := by
  obtain ⟨fd, F⟩ := u__law_language h
  exact fr_of (g__law_language h (fun_of F)) (F.bindsN fun _ _ _ _ _ _ us hl => match us, hl with | [_, _, _], _ => rfl)
theorem kp__law_language (h : Fx P w K mg base) : PySem.W.keepIn K (.ref (He.fAd K ("_law_language", none))) = true := by obtain ⟨fd, F⟩ := u__law_language h; exact F.kp
theorem sc__law_near : FnScope ["_law_bag_here", "_law_order_here", "_law_most", "_law_found", "_law_turn", "_law_state", "_law_spot", "_law_turned", "_law_ranking", "_law_moves"] ["_law_bag_here", "_law_order_here", "_law_most"] (defScope (top 35)) := ⟨rfl, rfl, rfl, by decide +kernel, rfl, by decide +kernel, by decide +kernel⟩
theorem g__law_near (h : Fx P w K mg base) {f : Addr} {fd : FuncData} (Fn : Fun K "_law_near" "_law_near" (top 35) f fd) : FJ (cmK K) P w K mg base 2 f fd ["_law_bag_here", "_law_order_here", "_law_most"] (fnB 3 7 m__law_near) :=
  fj_ofC (N := ["_law_bag_here", "_law_order_here", "_law_most", "_law_found", "_law_turn", "_law_state", "_law_spot", "_law_turned", "_law_ranking", "_law_moves"]) Fn sc__law_near rfl fun cdv A outer s H E hcd hr => by
    have sc := sc__law_near
    exact (bj_cons (sj_asg (ej_listC h.nb (aj_cons (ej_var (pv 1)) aj_nil) rfl) (fun q => ps_set sc.nd rfl (Or.inl rfl) q)) (bj_cons (sj_for (passes_of rfl) rfl (ij_r1 rfl (h.nb _ (by decide)) (aj_cons (ej_callF (r__law_take h) (hr.mono (by decide)) (h.glo__law_take) (kp__law_take h) (aj_cons (ej_var (pv 0)) (aj_cons (ej_add (ej_var (pv 2)) ej_int) aj_nil))) aj_nil)) (gj_name (pg_name sc.nd rfl (Or.inl rfl))) (bj_cons (sj_asg (ej_callF (r__law_take h) (hr.mono (by decide)) (h.glo__law_take) (kp__law_take h) (aj_cons (ej_var (pv 0)) (aj_cons (ej_len h.nb (aj_cons (ej_var (pv 3)) aj_nil)) aj_nil))) (fun q => ps_set sc.nd rfl (Or.inl rfl) q)) (bj_cons (sj_asgG (ej_ix (ej_var (pv 3)) (ej_var (pv 5))) (gj_tup rfl (gsj_cons (gj_name (pg_name sc.nd rfl (Or.inl rfl))) (gsj_cons (gj_name (pg_name sc.nd rfl (Or.inl rfl))) gsj_nil (fun a b => pgs_cons a b)) (fun a b => pgs_cons a b)))) (bj_cons (sj_asg (ej_callF (r__law_take h) (hr.mono (by decide)) (h.glo__law_take) (kp__law_take h) (aj_cons (ej_var (pv 0)) (aj_cons (ej_sub (ej_len h.nb (aj_cons (ej_var (pv 8)) aj_nil)) ej_int) aj_nil))) (fun q => ps_set sc.nd rfl (Or.inl rfl) q)) (bj_cons (sj_asg (ej_revS (ej_sl (ej_var (pv 8)) (oj_int (ej_var (pv 6))) (oj_int (ej_add (ej_var (pv 6)) ej_int)))) (fun q => ps_set sc.nd rfl (Or.inl rfl) q)) (bj_one (sj_setIx (ej_tup (aj_cons (ej_add (ej_add (ej_sl (ej_var (pv 8)) oj_no (oj_int (ej_var (pv 6)))) (ej_var (pv 7))) (ej_sl (ej_var (pv 8)) (oj_int (ej_add (ej_var (pv 6)) ej_int)) oj_no)) (aj_cons (ej_var (pv 9)) aj_nil))) (ej_var (pv 3)) (ej_var (pv 5))))))))) (bj_one (sj_ret (ej_var (pv 3))))))
theorem u__law_near (h : Fx P w K mg base) : ∃ fd, FunD K "_law_near" "_law_near" (defArgs (top 35)) (defBody (top 35)) (defScope (top 35)) [] [] (He.fAd K ("_law_near", none)) fd := h.x.sx.def_ 16 (d := d__law_near) rfl
theorem r__law_near (h : Fx P w K mg base) : FR (cmK K) P w K mg base 2 (He.fAd K ("_law_near", none)) F__law_near := by
  obtain ⟨fd, F⟩ := u__law_near h
  exact fr_of (g__law_near h (fun_of F)) (F.bindsN fun _ _ _ _ _ _ us hl => match us, hl with | [_, _, _], _ => rfl)
theorem kp__law_near (h : Fx P w K mg base) : PySem.W.keepIn K (.ref (He.fAd K ("_law_near", none))) = true := by obtain ⟨fd, F⟩ := u__law_near h; exact F.kp
theorem sc__law_of : FnScope ["_law_bag_here", "_law_some"] ["_law_bag_here", "_law_some"] (defScope (top 32)) := ⟨rfl, rfl, rfl, by decide +kernel, rfl, by decide +kernel, by decide +kernel⟩
theorem g__law_of (h : Fx P w K mg base) {f : Addr} {fd : FuncData} (Fn : Fun K "_law_of" "_law_of" (top 32) f fd) : FJ (cmK K) P w K mg base 2 f fd ["_law_bag_here", "_law_some"] (fnB 2 0 m__law_of) :=
  fj_ofC (N := ["_law_bag_here", "_law_some"]) Fn sc__law_of rfl fun cdv A outer s H E hcd hr => by
    have sc := sc__law_of
    exact (bj_one (sj_ret (ej_ix (ej_var (pv 1)) (ej_callF (r__law_take h) (hr.mono (by decide)) (h.glo__law_take) (kp__law_take h) (aj_cons (ej_var (pv 0)) (aj_cons (ej_len h.nb (aj_cons (ej_var (pv 1)) aj_nil)) aj_nil))))))
theorem u__law_of (h : Fx P w K mg base) : ∃ fd, FunD K "_law_of" "_law_of" (defArgs (top 32)) (defBody (top 32)) (defScope (top 32)) [] [] (He.fAd K ("_law_of", none)) fd := h.x.sx.def_ 17 (d := d__law_of) rfl
theorem r__law_of (h : Fx P w K mg base) : FR (cmK K) P w K mg base 2 (He.fAd K ("_law_of", none)) F__law_of := by
  obtain ⟨fd, F⟩ := u__law_of h
  exact fr_of (g__law_of h (fun_of F)) (F.bindsN fun _ _ _ _ _ _ us hl => match us, hl with | [_, _], _ => rfl)
theorem kp__law_of (h : Fx P w K mg base) : PySem.W.keepIn K (.ref (He.fAd K ("_law_of", none))) = true := by obtain ⟨fd, F⟩ := u__law_of h; exact F.kp
theorem sc__law_shuffled : FnScope ["_law_bag_here", "_law_some", "_law_left", "_law_found"] ["_law_bag_here", "_law_some"] (defScope (top 33)) := ⟨rfl, rfl, rfl, by decide +kernel, rfl, by decide +kernel, by decide +kernel⟩
theorem g__law_shuffled (h : Fx P w K mg base) {f : Addr} {fd : FuncData} (Fn : Fun K "_law_shuffled" "_law_shuffled" (top 33) f fd) : FJ (cmK K) P w K mg base 2 f fd ["_law_bag_here", "_law_some"] (fnB 2 2 m__law_shuffled) :=
  fj_ofC (N := ["_law_bag_here", "_law_some", "_law_left", "_law_found"]) Fn sc__law_shuffled rfl fun cdv A outer s H E hcd hr => by
    have sc := sc__law_shuffled
    exact (bj_cons (sj_par rfl sc.nd rfl rfl (by decide) rfl rfl (aj_cons (ej_listC h.nb (aj_cons (ej_var (pv 1)) aj_nil) rfl) (aj_cons (ej_lst aj_nil) aj_nil)) rfl) (bj_cons (sj_while (passes_of rfl) (tj_ne hr.units (ej_var (pv 2)) (ej_lst aj_nil)) (bj_one (sj_expr (ej_append (ej_var (pv 3)) (aj_cons (ej_popAt (ej_var (pv 2)) (aj_cons (ej_callF (r__law_take h) (hr.mono (by decide)) (h.glo__law_take) (kp__law_take h) (aj_cons (ej_var (pv 0)) (aj_cons (ej_len h.nb (aj_cons (ej_var (pv 2)) aj_nil)) aj_nil))) aj_nil)) aj_nil))))) (bj_one (sj_ret (ej_var (pv 3))))))
theorem u__law_shuffled (h : Fx P w K mg base) : ∃ fd, FunD K "_law_shuffled" "_law_shuffled" (defArgs (top 33)) (defBody (top 33)) (defScope (top 33)) [] [] (He.fAd K ("_law_shuffled", none)) fd := h.x.sx.def_ 18 (d := d__law_shuffled) rfl
theorem r__law_shuffled (h : Fx P w K mg base) : FR (cmK K) P w K mg base 2 (He.fAd K ("_law_shuffled", none)) F__law_shuffled := by
  obtain ⟨fd, F⟩ := u__law_shuffled h
  exact fr_of (g__law_shuffled h (fun_of F)) (F.bindsN fun _ _ _ _ _ _ us hl => match us, hl with | [_, _], _ => rfl)
theorem kp__law_shuffled (h : Fx P w K mg base) : PySem.W.keepIn K (.ref (He.fAd K ("_law_shuffled", none))) = true := by obtain ⟨fd, F⟩ := u__law_shuffled h; exact F.kp
theorem sc__law_order : FnScope ["_law_bag_here", "_law_letters", "_law_many", "_law_found", "_law_state", "_law_moves", "_law_letter"] ["_law_bag_here", "_law_letters", "_law_many"] (defScope (top 34)) := ⟨rfl, rfl, rfl, by decide +kernel, rfl, by decide +kernel, by decide +kernel⟩
theorem g__law_order (h : Fx P w K mg base) {f : Addr} {fd : FuncData} (Fn : Fun K "_law_order" "_law_order" (top 34) f fd) : FJ (cmK K) P w K mg base 3 f fd ["_law_bag_here", "_law_letters", "_law_many"] (fnB 3 4 m__law_order) :=
  fj_ofC (N := ["_law_bag_here", "_law_letters", "_law_many", "_law_found", "_law_state", "_law_moves", "_law_letter"]) Fn sc__law_order rfl fun cdv A outer s H E hcd hr => by
    have sc := sc__law_order
    exact (bj_cons (sj_asg (ej_lst aj_nil) (fun q => ps_set sc.nd rfl (Or.inl rfl) q)) (bj_cons (sj_for (passes_of rfl) rfl (ij_r1 rfl (h.nb _ (by decide)) (aj_cons (ej_var (pv 2)) aj_nil)) (gj_name (pg_name sc.nd rfl (Or.inl rfl))) (bj_cons (sj_asg (ej_tupleC h.nb (aj_cons (ej_lc (own := [("_law_letter", 6)]) rfl sc.nd (ij_e (ej_var (pv 1))) (blk_by (by kernel_rfl)) (fun _ _ _ _ _ => (gj_name (pg_name sc.nd rfl (Or.inl rfl)))) (fun _ _ _ _ _ => tsj_nil) (fun _ _ _ _ _ => (ej_callF (r__law_take h) (hr.mono (by decide)) (h.glo__law_take) (kp__law_take h) (aj_cons (ej_var (pv 0)) (aj_cons (ej_var (pv 2)) aj_nil))))) aj_nil)) (fun q => ps_set sc.nd rfl (Or.inl rfl) q)) (bj_one (sj_expr (ej_append (ej_var (pv 3)) (aj_cons (ej_tup (aj_cons (ej_join ej_str (ej_callF (r__law_shuffled h) (hr.mono (by decide)) (h.glo__law_shuffled) (kp__law_shuffled h) (aj_cons (ej_var (pv 0)) (aj_cons (ej_add (ej_var (pv 1)) ej_str) aj_nil)))) (aj_cons (ej_var (pv 5)) aj_nil))) aj_nil)))))) (bj_one (sj_ret (ej_var (pv 3))))))
theorem u__law_order (h : Fx P w K mg base) : ∃ fd, FunD K "_law_order" "_law_order" (defArgs (top 34)) (defBody (top 34)) (defScope (top 34)) [] [] (He.fAd K ("_law_order", none)) fd := h.x.sx.def_ 19 (d := d__law_order) rfl
theorem r__law_order (h : Fx P w K mg base) : FR (cmK K) P w K mg base 3 (He.fAd K ("_law_order", none)) F__law_order := by
  obtain ⟨fd, F⟩ := u__law_order h
  exact fr_of (g__law_order h (fun_of F)) (F.bindsN fun _ _ _ _ _ _ us hl => match us, hl with | [_, _, _], _ => rfl)
theorem kp__law_order (h : Fx P w K mg base) : PySem.W.keepIn K (.ref (He.fAd K ("_law_order", none))) = true := by obtain ⟨fd, F⟩ := u__law_order h; exact F.kp
theorem sc__law_drawn : FnScope ["_law_bag_here", "_law_most", "_law_letters", "_law_many", "_law_new", "_law_old", "_law_language_here"] ["_law_bag_here", "_law_most"] (defScope (top 37)) := ⟨rfl, rfl, rfl, by decide +kernel, rfl, by decide +kernel, by decide +kernel⟩
theorem g__law_drawn (h : Fx P w K mg base) {f : Addr} {fd : FuncData} (Fn : Fun K "_law_drawn" "_law_drawn" (top 37) f fd) : FJ (cmK K) P w K mg base 4 f fd ["_law_bag_here", "_law_most"] (fnB 2 5 m__law_drawn) :=
  fj_ofC (N := ["_law_bag_here", "_law_most", "_law_letters", "_law_many", "_law_new", "_law_old", "_law_language_here"]) Fn sc__law_drawn rfl fun cdv A outer s H E hcd hr => by
    have sc := sc__law_drawn
    exact (bj_cons (sj_asg (ej_callF (r__law_of h) (hr.mono (by decide)) (h.glo__law_of) (kp__law_of h) (aj_cons (ej_var (pv 0)) (aj_cons (ej_lst (aj_cons ej_str (aj_cons ej_str (aj_cons ej_str (aj_cons ej_str (aj_cons ej_str (aj_cons ej_str (aj_cons ej_str (aj_cons ej_str aj_nil))))))))) aj_nil))) (fun q => ps_set sc.nd rfl (Or.inl rfl) q)) (bj_cons (sj_asg (ej_if (tj_eq hr.units (ej_len h.nb (aj_cons (ej_var (pv 2)) aj_nil)) ej_int) ej_int (ej_var (pv 1))) (fun q => ps_set sc.nd rfl (Or.inl rfl) q)) (bj_cons (sj_par rfl sc.nd rfl rfl (by decide) rfl rfl (aj_cons (ej_callF (r__law_order h) (hr.mono (by decide)) (h.glo__law_order) (kp__law_order h) (aj_cons (ej_var (pv 0)) (aj_cons (ej_var (pv 2)) (aj_cons (ej_add ej_int (ej_callF (r__law_take h) (hr.mono (by decide)) (h.glo__law_take) (kp__law_take h) (aj_cons (ej_var (pv 0)) (aj_cons (ej_var (pv 3)) aj_nil)))) aj_nil)))) (aj_cons (ej_lst (aj_cons (ej_tup (aj_cons ej_bl (aj_cons (ej_mul2 (ej_tup (aj_cons ej_int aj_nil)) (ej_len h.nb (aj_cons (ej_var (pv 2)) aj_nil))) aj_nil))) aj_nil)) aj_nil)) rfl) (bj_cons (sj_asg (ej_callF (r__law_near h) (hr.mono (by decide)) (h.glo__law_near) (kp__law_near h) (aj_cons (ej_var (pv 0)) (aj_cons (ej_var (pv 5)) (aj_cons ej_int aj_nil)))) (fun q => ps_set sc.nd rfl (Or.inl rfl) q)) (bj_cons (sj_if (tj_eq hr.units (ej_callF (r__law_take h) (hr.mono (by decide)) (h.glo__law_take) (kp__law_take h) (aj_cons (ej_var (pv 0)) (aj_cons ej_int aj_nil))) ej_int) (bj_one (sj_asg (ej_callF (r__law_order h) (hr.mono (by decide)) (h.glo__law_order) (kp__law_order h) (aj_cons (ej_var (pv 0)) (aj_cons (ej_var (pv 2)) (aj_cons (ej_add ej_int (ej_callF (r__law_take h) (hr.mono (by decide)) (h.glo__law_take) (kp__law_take h) (aj_cons (ej_var (pv 0)) (aj_cons (ej_var (pv 3)) aj_nil)))) aj_nil)))) (fun q => ps_set sc.nd rfl (Or.inl rfl) q))) bj_nil) (bj_cons (sj_if (tj_gt hr.units (ej_callF (r__law_take h) (hr.mono (by decide)) (h.glo__law_take) (kp__law_take h) (aj_cons (ej_var (pv 0)) (aj_cons ej_int aj_nil))) ej_int) (bj_one (sj_asg (ej_callF (r__law_language h) (hr.mono (by decide)) (h.glo__law_language) (kp__law_language h) (aj_cons (ej_var (pv 0)) (aj_cons (ej_var (pv 2)) (aj_cons (ej_add ej_int (ej_callF (r__law_take h) (hr.mono (by decide)) (h.glo__law_take) (kp__law_take h) (aj_cons (ej_var (pv 0)) (aj_cons (ej_var (pv 3)) aj_nil)))) aj_nil)))) (fun q => ps_set sc.nd rfl (Or.inl rfl) q))) bj_nil) (bj_one (sj_ret (ej_tup (aj_cons (ej_var (pv 2)) (aj_cons (ej_var (pv 5)) (aj_cons (ej_var (pv 4)) (aj_cons (ej_var (pv 6)) aj_nil)))))))))))))
theorem u__law_drawn (h : Fx P w K mg base) : ∃ fd, FunD K "_law_drawn" "_law_drawn" (defArgs (top 37)) (defBody (top 37)) (defScope (top 37)) [] [] (He.fAd K ("_law_drawn", none)) fd := h.x.sx.def_ 20 (d := d__law_drawn) rfl
theorem r__law_drawn (h : Fx P w K mg base) : FR (cmK K) P w K mg base 4 (He.fAd K ("_law_drawn", none)) F__law_drawn := by
  obtain ⟨fd, F⟩ := u__law_drawn h
  exact fr_of (g__law_drawn h (fun_of F)) (F.bindsN fun _ _ _ _ _ _ us hl => match us, hl with | [_, _], _ => rfl)
theorem kp__law_drawn (h : Fx P w K mg base) : PySem.W.keepIn K (.ref (He.fAd K ("_law_drawn", none))) = true := by obtain ⟨fd, F⟩ := u__law_drawn h; exact F.kp
theorem sc__law_key : FnScope ["_law_letters", "_law_order_here", "_law_text", "_law_option", "_law_found", "_law_state"] ["_law_letters", "_law_order_here", "_law_text"] (defScope (top 40)) := ⟨rfl, rfl, rfl, by decide +kernel, rfl, by decide +kernel, by decide +kernel⟩
theorem g__law_key (h : Fx P w K mg base) {f : Addr} {fd : FuncData} (Fn : Fun K "_law_key" "_law_key" (top 40) f fd) : FJ (cmK K) P w K mg base 1 f fd ["_law_letters", "_law_order_here", "_law_text"] (fnB 3 3 m__law_key) :=
  fj_ofC (N := ["_law_letters", "_law_order_here", "_law_text", "_law_option", "_law_found", "_law_state"]) Fn sc__law_key rfl fun cdv A outer s H E hcd hr => by
    have sc := sc__law_key
    exact (bj_cons (sj_par rfl sc.nd rfl rfl (by decide) rfl rfl (aj_cons (ej_lst aj_nil) (aj_cons ej_int aj_nil)) rfl) (bj_cons (sj_for (passes_of rfl) rfl (ij_e (ej_add (ej_var (pv 2)) ej_str)) (gj_name (pg_name sc.nd rfl (Or.inl rfl))) (bj_cons (sj_expr (ej_append (ej_var (pv 4)) (aj_cons (ej_sindex (ej_ix (ej_ix (ej_var (pv 1)) (ej_var (pv 5))) ej_int) (ej_var (pv 3))) aj_nil))) (bj_one (sj_if (tj_ne hr.units (ej_var (pv 3)) ej_str) (bj_one (sj_asg (ej_ix (ej_ix (ej_ix (ej_var (pv 1)) (ej_var (pv 5))) ej_int) (ej_sindex (ej_var (pv 0)) (ej_var (pv 3)))) (fun q => ps_set sc.nd rfl (Or.inl rfl) q))) bj_nil)))) (bj_one (sj_ret (ej_var (pv 4))))))
theorem u__law_key (h : Fx P w K mg base) : ∃ fd, FunD K "_law_key" "_law_key" (defArgs (top 40)) (defBody (top 40)) (defScope (top 40)) [] [] (He.fAd K ("_law_key", none)) fd := h.x.sx.def_ 21 (d := d__law_key) rfl
theorem r__law_key (h : Fx P w K mg base) : FR (cmK K) P w K mg base 1 (He.fAd K ("_law_key", none)) F__law_key := by
  obtain ⟨fd, F⟩ := u__law_key h
  exact fr_of (g__law_key h (fun_of F)) (F.bindsN fun _ _ _ _ _ _ us hl => match us, hl with | [_, _, _], _ => rfl)
theorem kp__law_key (h : Fx P w K mg base) : PySem.W.keepIn K (.ref (He.fAd K ("_law_key", none))) = true := by obtain ⟨fd, F⟩ := u__law_key h; exact F.kp
theorem sc__law_flips : FnScope ["_law_plain", "_law_text", "_law_other", "_law_before", "_law_letters", "_law_old", "_law_new", "_law_language_here"] ["_law_plain", "_law_text", "_law_other"] (defScope (top 41)) := ⟨rfl, rfl, rfl, by decide +kernel, rfl, by decide +kernel, by decide +kernel⟩
theorem g__law_flips (h : Fx P w K mg base) {f : Addr} {fd : FuncData} (Fn : Fun K "_law_flips" "_law_flips" (top 41) f fd) : FJ (cmK K) P w K mg base 2 f fd ["_law_plain", "_law_text", "_law_other"] (fnB 3 5 m__law_flips) :=
  fj_ofC (N := ["_law_plain", "_law_text", "_law_other", "_law_before", "_law_letters", "_law_old", "_law_new", "_law_language_here"]) Fn sc__law_flips rfl fun cdv A outer s H E hcd hr => by
    have sc := sc__law_flips
    exact (bj_cons (sj_asgG (ej_var (pv 0)) (gj_tup rfl (gsj_cons (gj_name (pg_name sc.nd rfl (Or.inl rfl))) (gsj_cons (gj_name (pg_name sc.nd rfl (Or.inl rfl))) (gsj_cons (gj_name (pg_name sc.nd rfl (Or.inl rfl))) (gsj_cons (gj_name (pg_name sc.nd rfl (Or.inl rfl))) gsj_nil (fun a b => pgs_cons a b)) (fun a b => pgs_cons a b)) (fun a b => pgs_cons a b)) (fun a b => pgs_cons a b)))) (bj_cons (sj_asg (ej_lt hr.units (ej_callF (r__law_key h) (hr.mono (by decide)) (h.glo__law_key) (kp__law_key h) (aj_cons (ej_var (pv 4)) (aj_cons (ej_var (pv 5)) (aj_cons (ej_var (pv 1)) aj_nil)))) (ej_callF (r__law_key h) (hr.mono (by decide)) (h.glo__law_key) (kp__law_key h) (aj_cons (ej_var (pv 4)) (aj_cons (ej_var (pv 5)) (aj_cons (ej_var (pv 2)) aj_nil))))) (fun q => ps_set sc.nd rfl (Or.inl rfl) q)) (bj_one (sj_ret (ej_ne hr.units (ej_var (pv 3)) (ej_lt hr.units (ej_callF (r__law_key h) (hr.mono (by decide)) (h.glo__law_key) (kp__law_key h) (aj_cons (ej_var (pv 4)) (aj_cons (ej_var (pv 6)) (aj_cons (ej_var (pv 1)) aj_nil)))) (ej_callF (r__law_key h) (hr.mono (by decide)) (h.glo__law_key) (kp__law_key h) (aj_cons (ej_var (pv 4)) (aj_cons (ej_var (pv 6)) (aj_cons (ej_var (pv 2)) aj_nil))))))))))
theorem u__law_flips (h : Fx P w K mg base) : ∃ fd, FunD K "_law_flips" "_law_flips" (defArgs (top 41)) (defBody (top 41)) (defScope (top 41)) [] [] (He.fAd K ("_law_flips", none)) fd := h.x.sx.def_ 22 (d := d__law_flips) rfl
theorem r__law_flips (h : Fx P w K mg base) : FR (cmK K) P w K mg base 2 (He.fAd K ("_law_flips", none)) F__law_flips := by
  obtain ⟨fd, F⟩ := u__law_flips h
  exact fr_of (g__law_flips h (fun_of F)) (F.bindsN fun _ _ _ _ _ _ us hl => match us, hl with | [_, _, _], _ => rfl)
theorem kp__law_flips (h : Fx P w K mg base) : PySem.W.keepIn K (.ref (He.fAd K ("_law_flips", none))) = true := by obtain ⟨fd, F⟩ := u__law_flips h; exact F.kp
theorem sc_Upgrade_init : FnScope ["self", "old", "new", "language", "machine"] ["self", "old", "new", "language"] (defScope (inClass (top 28) 0)) := ⟨rfl, rfl, rfl, by decide +kernel, rfl, by decide +kernel, by decide +kernel⟩
theorem g_Upgrade_init (h : Fx P w K mg base) {f : Addr} {fd : FuncData} (Fn : Fun K "__init__" "Upgrade.__init__" (inClass (top 28) 0) f fd) : FJ (cmK K) P w K mg base 3 f fd ["self", "old", "new", "language"] (fnB 4 1 m_Upgrade_init) :=
  fj_ofC (N := ["self", "old", "new", "language", "machine"]) Fn sc_Upgrade_init rfl fun cdv A outer s H E hcd hr => by
    have sc := sc_Upgrade_init
    exact (bj_cons (sj_for (passes_of rfl) rfl (ij_e (ej_tup (aj_cons (ej_var (pv 2)) (aj_cons (ej_var (pv 3)) aj_nil)))) (gj_name (pg_name sc.nd rfl (Or.inl rfl))) (bj_one (sj_if (tj_ne hr.units (ej_prop (by decide) (dAllC (pd_of (c_Collation h) (p_Collation_letters h) (j_Machine_letters_Collation h) rfl (hr.mono (by decide))) (dAll1 (pd_of (c_Language h) (p_Language_letters h) (j_Machine_letters_Language h) rfl (hr.mono (by decide))))) (ej_var (pv 4))) (ej_prop (by decide) (dAll1 (pd_of (c_Collation h) (p_Collation_letters h) (j_Machine_letters_Collation h) rfl (hr.mono (by decide)))) (ej_var (pv 1)))) (bj_one sj_never) bj_nil))) (bj_cons (sj_setFld (dAll1 ⟨c_Upgrade h, n_Upgrade_own_old h⟩) (ej_var (pv 1)) (ej_var (pv 0))) (bj_cons (sj_setFld (dAll1 ⟨c_Upgrade h, n_Upgrade_own_new h⟩) (ej_var (pv 2)) (ej_var (pv 0))) (bj_one (sj_setFld (dAll1 ⟨c_Upgrade h, n_Upgrade_own_language h⟩) (ej_var (pv 3)) (ej_var (pv 0)))))))
theorem u_Upgrade_init_Upgrade (h : Fx P w K mg base) : ∃ fd, FunD K "__init__" "Upgrade.__init__" (defArgs (inClass (top 28) 0)) (defBody (inClass (top 28) 0)) (defScope (inClass (top 28) 0)) [] [] (He.fAd K ("Upgrade", some "__init__")) fd := h.x.sx.def_ 23 (d := d_Upgrade_init_Upgrade) rfl
theorem r_Upgrade_init_Upgrade (h : Fx P w K mg base) : FR (cmK K) P w K mg base 3 (He.fAd K ("Upgrade", some "__init__")) F_Upgrade_init := by
  obtain ⟨fd, F⟩ := u_Upgrade_init_Upgrade h
  exact fr_of (g_Upgrade_init h (fun_of F)) (F.bindsN fun _ _ _ _ _ _ us hl => match us, hl with | [_, _, _, _], _ => rfl)
theorem sc__law_machine_lines : FnScope ["_law_word", "_law_letters", "_law_states", "_law_rows", "_law_mark", "_law_moves", "_law_first", "_law_state"] ["_law_word", "_law_letters", "_law_states"] (defScope (top 38)) := ⟨rfl, rfl, rfl, by decide +kernel, rfl, by decide +kernel, by decide +kernel⟩
theorem g__law_machine_lines (h : Fx P w K mg base) {f : Addr} {fd : FuncData} (Fn : Fun K "_law_machine_lines" "_law_machine_lines" (top 38) f fd) : FJ (cmK K) P w K mg base 1 f fd ["_law_word", "_law_letters", "_law_states"] (fnB 3 5 m__law_machine_lines) :=
  fj_ofC (N := ["_law_word", "_law_letters", "_law_states", "_law_rows", "_law_mark", "_law_moves", "_law_first", "_law_state"]) Fn sc__law_machine_lines rfl fun cdv A outer s H E hcd hr => by
    have sc := sc__law_machine_lines
    exact (bj_cons (sj_asg (ej_lst (aj_cons (ej_add (ej_add (ej_var (pv 0)) ej_str) (ej_var (pv 1))) aj_nil)) (fun q => ps_set sc.nd rfl (Or.inl rfl) q)) (bj_cons (sj_for (passes_of rfl) rfl (ij_e (ej_var (pv 2))) (gj_tup rfl (gsj_cons (gj_name (pg_name sc.nd rfl (Or.inl rfl))) (gsj_cons (gj_name (pg_name sc.nd rfl (Or.inl rfl))) gsj_nil (fun a b => pgs_cons a b)) (fun a b => pgs_cons a b))) (bj_cons (sj_asg (ej_if (tj_eq hr.units (ej_var (pv 0)) ej_str) (ej_var (pv 4)) (ej_ix (ej_lst (aj_cons ej_str (aj_cons ej_str aj_nil))) (ej_intC2 h.nb (aj_cons (ej_var (pv 4)) aj_nil)))) (fun q => ps_set sc.nd rfl (Or.inl rfl) q)) (bj_one (sj_expr (ej_append (ej_var (pv 3)) (aj_cons (ej_join ej_str (ej_add (ej_lst (aj_cons (ej_var (pv 6)) aj_nil)) (ej_lc (own := [("_law_state", 7)]) rfl sc.nd (ij_e (ej_var (pv 5))) (blk_by (by kernel_rfl)) (fun _ _ _ _ _ => (gj_name (pg_name sc.nd rfl (Or.inl rfl)))) (fun _ _ _ _ _ => tsj_nil) (fun _ _ _ _ _ => (ej_if (tj_isN (ej_var (pv 7)) ej_non) ej_str (ej_strC h.nb (aj_cons (ej_var (pv 7)) aj_nil))))))) aj_nil)))))) (bj_one (sj_ret (ej_join ej_str (ej_var (pv 3)))))))
theorem u__law_machine_lines (h : Fx P w K mg base) : ∃ fd, FunD K "_law_machine_lines" "_law_machine_lines" (defArgs (top 38)) (defBody (top 38)) (defScope (top 38)) [] [] (He.fAd K ("_law_machine_lines", none)) fd := h.x.sx.def_ 24 (d := d__law_machine_lines) rfl
theorem r__law_machine_lines (h : Fx P w K mg base) : FR (cmK K) P w K mg base 1 (He.fAd K ("_law_machine_lines", none)) F__law_machine_lines := by
  obtain ⟨fd, F⟩ := u__law_machine_lines h
  exact fr_of (g__law_machine_lines h (fun_of F)) (F.bindsN fun _ _ _ _ _ _ us hl => match us, hl with | [_, _, _], _ => rfl)
theorem kp__law_machine_lines (h : Fx P w K mg base) : PySem.W.keepIn K (.ref (He.fAd K ("_law_machine_lines", none))) = true := by obtain ⟨fd, F⟩ := u__law_machine_lines h; exact F.kp
theorem sc_Collation_is_mark : FnScope ["self", "value"] ["self", "value"] (defScope (inClass (top 20) 3)) := ⟨rfl, rfl, rfl, by decide +kernel, rfl, by decide +kernel, by decide +kernel⟩
theorem g_Collation_is_mark (h : Fx P w K mg base) {f : Addr} {fd : FuncData} (Fn : Fun K "is_mark" "Collation.is_mark" (inClass (top 20) 3) f fd) : FJ (cmK K) P w K mg base 3 f fd ["self", "value"] (fnB 2 0 m_Collation_is_mark) :=
  fj_ofC (N := ["self", "value"]) Fn sc_Collation_is_mark rfl fun cdv A outer s H E hcd hr => by
    have sc := sc_Collation_is_mark
    exact (bj_one (sj_ret (ej_and (ej_isT h.nb bb_str (h.nb _ (by decide)) (ej_var (pv 1))) (ej_one (ej_eq hr.units (ej_sorted h.nb (aj_cons (ej_var (pv 1)) aj_nil) rfl hr.units) (ej_sorted h.nb (aj_cons (ej_add (ej_prop (by decide) (dAll1 (pd_of (c_Collation h) (p_Collation_letters h) (j_Machine_letters_Collation h) rfl (hr.mono (by decide)))) (ej_var (pv 0))) (ej_globS (h.s_END).choose_spec)) aj_nil) rfl hr.units))))))
theorem u_Collation_is_mark_Collation (h : Fx P w K mg base) : ∃ fd, FunD K "is_mark" "Collation.is_mark" (defArgs (inClass (top 20) 3)) (defBody (inClass (top 20) 3)) (defScope (inClass (top 20) 3)) [] [] (He.fAd K ("Collation", some "is_mark")) fd := h.x.sx.def_ 25 (d := d_Collation_is_mark_Collation) rfl
theorem r_Collation_is_mark_Collation (h : Fx P w K mg base) : FR (cmK K) P w K mg base 3 (He.fAd K ("Collation", some "is_mark")) F_Collation_is_mark := by
  obtain ⟨fd, F⟩ := u_Collation_is_mark_Collation h
  exact fr_of (g_Collation_is_mark h (fun_of F)) (F.bindsN fun _ _ _ _ _ _ us hl => match us, hl with | [_, _], _ => rfl)
theorem sc_Language_is_mark : FnScope ["self", "value"] ["self", "value"] (defScope (inClass (top 21) 3)) := ⟨rfl, rfl, rfl, by decide +kernel, rfl, by decide +kernel, by decide +kernel⟩
theorem g_Language_is_mark (h : Fx P w K mg base) {f : Addr} {fd : FuncData} (Fn : Fun K "is_mark" "Language.is_mark" (inClass (top 21) 3) f fd) : FJ (cmK K) P w K mg base 1 f fd ["self", "value"] (fnB 2 0 m_Language_is_mark) :=
  fj_ofC (N := ["self", "value"]) Fn sc_Language_is_mark rfl fun cdv A outer s H E hcd hr => by
    have sc := sc_Language_is_mark
    exact (bj_one (sj_ret (ej_isT h.nb bb_bool (h.nb _ (by decide)) (ej_var (pv 1)))))
theorem u_Language_is_mark_Language (h : Fx P w K mg base) : ∃ fd, FunD K "is_mark" "Language.is_mark" (defArgs (inClass (top 21) 3)) (defBody (inClass (top 21) 3)) (defScope (inClass (top 21) 3)) [] [] (He.fAd K ("Language", some "is_mark")) fd := h.x.sx.def_ 26 (d := d_Language_is_mark_Language) rfl
theorem r_Language_is_mark_Language (h : Fx P w K mg base) : FR (cmK K) P w K mg base 1 (He.fAd K ("Language", some "is_mark")) F_Language_is_mark := by
  obtain ⟨fd, F⟩ := u_Language_is_mark_Language h
  exact fr_of (g_Language_is_mark h (fun_of F)) (F.bindsN fun _ _ _ _ _ _ us hl => match us, hl with | [_, _], _ => rfl)
theorem sc_is_integer : FnScope ["value"] ["value"] (defScope (top 15)) := ⟨rfl, rfl, rfl, by decide +kernel, rfl, by decide +kernel, by decide +kernel⟩
theorem g_is_integer (h : Fx P w K mg base) {f : Addr} {fd : FuncData} (Fn : Fun K "is_integer" "is_integer" (top 15) f fd) : FJ (cmK K) P w K mg base 1 f fd ["value"] (fnB 1 0 m_is_integer) :=
  fj_ofC (N := ["value"]) Fn sc_is_integer rfl fun cdv A outer s H E hcd hr => by
    have sc := sc_is_integer
    exact (bj_one (sj_ret (ej_and (ej_isT h.nb bb_int (h.nb _ (by decide)) (ej_var (pv 0))) (ej_one (ej_not (ej_isT h.nb bb_bool (h.nb _ (by decide)) (ej_var (pv 0))))))))
theorem u_is_integer (h : Fx P w K mg base) : ∃ fd, FunD K "is_integer" "is_integer" (defArgs (top 15)) (defBody (top 15)) (defScope (top 15)) [] [] (He.fAd K ("is_integer", none)) fd := h.x.sx.def_ 27 (d := d_is_integer) rfl
theorem r_is_integer (h : Fx P w K mg base) : FR (cmK K) P w K mg base 1 (He.fAd K ("is_integer", none)) F_is_integer := by
  obtain ⟨fd, F⟩ := u_is_integer h
  exact fr_of (g_is_integer h (fun_of F)) (F.bindsN fun _ _ _ _ _ _ us hl => match us, hl with | [_], _ => rfl)
theorem kp_is_integer (h : Fx P w K mg base) : PySem.W.keepIn K (.ref (He.fAd K ("is_integer", none))) = true := by obtain ⟨fd, F⟩ := u_is_integer h; exact F.kp
theorem sc_Machine_is_move : FnScope ["self", "value"] ["self", "value"] (defScope (inClass (top 19) 7)) := ⟨rfl, rfl, rfl, by decide +kernel, rfl, by decide +kernel, by decide +kernel⟩
theorem g_Machine_is_move (h : Fx P w K mg base) {f : Addr} {fd : FuncData} (Fn : Fun K "is_move" "Machine.is_move" (inClass (top 19) 7) f fd) : FJ (cmK K) P w K mg base 3 f fd ["self", "value"] (fnB 2 0 m_Machine_is_move) :=
  fj_ofC (N := ["self", "value"]) Fn sc_Machine_is_move rfl fun cdv A outer s H E hcd hr => by
    have sc := sc_Machine_is_move
    exact (bj_one (sj_ret (ej_and (ej_callF (r_is_integer h) (hr.mono (by decide)) (h.glo_is_integer) (kp_is_integer h) (aj_cons (ej_var (pv 1)) aj_nil)) (ej_one (ej_chain (opr_le hr.units) (opr_lt hr.units) od_ord od_ord ej_int (ej_var (pv 1)) (ej_len h.nb (aj_cons (ej_prop (by decide) (dAllC (pd_of (c_Collation h) (p_Collation_states h) (j_Machine_states_Collation h) rfl (hr.mono (by decide))) (dAll1 (pd_of (c_Language h) (p_Language_states h) (j_Machine_states_Language h) rfl (hr.mono (by decide))))) (ej_var (pv 0))) aj_nil)))))))
theorem u_Machine_is_move_Collation (h : Fx P w K mg base) : ∃ fd, FunD K "is_move" "Machine.is_move" (defArgs (inClass (top 19) 7)) (defBody (inClass (top 19) 7)) (defScope (inClass (top 19) 7)) [] [] (He.fAd K ("Collation", some "is_move")) fd := h.x.sx.def_ 28 (d := d_Machine_is_move_Collation) rfl
theorem r_Machine_is_move_Collation (h : Fx P w K mg base) : FR (cmK K) P w K mg base 3 (He.fAd K ("Collation", some "is_move")) F_Machine_is_move := by
  obtain ⟨fd, F⟩ := u_Machine_is_move_Collation h
  exact fr_of (g_Machine_is_move h (fun_of F)) (F.bindsN fun _ _ _ _ _ _ us hl => match us, hl with | [_, _], _ => rfl)
theorem u_Machine_is_move_Machine (h : Fx P w K mg base) : ∃ fd, FunD K "is_move" "Machine.is_move" (defArgs (inClass (top 19) 7)) (defBody (inClass (top 19) 7)) (defScope (inClass (top 19) 7)) [] [] (He.fAd K ("Machine", some "is_move")) fd := h.x.sx.def_ 29 (d := d_Machine_is_move_Machine) rfl
theorem r_Machine_is_move_Machine (h : Fx P w K mg base) : FR (cmK K) P w K mg base 3 (He.fAd K ("Machine", some "is_move")) F_Machine_is_move := by
  obtain ⟨fd, F⟩ := u_Machine_is_move_Machine h
  exact fr_of (g_Machine_is_move h (fun_of F)) (F.bindsN fun _ _ _ _ _ _ us hl => match us, hl with | [_, _], _ => rfl)
theorem sc_Language_is_move : NdefX.NScope ["self", "value", "__class__"] ["self", "value"] ["__class__"] (defScope (inClass (top 21) 4)) := NdefX.nscope_by (by decide +kernel)
theorem g_Language_is_move (h : Fx P w K mg base) {f : Addr} {fd : FuncData} (Fn : FunS P K "is_move" "Language.is_move" (inClass (top 21) 4) f (He.ga K "Language") fd) : FR (cmK K) P w K mg base 4 f (fnN 2 (fnB 2 1 m_Language_is_move)) := by
  have e := Fn.ex
  obtain ⟨oc, od, kV, doc, pm, an, c, cc, ct, osl, ar, vs, file, tf, ccl, cl, cdd, cld, ccs, csl, cdD, rfl, _⟩ := e
  exact fr_sup (N := ["self", "value", "__class__"]) (ps := ["self", "value"]) (nl := 1) (g := m_Language_is_move) Fn (supG h) sc_Language_is_move rfl rfl rfl (fun us hl => match us, hl with | [_, _], _ => rfl) fun c cc A outer s H E S hr => by
    have sc := sc_Language_is_move
    exact (bja_cons (sja_ret (eja_or (ej_isN (ej_var (pv 1)) ej_non) (eja_sup S (dAll1 (s_Language_Language_is_move h)) (r_Machine_is_move_Machine h) (hr.mono (by decide)) (aj_cons (ej_var (pv 1)) aj_nil)))) bja_nil)
theorem r_Language_is_move_Language (h : Fx P w K mg base) : FR (cmK K) P w K mg base 4 (He.fAd K ("Language", some "is_move")) F_Language_is_move := by
  obtain ⟨fd, F⟩ := FnA.funS (P := P) (d := a_Language_is_move_Language) (st := (inClass (top 21) 4)) (h.x.fsAt 7 rfl) (by rw [h.hP]; exact exAt h.x.ex 7 rfl) rfl rfl rfl rfl rfl
  exact g_Language_is_move h F
theorem sc_Machine_is_state : FnScope ["self", "value", "moves", "state"] ["self", "value"] (defScope (inClass (top 19) 5)) := ⟨rfl, rfl, rfl, by decide +kernel, rfl, by decide +kernel, by decide +kernel⟩
theorem g_Machine_is_state (h : Fx P w K mg base) {f : Addr} {fd : FuncData} (Fn : Fun K "is_state" "Machine.is_state" (inClass (top 19) 5) f fd) : FJ (cmK K) P w K mg base 5 f fd ["self", "value"] (fnB 2 2 m_Machine_is_state) :=
  fj_ofC (N := ["self", "value", "moves", "state"]) Fn sc_Machine_is_state rfl fun cdv A outer s H E hcd hr => by
    have sc := sc_Machine_is_state
    exact (bj_cons (sj_if (tj_w (wj_or (tj_not (tj_val (ej_isT h.nb bb_tuple (h.nb _ (by decide)) (ej_var (pv 1))))) (wj_or (tj_ne hr.units (ej_len h.nb (aj_cons (ej_var (pv 1)) aj_nil)) ej_int) (wj_or1 (tj_not (tj_val (ej_meth (by decide) (dAllC (md_of (c_Collation h) (me_Collation_is_mark h) (r_Collation_is_mark_Collation h) (hr.mono (by decide))) (dAll1 (md_of (c_Language h) (me_Language_is_mark h) (r_Language_is_mark_Language h) (hr.mono (by decide))))) (ej_var (pv 0)) (aj_cons (ej_ix (ej_var (pv 1)) ej_int) aj_nil)))))))) (bj_one (sj_ret ej_bl)) bj_nil) (bj_cons (sj_asg (ej_ix (ej_var (pv 1)) ej_int) (fun q => ps_set sc.nd rfl (Or.inl rfl) q)) (bj_cons (sj_if (tj_w (wj_or (tj_not (tj_val (ej_isT h.nb bb_tuple (h.nb _ (by decide)) (ej_var (pv 2))))) (wj_or1 (tj_ne hr.units (ej_len h.nb (aj_cons (ej_var (pv 2)) aj_nil)) (ej_len h.nb (aj_cons (ej_prop (by decide) (dAllC (pd_of (c_Collation h) (p_Collation_letters h) (j_Machine_letters_Collation h) rfl (hr.mono (by decide))) (dAll1 (pd_of (c_Language h) (p_Language_letters h) (j_Machine_letters_Language h) rfl (hr.mono (by decide))))) (ej_var (pv 0))) aj_nil)))))) (bj_one (sj_ret ej_bl)) bj_nil) (bj_one (sj_ret (ej_all h.nb (aj_cons (ej_lc (own := [("state", 3)]) rfl sc.nd (ij_e (ej_var (pv 2))) (blk_by (by kernel_rfl)) (fun _ _ _ _ _ => (gj_name (pg_name sc.nd rfl (Or.inl rfl)))) (fun _ _ _ _ _ => tsj_nil) (fun _ _ _ _ _ => (ej_meth (by decide) (dAllC (md_of (c_Collation h) (me_Collation_is_move h) (r_Machine_is_move_Collation h) (hr.mono (by decide))) (dAll1 (md_of (c_Language h) (me_Language_is_move h) (r_Language_is_move_Language h) (hr.mono (by decide))))) (ej_var (pv 0)) (aj_cons (ej_var (pv 3)) aj_nil)))) aj_nil) rfl))))))
theorem u_Machine_is_state_Collation (h : Fx P w K mg base) : ∃ fd, FunD K "is_state" "Machine.is_state" (defArgs (inClass (top 19) 5)) (defBody (inClass (top 19) 5)) (defScope (inClass (top 19) 5)) [] [] (He.fAd K ("Collation", some "is_state")) fd := h.x.sx.def_ 30 (d := d_Machine_is_state_Collation) rfl
theorem r_Machine_is_state_Collation (h : Fx P w K mg base) : FR (cmK K) P w K mg base 5 (He.fAd K ("Collation", some "is_state")) F_Machine_is_state := by
  obtain ⟨fd, F⟩ := u_Machine_is_state_Collation h
  exact fr_of (g_Machine_is_state h (fun_of F)) (F.bindsN fun _ _ _ _ _ _ us hl => match us, hl with | [_, _], _ => rfl)
theorem u_Machine_is_state_Language (h : Fx P w K mg base) : ∃ fd, FunD K "is_state" "Machine.is_state" (defArgs (inClass (top 19) 5)) (defBody (inClass (top 19) 5)) (defScope (inClass (top 19) 5)) [] [] (He.fAd K ("Language", some "is_state")) fd := h.x.sx.def_ 31 (d := d_Machine_is_state_Language) rfl
theorem r_Machine_is_state_Language (h : Fx P w K mg base) : FR (cmK K) P w K mg base 5 (He.fAd K ("Language", some "is_state")) F_Machine_is_state := by
  obtain ⟨fd, F⟩ := u_Machine_is_state_Language h
  exact fr_of (g_Machine_is_state h (fun_of F)) (F.bindsN fun _ _ _ _ _ _ us hl => match us, hl with | [_, _], _ => rfl)
theorem sc_is_letters : FnScope ["value", "letter", "one", "two"] ["value"] (defScope (top 16)) := ⟨rfl, rfl, rfl, by decide +kernel, rfl, by decide +kernel, by decide +kernel⟩
theorem g_is_letters (h : Fx P w K mg base) {f : Addr} {fd : FuncData} (Fn : Fun K "is_letters" "is_letters" (top 16) f fd) : FJ (cmK K) P w K mg base 1 f fd ["value"] (fnB 1 3 m_is_letters) :=
  fj_ofC (N := ["value", "letter", "one", "two"]) Fn sc_is_letters rfl fun cdv A outer s H E hcd hr => by
    have sc := sc_is_letters
    exact (bj_cons (sj_if (tj_w (wj_or (tj_not (tj_val (ej_isT h.nb bb_str (h.nb _ (by decide)) (ej_var (pv 0))))) (wj_or1 (tj_not (tj_chain (opr_le hr.units) (opr_le hr.units) od_ord od_ord ej_int (ej_len h.nb (aj_cons (ej_var (pv 0)) aj_nil)) (ej_globI (h.i_MOST_LETTERS).choose_spec)))))) (bj_one (sj_ret ej_bl)) bj_nil) (bj_cons (sj_if (tj_not (tj_val (ej_all h.nb (aj_cons (ej_lc (own := [("letter", 1)]) rfl sc.nd (ij_e (ej_var (pv 0))) (blk_by (by kernel_rfl)) (fun _ _ _ _ _ => (gj_name (pg_name sc.nd rfl (Or.inl rfl)))) (fun _ _ _ _ _ => tsj_nil) (fun _ _ _ _ _ => (ej_chain (opr_le hr.units) (opr_le hr.units) od_ord od_ord ej_str (ej_var (pv 1)) ej_str))) aj_nil) rfl))) (bj_one (sj_ret ej_bl)) bj_nil) (bj_one (sj_ret (ej_all h.nb (aj_cons (ej_lc (own := [("one", 2), ("two", 3)]) rfl sc.nd (ij_zip h.nb (aj_cons (ej_var (pv 0)) (aj_cons (ej_sl (ej_var (pv 0)) (oj_int ej_int) oj_no) aj_nil))) (blk_by (by kernel_rfl)) (fun _ _ _ _ _ => (gj_tup rfl (gsj_cons (gj_name (pg_name sc.nd rfl (Or.inl rfl))) (gsj_cons (gj_name (pg_name sc.nd rfl (Or.inl rfl))) gsj_nil (fun a b => pgs_cons a b)) (fun a b => pgs_cons a b)))) (fun _ _ _ _ _ => tsj_nil) (fun _ _ _ _ _ => (ej_lt hr.units (ej_var (pv 2)) (ej_var (pv 3))))) aj_nil) rfl)))))
theorem u_is_letters (h : Fx P w K mg base) : ∃ fd, FunD K "is_letters" "is_letters" (defArgs (top 16)) (defBody (top 16)) (defScope (top 16)) [] [] (He.fAd K ("is_letters", none)) fd := h.x.sx.def_ 32 (d := d_is_letters) rfl
theorem r_is_letters (h : Fx P w K mg base) : FR (cmK K) P w K mg base 1 (He.fAd K ("is_letters", none)) F_is_letters := by
  obtain ⟨fd, F⟩ := u_is_letters h
  exact fr_of (g_is_letters h (fun_of F)) (F.bindsN fun _ _ _ _ _ _ us hl => match us, hl with | [_], _ => rfl)
theorem kp_is_letters (h : Fx P w K mg base) : PySem.W.keepIn K (.ref (He.fAd K ("is_letters", none))) = true := by obtain ⟨fd, F⟩ := u_is_letters h; exact F.kp
theorem sc_Machine_init : FnScope ["self", "letters", "states", "index", "state"] ((["self", "letters"] : List Str) ++ (["states"] : List Str)) (defScope (inClass (top 19) 2)) := ⟨rfl, rfl, rfl, by decide +kernel, rfl, by decide +kernel, by decide +kernel⟩
theorem g_Machine_init (h : Fx P w K mg base) {f : Addr} {fd : FuncData} (Fn : Fun K "__init__" "Machine.__init__" (inClass (top 19) 2) f fd) : FR (cmK K) P w K mg base 6 f (starF 2 (fnB 3 2 m_Machine_init)) := by
  have e := Fn.ex
  obtain ⟨oc, od, kV, doc, pm, an, cdv, ct, osl, rfl, lk, hcd⟩ := e
  exact fr_star (N := ["self", "letters", "states", "index", "state"]) (ps := ["self", "letters"]) (pv := "states") (nl := 2) (g := m_Machine_init) Fn sc_Machine_init rfl (fun us rest hl => match us, rest, hl with | [_, _], [], _ => rfl | [_, _], _ :: _, _ => rfl) fun cdv A outer s H E hr => by
    have sc := sc_Machine_init
    exact (bj_cons (sj_if (tj_not (tj_val (ej_callF (r_is_letters h) (hr.mono (by decide)) (h.glo_is_letters) (kp_is_letters h) (aj_cons (ej_var (pv 1)) aj_nil)))) (bj_one sj_never) bj_nil) (bj_cons (sj_if (tj_not (tj_chain (opr_le hr.units) (opr_le hr.units) od_ord od_ord ej_int (ej_len h.nb (aj_cons (ej_var (pv 2)) aj_nil)) (ej_globI (h.i_MOST_STATES).choose_spec))) (bj_one sj_never) bj_nil) (bj_cons (sj_setFld (dAllC ⟨c_Collation h, n_Collation_own_letters h⟩ (dAll1 ⟨c_Language h, n_Language_own_letters h⟩)) (ej_var (pv 1)) (ej_var (pv 0))) (bj_cons (sj_setFld (dAllC ⟨c_Collation h, n_Collation_own_states h⟩ (dAll1 ⟨c_Language h, n_Language_own_states h⟩)) (ej_var (pv 2)) (ej_var (pv 0))) (bj_one (sj_for (passes_of rfl) rfl (ij_enum h.nb (aj_cons (ej_var (pv 2)) aj_nil)) (gj_tup rfl (gsj_cons (gj_name (pg_name sc.nd rfl (Or.inl rfl))) (gsj_cons (gj_name (pg_name sc.nd rfl (Or.inl rfl))) gsj_nil (fun a b => pgs_cons a b)) (fun a b => pgs_cons a b))) (bj_one (sj_if (tj_not (tj_val (ej_meth (by decide) (dAllC (md_of (c_Collation h) (me_Collation_is_state h) (r_Machine_is_state_Collation h) (hr.mono (by decide))) (dAll1 (md_of (c_Language h) (me_Language_is_state h) (r_Machine_is_state_Language h) (hr.mono (by decide))))) (ej_var (pv 0)) (aj_cons (ej_var (pv 4)) aj_nil)))) (bj_one sj_never) bj_nil))))))))
theorem u_Machine_init_Machine (h : Fx P w K mg base) : ∃ fd, FunD K "__init__" "Machine.__init__" (defArgs (inClass (top 19) 2)) (defBody (inClass (top 19) 2)) (defScope (inClass (top 19) 2)) [] [] (He.fAd K ("Machine", some "__init__")) fd := h.x.sx.def_ 33 (d := d_Machine_init_Machine) rfl
theorem r_Machine_init_Machine (h : Fx P w K mg base) : FR (cmK K) P w K mg base 6 (He.fAd K ("Machine", some "__init__")) F_Machine_init := by
  obtain ⟨fd, F⟩ := u_Machine_init_Machine h
  exact g_Machine_init h (fun_of F)
theorem sc_Collation_init : NdefX.NScope ["self", "letters", "states", "__class__"] ((["self", "letters"] : List Str) ++ (["states"] : List Str)) ["__class__"] (defScope (inClass (top 20) 1)) := NdefX.nscope_by (by decide +kernel)
theorem g_Collation_init (h : Fx P w K mg base) {f : Addr} {fd : FuncData} (Fn : FunS P K "__init__" "Collation.__init__" (inClass (top 20) 1) f (He.ga K "Collation") fd) : FR (cmK K) P w K mg base 7 f (starF 2 (fnB 3 1 m_Collation_init)) := by
  have e := Fn.ex
  obtain ⟨oc, od, kV, doc, pm, an, c, cc, ct, osl, ar, vs, file, tf, ccl, cl, cdd, cld, ccs, csl, cdD, rfl, _⟩ := e
  exact fr_sups (N := ["self", "letters", "states", "__class__"]) (ps := ["self", "letters"]) (pv := "states") (nl := 1) (g := m_Collation_init) Fn (supG h) sc_Collation_init rfl rfl rfl (fun us rest hl => match us, rest, hl with | [_, _], [], _ => rfl | [_, _], _ :: _, _ => rfl) fun c cc A outer s H E S hr => by
    have sc := sc_Collation_init
    exact (bja_cons (sja_expr (eja_sups S (dAll1 (s_Collation_Collation_init h)) (r_Machine_init_Machine h) (hr.mono (by decide)) (aj_cons (ej_var (pv 1)) (aj_star (ej_var (pv 2)) aj_nil)))) bja_nil)
theorem r_Collation_init_Collation (h : Fx P w K mg base) : FR (cmK K) P w K mg base 7 (He.fAd K ("Collation", some "__init__")) F_Collation_init := by
  obtain ⟨fd, F⟩ := FnA.funS (P := P) (d := a_Collation_init_Collation) (st := (inClass (top 20) 1)) (h.x.fsAt 8 rfl) (by rw [h.hP]; exact exAt h.x.ex 8 rfl) rfl rfl rfl rfl rfl
  exact g_Collation_init h F
theorem sc_lines_in : FnScope ["text", "word", "first", "rest", "line"] ["text", "word"] (defScope (top 23)) := ⟨rfl, rfl, rfl, by decide +kernel, rfl, by decide +kernel, by decide +kernel⟩
theorem g_lines_in (h : Fx P w K mg base) {f : Addr} {fd : FuncData} (Fn : Fun K "lines_in" "lines_in" (top 23) f fd) : FJ (cmK K) P w K mg base 2 f fd ["text", "word"] (fnB 2 3 m_lines_in) :=
  fj_ofC (N := ["text", "word", "first", "rest", "line"]) Fn sc_lines_in rfl fun cdv A outer s H E hcd hr => by
    have sc := sc_lines_in
    exact (bj_cons (sj_if (tj_not (tj_val (ej_isT h.nb bb_str (h.nb _ (by decide)) (ej_var (pv 0))))) (bj_one sj_never) bj_nil) (bj_cons (sj_asgG (ej_lc (own := [("line", 4)]) rfl sc.nd (ij_e (ej_split (ej_var (pv 0)) ej_str)) (blk_by (by kernel_rfl)) (fun _ _ _ _ _ => (gj_name (pg_name sc.nd rfl (Or.inl rfl)))) (fun _ _ _ _ _ => tsj_nil) (fun _ _ _ _ _ => (ej_split (ej_var (pv 4)) ej_str))) (gj_star rfl (gsj_cons (gj_name (pg_name sc.nd rfl (Or.inl rfl))) (gsj_star (gj_name (pg_name sc.nd rfl (Or.inl rfl))) gsj_nil) (fun a b => pgs_cons a b)) (by decide))) (bj_cons (sj_if (tj_w (wj_or (tj_ne hr.units (ej_len h.nb (aj_cons (ej_var (pv 2)) aj_nil)) ej_int) (wj_or (tj_ne hr.units (ej_ix (ej_var (pv 2)) ej_int) (ej_var (pv 1))) (wj_or1 (tj_not (tj_val (ej_callF (r_is_letters h) (hr.mono (by decide)) (h.glo_is_letters) (kp_is_letters h) (aj_cons (ej_ix (ej_var (pv 2)) ej_int) aj_nil)))))))) (bj_one sj_never) bj_nil) (bj_one (sj_ret (ej_tup (aj_cons (ej_ix (ej_var (pv 2)) ej_int) (aj_cons (ej_var (pv 3)) aj_nil))))))))
theorem u_lines_in (h : Fx P w K mg base) : ∃ fd, FunD K "lines_in" "lines_in" (defArgs (top 23)) (defBody (top 23)) (defScope (top 23)) [] [] (He.fAd K ("lines_in", none)) fd := h.x.sx.def_ 34 (d := d_lines_in) rfl
theorem r_lines_in (h : Fx P w K mg base) : FR (cmK K) P w K mg base 2 (He.fAd K ("lines_in", none)) F_lines_in := by
  obtain ⟨fd, F⟩ := u_lines_in h
  exact fr_of (g_lines_in h (fun_of F)) (F.bindsN fun _ _ _ _ _ _ us hl => match us, hl with | [_, _], _ => rfl)
theorem kp_lines_in (h : Fx P w K mg base) : PySem.W.keepIn K (.ref (He.fAd K ("lines_in", none))) = true := by obtain ⟨fd, F⟩ := u_lines_in h; exact F.kp
theorem sc_number_in : FnScope ["word", "gap", "digit"] ["word", "gap"] (defScope (top 22)) := ⟨rfl, rfl, rfl, by decide +kernel, rfl, by decide +kernel, by decide +kernel⟩
theorem g_number_in (h : Fx P w K mg base) {f : Addr} {fd : FuncData} (Fn : Fun K "number_in" "number_in" (top 22) f fd) : FJ (cmK K) P w K mg base 1 f fd ["word", "gap"] (fnB 2 1 m_number_in) :=
  fj_ofC (N := ["word", "gap", "digit"]) Fn sc_number_in rfl fun cdv A outer s H E hcd hr => by
    have sc := sc_number_in
    exact (bj_cons (sj_if (tj_w (wj_and (tj_val (ej_var (pv 1))) (wj_and1 (tj_eq hr.units (ej_var (pv 0)) (ej_globS (h.s_NO_STATE).choose_spec))))) (bj_one (sj_ret (ej_tup (aj_cons ej_non aj_nil)))) bj_nil) (bj_cons (sj_if (tj_w (wj_or (tj_not (tj_chain (opr_le hr.units) (opr_le hr.units) od_ord od_ord ej_int (ej_len h.nb (aj_cons (ej_var (pv 0)) aj_nil)) ej_int)) (wj_or (tj_not (tj_val (ej_all h.nb (aj_cons (ej_lc (own := [("digit", 2)]) rfl sc.nd (ij_e (ej_var (pv 0))) (blk_by (by kernel_rfl)) (fun _ _ _ _ _ => (gj_name (pg_name sc.nd rfl (Or.inl rfl)))) (fun _ _ _ _ _ => tsj_nil) (fun _ _ _ _ _ => (ej_in (units65 hr) (ej_var (pv 2)) (ej_globS (h.s_DIGITS).choose_spec)))) aj_nil) rfl))) (wj_or1 (tj_w (wj_and (tj_eq hr.units (ej_ix (ej_var (pv 0)) ej_int) ej_str) (wj_and1 (tj_ne hr.units (ej_var (pv 0)) ej_str)))))))) (bj_one (sj_ret (ej_tup aj_nil))) bj_nil) (bj_one (sj_ret (ej_tup (aj_cons (ej_intC2 h.nb (aj_cons (ej_var (pv 0)) aj_nil)) aj_nil))))))
theorem u_number_in (h : Fx P w K mg base) : ∃ fd, FunD K "number_in" "number_in" (defArgs (top 22)) (defBody (top 22)) (defScope (top 22)) [] [("gap", .bl false)] (He.fAd K ("number_in", none)) fd := h.x.sx.def_ 35 (d := d_number_in) rfl
theorem r_number_in (h : Fx P w K mg base) : FR (cmK K) P w K mg base 1 (He.fAd K ("number_in", none)) F_number_in := by
  obtain ⟨fd, F⟩ := u_number_in h
  obtain ⟨ds, hv, hb⟩ := F.binds0 (ps := ["word", "gap"]) 1 (by simp) rfl fun D doc pm an cdv ct us ks h1 h2 => match us, ks, h1, h2 with | [_], [_], _, _ => ⟨_, _, _, _, _, _, rfl, rfl, rfl⟩
  exact fr_dfl (dd := [.bl false]) (g_number_in h (fun_of F)) hb hv (fun _ => Reps.cons rfl Reps.nil) 1 rfl
theorem rk_number_in (h : Fx P w K mg base) : FRK (cmK K) P w K mg base 1 (He.fAd K ("number_in", none)) ["gap"] FK_number_in := by
  obtain ⟨fd, F⟩ := u_number_in h
  exact frk_of (g_number_in h (fun_of F)) (kapp_of0 F fun _ _ _ _ _ _ us ws h1 h2 => by
    match ws, h2 with | [_], _ => match us, h1 with | [_], _ => rfl)
theorem kp_number_in (h : Fx P w K mg base) : PySem.W.keepIn K (.ref (He.fAd K ("number_in", none))) = true := by obtain ⟨fd, F⟩ := u_number_in h; exact F.kp
theorem sc_moves_in : FnScope ["words", "letters", "gap", "found", "word", "state"] ["words", "letters", "gap"] (defScope (top 24)) := ⟨rfl, rfl, rfl, by decide +kernel, rfl, by decide +kernel, by decide +kernel⟩
theorem g_moves_in (h : Fx P w K mg base) {f : Addr} {fd : FuncData} (Fn : Fun K "moves_in" "moves_in" (top 24) f fd) : FJ (cmK K) P w K mg base 2 f fd ["words", "letters", "gap"] (fnB 3 3 m_moves_in) :=
  fj_ofC (N := ["words", "letters", "gap", "found", "word", "state"]) Fn sc_moves_in rfl fun cdv A outer s H E hcd hr => by
    have sc := sc_moves_in
    exact (bj_cons (by first | exact (sj_setLc (own := [("word", 4)]) rfl sc.nd rfl rfl rfl (ij_e (ej_var (pv 0))) (blk_by (by kernel_rfl)) (fun _ _ _ _ _ => (gj_name (pg_name sc.nd rfl (Or.inl rfl)))) (fun _ _ _ _ _ => tsj_nil) (fun _ _ _ _ _ => (ej_callK (ks := ["gap"]) (rk_number_in h) (hr.mono (by decide)) (h.glo_number_in) (kp_number_in h) (aj_cons (ej_var (pv 4)) aj_nil) (kj_cons (ej_var (pv 2)) kj_nil)))) | exact (sj_asg (ej_lc (own := [("word", 4)]) rfl sc.nd (ij_e (ej_var (pv 0))) (blk_by (by kernel_rfl)) (fun _ _ _ _ _ => (gj_name (pg_name sc.nd rfl (Or.inl rfl)))) (fun _ _ _ _ _ => tsj_nil) (fun _ _ _ _ _ => (ej_callK (ks := ["gap"]) (rk_number_in h) (hr.mono (by decide)) (h.glo_number_in) (kp_number_in h) (aj_cons (ej_var (pv 4)) aj_nil) (kj_cons (ej_var (pv 2)) kj_nil)))) (fun q => ps_set sc.nd rfl (Or.inl rfl) q))) (bj_one (sj_ret (ej_if (tj_w (wj_or (tj_ne hr.units (ej_len h.nb (aj_cons (ej_var (pv 0)) aj_nil)) (ej_len h.nb (aj_cons (ej_var (pv 1)) aj_nil))) (wj_or1 (tj_in (units65 hr) (ej_tup aj_nil) (ej_var (pv 3)))))) ej_non (ej_tupleC h.nb (aj_cons (ej_lc (own := [("state", 5)]) rfl sc.nd (ij_e (ej_var (pv 3))) (blk_by (by kernel_rfl)) (fun _ _ _ _ _ => (gj_tup rfl (gsj_cons (gj_name (pg_name sc.nd rfl (Or.inl rfl))) gsj_nil (fun a b => pgs_cons a b)))) (fun _ _ _ _ _ => tsj_nil) (fun _ _ _ _ _ => (ej_var (pv 5)))) aj_nil))))))
theorem u_moves_in (h : Fx P w K mg base) : ∃ fd, FunD K "moves_in" "moves_in" (defArgs (top 24)) (defBody (top 24)) (defScope (top 24)) [] [("gap", .bl false)] (He.fAd K ("moves_in", none)) fd := h.x.sx.def_ 36 (d := d_moves_in) rfl
theorem r_moves_in (h : Fx P w K mg base) : FR (cmK K) P w K mg base 2 (He.fAd K ("moves_in", none)) F_moves_in := by
  obtain ⟨fd, F⟩ := u_moves_in h
  obtain ⟨ds, hv, hb⟩ := F.binds0 (ps := ["words", "letters", "gap"]) 2 (by simp) rfl fun D doc pm an cdv ct us ks h1 h2 => match us, ks, h1, h2 with | [_, _], [_], _, _ => ⟨_, _, _, _, _, _, rfl, rfl, rfl⟩
  exact fr_dfl (dd := [.bl false]) (g_moves_in h (fun_of F)) hb hv (fun _ => Reps.cons rfl Reps.nil) 2 rfl
theorem rk_moves_in (h : Fx P w K mg base) : FRK (cmK K) P w K mg base 2 (He.fAd K ("moves_in", none)) ["gap"] FK_moves_in := by
  obtain ⟨fd, F⟩ := u_moves_in h
  exact frk_of (g_moves_in h (fun_of F)) (kapp_of0 F fun _ _ _ _ _ _ us ws h1 h2 => by
    match ws, h2 with | [_], _ => match us, h1 with | [_, _], _ => rfl)
theorem kp_moves_in (h : Fx P w K mg base) : PySem.W.keepIn K (.ref (He.fAd K ("moves_in", none))) = true := by obtain ⟨fd, F⟩ := u_moves_in h; exact F.kp
theorem sc_read_collation : FnScope ["text", "states", "letters", "rows", "index", "moves", "ranking", "words"] ["text"] (defScope (top 25)) := ⟨rfl, rfl, rfl, by decide +kernel, rfl, by decide +kernel, by decide +kernel⟩
theorem g_read_collation (h : Fx P w K mg base) {f : Addr} {fd : FuncData} (Fn : Fun K "read_collation" "read_collation" (top 25) f fd) : FJ (cmK K) P w K mg base 9 f fd ["text"] (fnB 1 7 m_read_collation) :=
  fj_ofC (N := ["text", "states", "letters", "rows", "index", "moves", "ranking", "words"]) Fn sc_read_collation rfl fun cdv A outer s H E hcd hr => by
    have sc := sc_read_collation
    exact (bj_cons (sj_asgG (ej_callF (r_lines_in h) (hr.mono (by decide)) (h.glo_lines_in) (kp_lines_in h) (aj_cons (ej_var (pv 0)) (aj_cons ej_str aj_nil))) (gj_tup rfl (gsj_cons (gj_name (pg_name sc.nd rfl (Or.inl rfl))) (gsj_cons (gj_name (pg_name sc.nd rfl (Or.inl rfl))) gsj_nil (fun a b => pgs_cons a b)) (fun a b => pgs_cons a b)))) (bj_cons (sj_asg (ej_lst aj_nil) (fun q => ps_set sc.nd rfl (Or.inl rfl) q)) (bj_cons (sj_for (passes_of rfl) rfl (ij_enum h.nb (aj_cons (ej_var (pv 3)) aj_nil)) (gj_tup rfl (gsj_cons (gj_name (pg_name sc.nd rfl (Or.inl rfl))) (gsj_cons (gj_star rfl (gsj_cons (gj_name (pg_name sc.nd rfl (Or.inl rfl))) (gsj_star (gj_name (pg_name sc.nd rfl (Or.inl rfl))) gsj_nil) (fun a b => pgs_cons a b)) (by decide)) gsj_nil (fun a b => pgs_cons a b)) (fun a b => pgs_cons a b))) (bj_cons (sj_asg (ej_callF (r_moves_in h) (hr.mono (by decide)) (h.glo_moves_in) (kp_moves_in h) (aj_cons (ej_var (pv 7)) (aj_cons (ej_var (pv 2)) aj_nil))) (fun q => ps_set sc.nd rfl (Or.inl rfl) q)) (bj_cons (sj_if (tj_w (wj_or (tj_isN (ej_var (pv 5)) ej_non) (wj_or1 (tj_ne hr.units (ej_sorted h.nb (aj_cons (ej_var (pv 6)) aj_nil) rfl hr.units) (ej_sorted h.nb (aj_cons (ej_add (ej_var (pv 2)) (ej_globS (h.s_END).choose_spec)) aj_nil) rfl hr.units))))) (bj_one sj_never) bj_nil) (bj_one (sj_expr (ej_append (ej_var (pv 1)) (aj_cons (ej_tup (aj_cons (ej_var (pv 6)) (aj_cons (ej_var (pv 5)) aj_nil))) aj_nil))))))) (bj_one (sj_ret (ej_makes (mk_Collation h) (r_Collation_init_Collation h) (hr.mono (by decide)) (h.glo_Collation) (aj_cons (ej_var (pv 2)) (aj_star (ej_var (pv 1)) aj_nil))))))))
theorem u_read_collation (h : Fx P w K mg base) : ∃ fd, FunD K "read_collation" "read_collation" (defArgs (top 25)) (defBody (top 25)) (defScope (top 25)) [] [] (He.fAd K ("read_collation", none)) fd := h.x.sx.def_ 37 (d := d_read_collation) rfl
theorem r_read_collation (h : Fx P w K mg base) : FR (cmK K) P w K mg base 9 (He.fAd K ("read_collation", none)) F_read_collation := by
  obtain ⟨fd, F⟩ := u_read_collation h
  exact fr_of (g_read_collation h (fun_of F)) (F.bindsN fun _ _ _ _ _ _ us hl => match us, hl with | [_], _ => rfl)
theorem kp_read_collation (h : Fx P w K mg base) : PySem.W.keepIn K (.ref (He.fAd K ("read_collation", none))) = true := by obtain ⟨fd, F⟩ := u_read_collation h; exact F.kp
theorem sc_Language_better_tail : FnScope ["self", "number", "found", "some", "letter", "state"] ["self", "number", "found"] (defScope (inClass (top 21) 7)) := ⟨rfl, rfl, rfl, by decide +kernel, rfl, by decide +kernel, by decide +kernel⟩
theorem g_Language_better_tail (h : Fx P w K mg base) {f : Addr} {fd : FuncData} (Fn : Fun K "better_tail" "Language.better_tail" (inClass (top 21) 7) f fd) (hl : fd.code = .ref (He.cT K ("Language", some "better_tail")).1) : FJ (cmK K) P w K mg base 4 f fd ["self", "number", "found"] (fnB 3 3 m_Language_better_tail) :=
  fj_ofC (N := ["self", "number", "found", "some", "letter", "state"]) Fn sc_Language_better_tail rfl fun cdv A outer s H E hcd hr => by
    have sc := sc_Language_better_tail
    exact (bj_cons (sj_asg (ej_if (tj_isN (ej_ix (ej_var (pv 2)) (ej_var (pv 1))) ej_non) (ej_lst aj_nil) (ej_lst (aj_cons (ej_ix (ej_var (pv 2)) (ej_var (pv 1))) aj_nil))) (fun q => ps_set sc.nd rfl (Or.inl rfl) q)) (bj_cons (sj_for (passes_of rfl) rfl (ij_e (ej_prop (by decide) (dAll1 (pd_of (c_Language h) (p_Language_letters h) (j_Machine_letters_Language h) rfl (hr.mono (by decide)))) (ej_var (pv 0)))) (gj_name (pg_name sc.nd rfl (Or.inl rfl))) (bj_cons (sj_asg (ej_meth (by decide) (dAll1 (md_of (c_Language h) (me_Language_move h) (r_Machine_move_Language h) (hr.mono (by decide)))) (ej_var (pv 0)) (aj_cons (ej_var (pv 1)) (aj_cons (ej_var (pv 4)) aj_nil))) (fun q => ps_set sc.nd rfl (Or.inl rfl) q)) (bj_one (sj_if (tj_w (wj_and (tj_notN (ej_var (pv 5)) ej_non) (wj_and1 (tj_notN (ej_ix (ej_var (pv 2)) (ej_var (pv 5))) ej_non)))) (bj_one (sj_expr (ej_append (ej_var (pv 3)) (aj_cons (ej_add (ej_var (pv 4)) (ej_ix (ej_var (pv 2)) (ej_var (pv 5)))) aj_nil)))) bj_nil)))) (bj_one (sj_ret (ej_minkey h.nb rfl (in1d hr) (in1u hr) ⟨⟨_, _, _, _, _, _, rfl⟩, rfl, rfl, rfl, by decide +kernel, rfl, rfl, rfl, fun _ _ _ _ _ _ _ => rfl⟩ ⟨⟨_, _, h.x.tb _ (List.mem_singleton.mpr rfl), hcd.symm.trans hl, List.mem_singleton.mpr rfl, fun p hp _ => by rw [List.mem_singleton.mp hp]; rfl⟩, rfl, by decide +kernel⟩ (ej_var (pv 3)))))))
theorem u_Language_better_tail_Language (h : Fx P w K mg base) : ∃ fd, FunD K "better_tail" "Language.better_tail" (defArgs (inClass (top 21) 7)) (defBody (inClass (top 21) 7)) (defScope (inClass (top 21) 7)) [] [] (He.fAd K ("Language", some "better_tail")) fd := h.x.sx.def_ 38 (d := d_Language_better_tail_Language) rfl
theorem r_Language_better_tail_Language (h : Fx P w K mg base) : FR (cmK K) P w K mg base 4 (He.fAd K ("Language", some "better_tail")) F_Language_better_tail := by
  obtain ⟨fd, F⟩ := u_Language_better_tail_Language h
  exact fr_of (g_Language_better_tail h (fun_of F) (code_at F)) (F.bindsN fun _ _ _ _ _ _ us hl => match us, hl with | [_, _, _], _ => rfl)
theorem sc_Language_shortest_tails : FnScope ["self", "found", "is_new", "number", "better", "accepts", "moves"] ["self"] (defScope (inClass (top 21) 6)) := ⟨rfl, rfl, rfl, by decide +kernel, rfl, by decide +kernel, by decide +kernel⟩
theorem g_Language_shortest_tails (h : Fx P w K mg base) {f : Addr} {fd : FuncData} (Fn : Fun K "shortest_tails" "Language.shortest_tails" (inClass (top 21) 6) f fd) : FJ (cmK K) P w K mg base 5 f fd ["self"] (fnB 1 6 m_Language_shortest_tails) :=
  fj_ofC (N := ["self", "found", "is_new", "number", "better", "accepts", "moves"]) Fn sc_Language_shortest_tails rfl fun cdv A outer s H E hcd hr => by
    have sc := sc_Language_shortest_tails
    exact (bj_cons (by first | exact (sj_setLc (own := [("accepts", 5), ("moves", 6)]) rfl sc.nd rfl rfl rfl (ij_e (ej_prop (by decide) (dAll1 (pd_of (c_Language h) (p_Language_states h) (j_Machine_states_Language h) rfl (hr.mono (by decide)))) (ej_var (pv 0)))) (blk_by (by kernel_rfl)) (fun _ _ _ _ _ => (gj_tup rfl (gsj_cons (gj_name (pg_name sc.nd rfl (Or.inl rfl))) (gsj_cons (gj_name (pg_name sc.nd rfl (Or.inl rfl))) gsj_nil (fun a b => pgs_cons a b)) (fun a b => pgs_cons a b)))) (fun _ _ _ _ _ => tsj_nil) (fun _ _ _ _ _ => (ej_if (tj_val (ej_var (pv 5))) ej_str ej_non))) | exact (sj_asg (ej_lc (own := [("accepts", 5), ("moves", 6)]) rfl sc.nd (ij_e (ej_prop (by decide) (dAll1 (pd_of (c_Language h) (p_Language_states h) (j_Machine_states_Language h) rfl (hr.mono (by decide)))) (ej_var (pv 0)))) (blk_by (by kernel_rfl)) (fun _ _ _ _ _ => (gj_tup rfl (gsj_cons (gj_name (pg_name sc.nd rfl (Or.inl rfl))) (gsj_cons (gj_name (pg_name sc.nd rfl (Or.inl rfl))) gsj_nil (fun a b => pgs_cons a b)) (fun a b => pgs_cons a b)))) (fun _ _ _ _ _ => tsj_nil) (fun _ _ _ _ _ => (ej_if (tj_val (ej_var (pv 5))) ej_str ej_non))) (fun q => ps_set sc.nd rfl (Or.inl rfl) q))) (bj_cons (sj_asg ej_bl (fun q => ps_set sc.nd rfl (Or.inl rfl) q)) (bj_cons (sj_while (passes_of rfl) (tj_val (ej_var (pv 2))) (bj_cons (sj_asg ej_bl (fun q => ps_set sc.nd rfl (Or.inl rfl) q)) (bj_one (sj_for (passes_of rfl) rfl (ij_r1 rfl (h.nb _ (by decide)) (aj_cons (ej_len h.nb (aj_cons (ej_prop (by decide) (dAll1 (pd_of (c_Language h) (p_Language_states h) (j_Machine_states_Language h) rfl (hr.mono (by decide)))) (ej_var (pv 0))) aj_nil)) aj_nil)) (gj_name (pg_name sc.nd rfl (Or.inl rfl))) (bj_cons (sj_asg (ej_meth (by decide) (dAll1 (md_of (c_Language h) (me_Language_better_tail h) (r_Language_better_tail_Language h) (hr.mono (by decide)))) (ej_var (pv 0)) (aj_cons (ej_var (pv 3)) (aj_cons (ej_var (pv 1)) aj_nil))) (fun q => ps_set sc.nd rfl (Or.inl rfl) q)) (bj_one (sj_if (tj_ne hr.units (ej_var (pv 4)) (ej_ix (ej_var (pv 1)) (ej_var (pv 3)))) (bj_cons (sj_setIx (ej_var (pv 4)) (ej_var (pv 1)) (ej_var (pv 3))) (bj_one (sj_asg ej_bl (fun q => ps_set sc.nd rfl (Or.inl rfl) q)))) bj_nil))))))) (bj_one (sj_ret (ej_var (pv 1)))))))
theorem u_Language_shortest_tails_Language (h : Fx P w K mg base) : ∃ fd, FunD K "shortest_tails" "Language.shortest_tails" (defArgs (inClass (top 21) 6)) (defBody (inClass (top 21) 6)) (defScope (inClass (top 21) 6)) [] [] (He.fAd K ("Language", some "shortest_tails")) fd := h.x.sx.def_ 39 (d := d_Language_shortest_tails_Language) rfl
theorem r_Language_shortest_tails_Language (h : Fx P w K mg base) : FR (cmK K) P w K mg base 5 (He.fAd K ("Language", some "shortest_tails")) F_Language_shortest_tails := by
  obtain ⟨fd, F⟩ := u_Language_shortest_tails_Language h
  exact fr_of (g_Language_shortest_tails h (fun_of F)) (F.bindsN fun _ _ _ _ _ _ us hl => match us, hl with | [_], _ => rfl)
theorem sc_Language_init : NdefX.NScope ["self", "letters", "states", "__class__"] ((["self", "letters"] : List Str) ++ (["states"] : List Str)) ["__class__"] (defScope (inClass (top 21) 1)) := NdefX.nscope_by (by decide +kernel)
theorem g_Language_init (h : Fx P w K mg base) {f : Addr} {fd : FuncData} (Fn : FunS P K "__init__" "Language.__init__" (inClass (top 21) 1) f (He.ga K "Language") fd) : FR (cmK K) P w K mg base 7 f (starF 2 (fnB 3 1 m_Language_init)) := by
  have e := Fn.ex
  obtain ⟨oc, od, kV, doc, pm, an, c, cc, ct, osl, ar, vs, file, tf, ccl, cl, cdd, cld, ccs, csl, cdD, rfl, _⟩ := e
  exact fr_sups (N := ["self", "letters", "states", "__class__"]) (ps := ["self", "letters"]) (pv := "states") (nl := 1) (g := m_Language_init) Fn (supG h) sc_Language_init rfl rfl rfl (fun us rest hl => match us, rest, hl with | [_, _], [], _ => rfl | [_, _], _ :: _, _ => rfl) fun c cc A outer s H E S hr => by
    have sc := sc_Language_init
    exact (bja_cons (sja_expr (eja_sups S (dAll1 (s_Language_Language_init h)) (r_Machine_init_Machine h) (hr.mono (by decide)) (aj_cons (ej_var (pv 1)) (aj_star (ej_var (pv 2)) aj_nil)))) (bja_cons (sja_of (sj_setFld (dAll1 ⟨c_Language h, n_Language_tails h⟩) (ej_meth0 (by decide) (dAll1 (md_of (c_Language h) (me_Language_shortest_tails h) (r_Language_shortest_tails_Language h) (hr.mono (by decide)))) (ej_var (pv 0))) (ej_var (pv 0)))) bja_nil))
theorem r_Language_init_Language (h : Fx P w K mg base) : FR (cmK K) P w K mg base 7 (He.fAd K ("Language", some "__init__")) F_Language_init := by
  obtain ⟨fd, F⟩ := FnA.funS (P := P) (d := a_Language_init_Language) (st := (inClass (top 21) 1)) (h.x.fsAt 9 rfl) (by rw [h.hP]; exact exAt h.x.ex 9 rfl) rfl rfl rfl rfl rfl
  exact g_Language_init h F
theorem sc_read_language : FnScope ["text", "states", "letters", "rows", "index", "moves", "word", "words"] ["text"] (defScope (top 26)) := ⟨rfl, rfl, rfl, by decide +kernel, rfl, by decide +kernel, by decide +kernel⟩
theorem g_read_language (h : Fx P w K mg base) {f : Addr} {fd : FuncData} (Fn : Fun K "read_language" "read_language" (top 26) f fd) : FJ (cmK K) P w K mg base 9 f fd ["text"] (fnB 1 7 m_read_language) :=
  fj_ofC (N := ["text", "states", "letters", "rows", "index", "moves", "word", "words"]) Fn sc_read_language rfl fun cdv A outer s H E hcd hr => by
    have sc := sc_read_language
    exact (bj_cons (sj_asgG (ej_callF (r_lines_in h) (hr.mono (by decide)) (h.glo_lines_in) (kp_lines_in h) (aj_cons (ej_var (pv 0)) (aj_cons ej_str aj_nil))) (gj_tup rfl (gsj_cons (gj_name (pg_name sc.nd rfl (Or.inl rfl))) (gsj_cons (gj_name (pg_name sc.nd rfl (Or.inl rfl))) gsj_nil (fun a b => pgs_cons a b)) (fun a b => pgs_cons a b)))) (bj_cons (sj_asg (ej_lst aj_nil) (fun q => ps_set sc.nd rfl (Or.inl rfl) q)) (bj_cons (sj_for (passes_of rfl) rfl (ij_enum h.nb (aj_cons (ej_var (pv 3)) aj_nil)) (gj_tup rfl (gsj_cons (gj_name (pg_name sc.nd rfl (Or.inl rfl))) (gsj_cons (gj_star rfl (gsj_cons (gj_name (pg_name sc.nd rfl (Or.inl rfl))) (gsj_star (gj_name (pg_name sc.nd rfl (Or.inl rfl))) gsj_nil) (fun a b => pgs_cons a b)) (by decide)) gsj_nil (fun a b => pgs_cons a b)) (fun a b => pgs_cons a b))) (bj_cons (sj_asg (ej_callK (ks := ["gap"]) (rk_moves_in h) (hr.mono (by decide)) (h.glo_moves_in) (kp_moves_in h) (aj_cons (ej_var (pv 7)) (aj_cons (ej_var (pv 2)) aj_nil)) (kj_cons ej_bl kj_nil)) (fun q => ps_set sc.nd rfl (Or.inl rfl) q)) (bj_cons (sj_if (tj_w (wj_or (tj_isN (ej_var (pv 5)) ej_non) (wj_or1 (tj_notIn (units65 hr) (ej_var (pv 6)) (ej_tup (aj_cons ej_str (aj_cons ej_str aj_nil))))))) (bj_one sj_never) bj_nil) (bj_one (sj_expr (ej_append (ej_var (pv 1)) (aj_cons (ej_tup (aj_cons (ej_eq hr.units (ej_var (pv 6)) ej_str) (aj_cons (ej_var (pv 5)) aj_nil))) aj_nil))))))) (bj_one (sj_ret (ej_makes (mk_Language h) (r_Language_init_Language h) (hr.mono (by decide)) (h.glo_Language) (aj_cons (ej_var (pv 2)) (aj_star (ej_var (pv 1)) aj_nil))))))))
theorem u_read_language (h : Fx P w K mg base) : ∃ fd, FunD K "read_language" "read_language" (defArgs (top 26)) (defBody (top 26)) (defScope (top 26)) [] [] (He.fAd K ("read_language", none)) fd := h.x.sx.def_ 40 (d := d_read_language) rfl
theorem r_read_language (h : Fx P w K mg base) : FR (cmK K) P w K mg base 9 (He.fAd K ("read_language", none)) F_read_language := by
  obtain ⟨fd, F⟩ := u_read_language h
  exact fr_of (g_read_language h (fun_of F)) (F.bindsN fun _ _ _ _ _ _ us hl => match us, hl with | [_], _ => rfl)
theorem kp_read_language (h : Fx P w K mg base) : PySem.W.keepIn K (.ref (He.fAd K ("read_language", none))) = true := by obtain ⟨fd, F⟩ := u_read_language h; exact F.kp
theorem sc__law_made : FnScope ["_law_plain", "_law_orders", "_law_letters", "_law_old", "_law_new", "_law_language_here", "_law_states"] ["_law_plain"] (defScope (top 39)) := ⟨rfl, rfl, rfl, by decide +kernel, rfl, by decide +kernel, by decide +kernel⟩
theorem g__law_made (h : Fx P w K mg base) {f : Addr} {fd : FuncData} (Fn : Fun K "_law_made" "_law_made" (top 39) f fd) : FJ (cmK K) P w K mg base 10 f fd ["_law_plain"] (fnB 1 6 m__law_made) :=
  fj_ofC (N := ["_law_plain", "_law_orders", "_law_letters", "_law_old", "_law_new", "_law_language_here", "_law_states"]) Fn sc__law_made rfl fun cdv A outer s H E hcd hr => by
    have sc := sc__law_made
    exact (bj_cons (sj_asgG (ej_var (pv 0)) (gj_tup rfl (gsj_cons (gj_name (pg_name sc.nd rfl (Or.inr rfl))) (gsj_cons (gj_name (pg_name sc.nd rfl (Or.inl rfl))) (gsj_cons (gj_name (pg_name sc.nd rfl (Or.inl rfl))) (gsj_cons (gj_name (pg_name sc.nd rfl (Or.inl rfl))) gsj_nil (fun a b => pgs_cons a b)) (fun a b => pgs_cons a b)) (fun a b => pgs_cons a b)) (fun a b => pgs_cons a b)))) (bj_cons (by first | exact (sj_setLc (own := [("_law_states", 6)]) rfl sc.nd rfl rfl rfl (ij_e (ej_lst (aj_cons (ej_var (pv 3)) (aj_cons (ej_var (pv 4)) aj_nil)))) (blk_by (by kernel_rfl)) (fun _ _ _ _ _ => (gj_name (pg_name sc.nd rfl (Or.inl rfl)))) (fun _ _ _ _ _ => tsj_nil) (fun _ _ _ _ _ => (ej_callF (r_read_collation h) (hr.mono (by decide)) (h.glo_read_collation) (kp_read_collation h) (aj_cons (ej_callF (r__law_machine_lines h) (hr.mono (by decide)) (h.glo__law_machine_lines) (kp__law_machine_lines h) (aj_cons ej_str (aj_cons (ej_var (pv 2)) (aj_cons (ej_var (pv 6)) aj_nil)))) aj_nil)))) | exact (sj_asg (ej_lc (own := [("_law_states", 6)]) rfl sc.nd (ij_e (ej_lst (aj_cons (ej_var (pv 3)) (aj_cons (ej_var (pv 4)) aj_nil)))) (blk_by (by kernel_rfl)) (fun _ _ _ _ _ => (gj_name (pg_name sc.nd rfl (Or.inl rfl)))) (fun _ _ _ _ _ => tsj_nil) (fun _ _ _ _ _ => (ej_callF (r_read_collation h) (hr.mono (by decide)) (h.glo_read_collation) (kp_read_collation h) (aj_cons (ej_callF (r__law_machine_lines h) (hr.mono (by decide)) (h.glo__law_machine_lines) (kp__law_machine_lines h) (aj_cons ej_str (aj_cons (ej_var (pv 2)) (aj_cons (ej_var (pv 6)) aj_nil)))) aj_nil)))) (fun q => ps_set sc.nd rfl (Or.inl rfl) q))) (bj_one (sj_ret (ej_make (mk_Upgrade h) (r_Upgrade_init_Upgrade h) (hr.mono (by decide)) (h.glo_Upgrade) (aj_cons (ej_ix (ej_var (pv 1)) ej_int) (aj_cons (ej_ix (ej_var (pv 1)) ej_int) (aj_cons (ej_callF (r_read_language h) (hr.mono (by decide)) (h.glo_read_language) (kp_read_language h) (aj_cons (ej_callF (r__law_machine_lines h) (hr.mono (by decide)) (h.glo__law_machine_lines) (kp__law_machine_lines h) (aj_cons ej_str (aj_cons (ej_var (pv 2)) (aj_cons (ej_var (pv 5)) aj_nil)))) aj_nil)) aj_nil))))))))
theorem u__law_made (h : Fx P w K mg base) : ∃ fd, FunD K "_law_made" "_law_made" (defArgs (top 39)) (defBody (top 39)) (defScope (top 39)) [] [] (He.fAd K ("_law_made", none)) fd := h.x.sx.def_ 41 (d := d__law_made) rfl
theorem r__law_made (h : Fx P w K mg base) : FR (cmK K) P w K mg base 10 (He.fAd K ("_law_made", none)) F__law_made := by
  obtain ⟨fd, F⟩ := u__law_made h
  exact fr_of (g__law_made h (fun_of F)) (F.bindsN fun _ _ _ _ _ _ us hl => match us, hl with | [_], _ => rfl)
theorem kp__law_made (h : Fx P w K mg base) : PySem.W.keepIn K (.ref (He.fAd K ("_law_made", none))) = true := by obtain ⟨fd, F⟩ := u__law_made h; exact F.kp
theorem sc__law_texts : FnScope ["_law_plain", "_law_longest_here", "_law_length", "_law_letters", "_law_old", "_law_new", "_law_language_here", "_law_layer", "_law_found", "_law_later", "_law_text", "_law_state", "_law_letter", "_law_other"] ["_law_plain", "_law_longest_here"] (defScope (top 42)) := ⟨rfl, rfl, rfl, by decide +kernel, rfl, by decide +kernel, by decide +kernel⟩
theorem g__law_texts (h : Fx P w K mg base) {f : Addr} {fd : FuncData} (Fn : Fun K "_law_texts" "_law_texts" (top 42) f fd) : FJ (cmK K) P w K mg base 1 f fd ["_law_plain", "_law_longest_here"] (fnB 2 12 m__law_texts) :=
  fj_ofC (N := ["_law_plain", "_law_longest_here", "_law_length", "_law_letters", "_law_old", "_law_new", "_law_language_here", "_law_layer", "_law_found", "_law_later", "_law_text", "_law_state", "_law_letter", "_law_other"]) Fn sc__law_texts rfl fun cdv A outer s H E hcd hr => by
    have sc := sc__law_texts
    exact (bj_cons (sj_asgG (ej_var (pv 0)) (gj_tup rfl (gsj_cons (gj_name (pg_name sc.nd rfl (Or.inl rfl))) (gsj_cons (gj_name (pg_name sc.nd rfl (Or.inl rfl))) (gsj_cons (gj_name (pg_name sc.nd rfl (Or.inl rfl))) (gsj_cons (gj_name (pg_name sc.nd rfl (Or.inr rfl))) gsj_nil (fun a b => pgs_cons a b)) (fun a b => pgs_cons a b)) (fun a b => pgs_cons a b)) (fun a b => pgs_cons a b)))) (bj_cons (sj_par rfl sc.nd rfl rfl (by decide) rfl rfl (aj_cons (ej_lst (aj_cons (ej_tup (aj_cons ej_str (aj_cons ej_int aj_nil))) aj_nil)) (aj_cons (ej_lst aj_nil) aj_nil)) rfl) (bj_cons (sj_for (passes_of rfl) rfl (ij_r1 rfl (h.nb _ (by decide)) (aj_cons (ej_add (ej_if (tj_eq hr.units (ej_len h.nb (aj_cons (ej_var (pv 3)) aj_nil)) ej_int) (ej_min h.nb (aj_cons ej_int (aj_cons (ej_var (pv 1)) aj_nil)) rfl) (ej_var (pv 1))) ej_int) aj_nil)) (gj_name (pg_name sc.nd rfl (Or.inl rfl))) (bj_cons (sj_asg (ej_add (ej_var (pv 8)) (ej_lc (own := [("_law_text", 10), ("_law_state", 11)]) rfl sc.nd (ij_e (ej_var (pv 7))) (blk_by (by kernel_rfl)) (fun _ _ _ _ _ => (gj_tup rfl (gsj_cons (gj_name (pg_name sc.nd rfl (Or.inl rfl))) (gsj_cons (gj_name (pg_name sc.nd rfl (Or.inl rfl))) gsj_nil (fun a b => pgs_cons a b)) (fun a b => pgs_cons a b)))) (fun _ _ _ _ _ => (tsj_one (tj_val (ej_ix (ej_ix (ej_var (pv 6)) (ej_var (pv 11))) ej_int)))) (fun _ _ _ _ _ => (ej_var (pv 10))))) (fun q => ps_set sc.nd rfl (Or.inl rfl) q)) (bj_cons (sj_asg (ej_lst aj_nil) (fun q => ps_set sc.nd rfl (Or.inl rfl) q)) (bj_cons (sj_for (passes_of rfl) rfl (ij_e (ej_var (pv 7))) (gj_tup rfl (gsj_cons (gj_name (pg_name sc.nd rfl (Or.inl rfl))) (gsj_cons (gj_name (pg_name sc.nd rfl (Or.inl rfl))) gsj_nil (fun a b => pgs_cons a b)) (fun a b => pgs_cons a b))) (bj_one (sj_for (passes_of rfl) rfl (ij_zip h.nb (aj_cons (ej_var (pv 3)) (aj_cons (ej_ix (ej_ix (ej_var (pv 6)) (ej_var (pv 11))) ej_int) aj_nil))) (gj_tup rfl (gsj_cons (gj_name (pg_name sc.nd rfl (Or.inl rfl))) (gsj_cons (gj_name (pg_name sc.nd rfl (Or.inl rfl))) gsj_nil (fun a b => pgs_cons a b)) (fun a b => pgs_cons a b))) (bj_one (sj_if (tj_notN (ej_var (pv 13)) ej_non) (bj_one (sj_expr (ej_append (ej_var (pv 9)) (aj_cons (ej_tup (aj_cons (ej_add (ej_var (pv 10)) (ej_var (pv 12))) (aj_cons (ej_var (pv 13)) aj_nil))) aj_nil)))) bj_nil))))) (bj_one (sj_asg (ej_var (pv 9)) (fun q => ps_set sc.nd rfl (Or.inl rfl) q))))))) (bj_one (sj_ret (ej_var (pv 8)))))))
theorem u__law_texts (h : Fx P w K mg base) : ∃ fd, FunD K "_law_texts" "_law_texts" (defArgs (top 42)) (defBody (top 42)) (defScope (top 42)) [] [] (He.fAd K ("_law_texts", none)) fd := h.x.sx.def_ 42 (d := d__law_texts) rfl
theorem r__law_texts (h : Fx P w K mg base) : FR (cmK K) P w K mg base 1 (He.fAd K ("_law_texts", none)) F__law_texts := by
  obtain ⟨fd, F⟩ := u__law_texts h
  exact fr_of (g__law_texts h (fun_of F)) (F.bindsN fun _ _ _ _ _ _ us hl => match us, hl with | [_, _], _ => rfl)
theorem kp__law_texts (h : Fx P w K mg base) : PySem.W.keepIn K (.ref (He.fAd K ("_law_texts", none))) = true := by obtain ⟨fd, F⟩ := u__law_texts h; exact F.kp
theorem sc_law : FnScope ["_law_script", "_law_at", "_law_bag_here", "_law_turn", "_law_plain", "_law_real", "_law_left", "_law_some", "_law_text", "_law_other", "_law_many", "_law_due"] ["_law_script"] (defScope (top 43)) := ⟨rfl, rfl, rfl, by decide +kernel, rfl, by decide +kernel, by decide +kernel⟩
theorem g_law (h : Fx P w K mg base) {f : Addr} {fd : FuncData} (Fn : Fun K "law" "law" (top 43) f fd) : FJ (cmK K) P w K mg base 11 f fd ["_law_script"] (fnB 1 11 m_law) :=
  fj_ofC (N := ["_law_script", "_law_at", "_law_bag_here", "_law_turn", "_law_plain", "_law_real", "_law_left", "_law_some", "_law_text", "_law_other", "_law_many", "_law_due"]) Fn sc_law rfl fun cdv A outer s H E hcd hr => by
    have sc := sc_law
    exact (bj_cons (sj_for (passes_of rfl) rfl (ij_r1 rfl (h.nb _ (by decide)) (aj_cons (ej_max h.nb (aj_cons ej_int (aj_cons (ej_min h.nb (aj_cons ej_int (aj_cons (ej_len h.nb (aj_cons (ej_var (pv 0)) aj_nil)) aj_nil)) rfl) aj_nil)) rfl) aj_nil)) (gj_name (pg_name sc.nd rfl (Or.inl rfl))) (bj_cons (sj_asg (ej_callF (r__law_bag h) (hr.mono (by decide)) (h.glo__law_bag) (kp__law_bag h) (aj_cons (ej_var (pv 0)) (aj_cons (ej_var (pv 1)) aj_nil))) (fun q => ps_set sc.nd rfl (Or.inr rfl) q)) (bj_one (sj_for (passes_of rfl) rfl (ij_r1 rfl (h.nb _ (by decide)) (aj_cons ej_int aj_nil)) (gj_name (pg_name sc.nd rfl (Or.inl rfl))) (bj_cons (sj_asg (ej_callF (r__law_drawn h) (hr.mono (by decide)) (h.glo__law_drawn) (kp__law_drawn h) (aj_cons (ej_var (pv 2)) (aj_cons ej_int aj_nil))) (fun q => ps_set sc.nd rfl (Or.inl rfl) q)) (bj_cons (sj_asg (ej_callF (r__law_made h) (hr.mono (by decide)) (h.glo__law_made) (kp__law_made h) (aj_cons (ej_var (pv 4)) aj_nil)) (fun q => ps_set sc.nd rfl (Or.inl rfl) q)) (bj_cons (sj_asg (ej_callF (r__law_texts h) (hr.mono (by decide)) (h.glo__law_texts) (kp__law_texts h) (aj_cons (ej_var (pv 4)) (aj_cons ej_int aj_nil))) (fun q => ps_set sc.nd rfl (Or.inr rfl) q)) (bj_cons (by first | exact (sj_setLc (own := [("_law_many", 10)]) rfl sc.nd rfl rfl rfl (ij_r1 rfl (h.nb _ (by decide)) (aj_cons (ej_min h.nb (aj_cons ej_int (aj_cons (ej_len h.nb (aj_cons (ej_var (pv 6)) aj_nil)) aj_nil)) rfl) aj_nil)) (blk_by (by kernel_rfl)) (fun _ _ _ _ _ => (gj_name (pg_name sc.nd rfl (Or.inl rfl)))) (fun _ _ _ _ _ => tsj_nil) (fun _ _ _ _ _ => (ej_popAt (ej_var (pv 6)) (aj_cons (ej_callF (r__law_take h) (hr.mono (by decide)) (h.glo__law_take) (kp__law_take h) (aj_cons (ej_var (pv 2)) (aj_cons (ej_len h.nb (aj_cons (ej_var (pv 6)) aj_nil)) aj_nil))) aj_nil)))) | exact (sj_asg (ej_lc (own := [("_law_many", 10)]) rfl sc.nd (ij_r1 rfl (h.nb _ (by decide)) (aj_cons (ej_min h.nb (aj_cons ej_int (aj_cons (ej_len h.nb (aj_cons (ej_var (pv 6)) aj_nil)) aj_nil)) rfl) aj_nil)) (blk_by (by kernel_rfl)) (fun _ _ _ _ _ => (gj_name (pg_name sc.nd rfl (Or.inl rfl)))) (fun _ _ _ _ _ => tsj_nil) (fun _ _ _ _ _ => (ej_popAt (ej_var (pv 6)) (aj_cons (ej_callF (r__law_take h) (hr.mono (by decide)) (h.glo__law_take) (kp__law_take h) (aj_cons (ej_var (pv 2)) (aj_cons (ej_len h.nb (aj_cons (ej_var (pv 6)) aj_nil)) aj_nil))) aj_nil)))) (fun q => ps_set sc.nd rfl (Or.inl rfl) q))) (bj_one (sj_for (passes_of rfl) rfl (ij_e (ej_var (pv 7))) (gj_name (pg_name sc.nd rfl (Or.inl rfl))) (bj_one (sj_for (passes_of rfl) rfl (ij_e (ej_var (pv 7))) (gj_name (pg_name sc.nd rfl (Or.inl rfl))) (bj_cons (sj_asg (ej_callF (r__law_flips h) (hr.mono (by decide)) (h.glo__law_flips) (kp__law_flips h) (aj_cons (ej_var (pv 4)) (aj_cons (ej_var (pv 8)) (aj_cons (ej_var (pv 9)) aj_nil)))) (fun q => ps_set sc.nd rfl (Or.inl rfl) q)) (bj_one (sj_if (tj_w (wj_or (tj_ne hr.units (ej_repr h.nb (aj_cons (ej_meth (by decide) (dAll1 (md_of (c_Upgrade h) (me_Upgrade_flips h) (r_Upgrade_flips_Upgrade h) (hr.mono (by decide)))) (ej_var (pv 5)) (aj_cons (ej_var (pv 8)) (aj_cons (ej_var (pv 9)) aj_nil))) aj_nil)) (ej_repr h.nb (aj_cons (ej_var (pv 11)) aj_nil))) (wj_or1 (tj_ne hr.units (ej_repr h.nb (aj_cons (ej_meth (by decide) (dAll1 (md_of (c_Upgrade h) (me_Upgrade_flips h) (r_Upgrade_flips_Upgrade h) (hr.mono (by decide)))) (ej_var (pv 5)) (aj_cons (ej_var (pv 9)) (aj_cons (ej_var (pv 8)) aj_nil))) aj_nil)) (ej_repr h.nb (aj_cons (ej_var (pv 11)) aj_nil)))))) (bj_one (sj_ret ej_bl)) bj_nil))))))))))))))) (bj_one (sj_ret ej_bl)))
theorem u_law (h : Fx P w K mg base) : ∃ fd, FunD K "law" "law" (defArgs (top 43)) (defBody (top 43)) (defScope (top 43)) [] [] (He.fAd K ("law", none)) fd := h.x.sx.def_ 43 (d := d_law) rfl
theorem r_law (h : Fx P w K mg base) : FR (cmK K) P w K mg base 11 (He.fAd K ("law", none)) F_law := by
  obtain ⟨fd, F⟩ := u_law h
  exact fr_of (g_law h (fun_of F)) (F.bindsN fun _ _ _ _ _ _ us hl => match us, hl with | [_], _ => rfl)
theorem kp_law (h : Fx P w K mg base) : PySem.W.keepIn K (.ref (He.fAd K ("law", none))) = true := by obtain ⟨fd, F⟩ := u_law h; exact F.kp
end
end K23
set_option maxHeartbeats 1000000
namespace K23
open PySem PySem.Spec PyProof.Rows L2 DL
open SX (S)
abbrev dS (w : List Nat) : D := .str (S w)
def dO : Option Nat → D
  | none => .non
  | some n => .int n
@[simp] theorem dO_none : dO none = .non := rfl
@[simp] theorem dO_some {n : Nat} : dO (some n) = .int n := rfl
abbrev MRow := D × List (Option Nat)
def rowD (r : MRow) : D := .tup [r.1, .tup (r.2.map dO)]
def colD (L : List Nat) (rows : List MRow) : D := .ins 1 ["own_letters", "own_states"] [dS L, .tup (rows.map rowD)]
def lan0 (L : List Nat) (rows : List MRow) : D := .ins 2 ["own_letters", "own_states"] [dS L, .tup (rows.map rowD)]
def lanD (L : List Nat) (rows : List MRow) (tl : List D) : D := .ins 2 ["own_letters", "own_states", "tails"] [dS L, .tup (rows.map rowD), .lst tl]
def upD (od nw ln : D) : D := .ins 3 ["own_old", "own_new", "own_language"] [od, nw, ln]
structure Mach (L : List Nat) (rows : List MRow) : Prop where
  nd : L.Nodup
  l1 : 1 ≤ L.length
  l6 : L.length ≤ 6
  dot : 46 ∉ L
  r1 : 1 ≤ rows.length
  r6 : rows.length ≤ 6
  len : ∀ r ∈ rows, r.2.length = L.length
  mv : ∀ r ∈ rows, ∀ k, some k ∈ r.2 → k < rows.length
def mvP (L : List Nat) (rows : List MRow) (s c : Nat) : Option Nat := (rows[s]?).bind fun r => (r.2[L.idxOf c]?).join
def stepP (L : List Nat) (rows : List MRow) (s : Option Nat) (c : Nat) : Option Nat := s.bind fun s => mvP L rows s c
def runP (L : List Nat) (rows : List MRow) (s : Option Nat) (w : List Nat) : Option Nat := w.foldl (stepP L rows) s
def Below (n : Nat) (s : Option Nat) : Prop := ∀ k, s = some k → k < n
section
variable {L : List Nat} {rows : List MRow} {tl : List D} {od nw ln : D}
@[simp] theorem rf0 : propOf [(3, G_Upgrade_old)] (upD od nw ln) = .ok (3, G_Upgrade_old) := rfl
@[simp] theorem rf1 : G_Upgrade_old [.fro (upD od nw ln)] = .ok (.fro (od), [.fro (upD od nw ln)]) := rfl
@[simp] theorem rf2 : G_Upgrade_old [.bor (upD od nw ln)] = .ok (.fro (od), [.bor (upD od nw ln)]) := rfl
@[simp] theorem rf3 : propOf [(1, G_Machine_states)] (colD L rows) = .ok (1, G_Machine_states) := rfl
@[simp] theorem rf4 : G_Machine_states [.fro (colD L rows)] = .ok (.fro (.tup (rows.map rowD)), [.fro (colD L rows)]) := rfl
@[simp] theorem rf5 : G_Machine_states [.bor (colD L rows)] = .ok (.fro (.tup (rows.map rowD)), [.bor (colD L rows)]) := rfl
@[simp] theorem rf6 : propOf [(3, G_Upgrade_new)] (upD od nw ln) = .ok (3, G_Upgrade_new) := rfl
@[simp] theorem rf7 : G_Upgrade_new [.fro (upD od nw ln)] = .ok (.fro (nw), [.fro (upD od nw ln)]) := rfl
@[simp] theorem rf8 : G_Upgrade_new [.bor (upD od nw ln)] = .ok (.fro (nw), [.bor (upD od nw ln)]) := rfl
@[simp] theorem rf9 : propOf [(1, G_Machine_states), (2, G_Machine_states)] (colD L rows) = .ok (1, G_Machine_states) := rfl
@[simp] theorem rf10 : propOf [(1, G_Machine_states), (2, G_Machine_states)] (lan0 L rows) = .ok (2, G_Machine_states) := rfl
@[simp] theorem rf11 : G_Machine_states [.fro (lan0 L rows)] = .ok (.fro (.tup (rows.map rowD)), [.fro (lan0 L rows)]) := rfl
@[simp] theorem rf12 : G_Machine_states [.bor (lan0 L rows)] = .ok (.fro (.tup (rows.map rowD)), [.bor (lan0 L rows)]) := rfl
@[simp] theorem rf13 : propOf [(1, G_Machine_states), (2, G_Machine_states)] (lanD L rows tl) = .ok (2, G_Machine_states) := rfl
@[simp] theorem rf14 : G_Machine_states [.fro (lanD L rows tl)] = .ok (.fro (.tup (rows.map rowD)), [.fro (lanD L rows tl)]) := rfl
@[simp] theorem rf15 : G_Machine_states [.bor (lanD L rows tl)] = .ok (.fro (.tup (rows.map rowD)), [.bor (lanD L rows tl)]) := rfl
@[simp] theorem rf16 : propOf [(2, G_Machine_letters)] (lan0 L rows) = .ok (2, G_Machine_letters) := rfl
@[simp] theorem rf17 : G_Machine_letters [.fro (lan0 L rows)] = .ok (.fro (dS L), [.fro (lan0 L rows)]) := rfl
@[simp] theorem rf18 : G_Machine_letters [.bor (lan0 L rows)] = .ok (.fro (dS L), [.bor (lan0 L rows)]) := rfl
@[simp] theorem rf19 : propOf [(2, G_Machine_letters)] (lanD L rows tl) = .ok (2, G_Machine_letters) := rfl
@[simp] theorem rf20 : G_Machine_letters [.fro (lanD L rows tl)] = .ok (.fro (dS L), [.fro (lanD L rows tl)]) := rfl
@[simp] theorem rf21 : G_Machine_letters [.bor (lanD L rows tl)] = .ok (.fro (dS L), [.bor (lanD L rows tl)]) := rfl
@[simp] theorem rf22 : propOf [(1, G_Machine_letters), (2, G_Machine_letters)] (colD L rows) = .ok (1, G_Machine_letters) := rfl
@[simp] theorem rf23 : G_Machine_letters [.fro (colD L rows)] = .ok (.fro (dS L), [.fro (colD L rows)]) := rfl
@[simp] theorem rf24 : G_Machine_letters [.bor (colD L rows)] = .ok (.fro (dS L), [.bor (colD L rows)]) := rfl
@[simp] theorem rf25 : propOf [(1, G_Machine_letters), (2, G_Machine_letters)] (lan0 L rows) = .ok (2, G_Machine_letters) := rfl
@[simp] theorem rf26 : propOf [(1, G_Machine_letters), (2, G_Machine_letters)] (lanD L rows tl) = .ok (2, G_Machine_letters) := rfl
@[simp] theorem rf27 : propOf [(1, G_Machine_letters)] (colD L rows) = .ok (1, G_Machine_letters) := rfl
@[simp] theorem rf28 : propOf [(2, G_Machine_states)] (lan0 L rows) = .ok (2, G_Machine_states) := rfl
@[simp] theorem rf29 : propOf [(2, G_Machine_states)] (lanD L rows tl) = .ok (2, G_Machine_states) := rfl
@[simp] theorem rf30 : propOf [(3, G_Upgrade_language)] (upD od nw ln) = .ok (3, G_Upgrade_language) := rfl
@[simp] theorem rf31 : G_Upgrade_language [.fro (upD od nw ln)] = .ok (.fro (ln), [.fro (upD od nw ln)]) := rfl
@[simp] theorem rf32 : G_Upgrade_language [.bor (upD od nw ln)] = .ok (.fro (ln), [.bor (upD od nw ln)]) := rfl
@[simp] theorem rf33 : methOf [(1, F_Collation_is_mark), (2, F_Language_is_mark)] "is_mark" (colD L rows) = .ok (1, F_Collation_is_mark) := rfl
@[simp] theorem rf34 : methOf [(1, F_Collation_is_mark), (2, F_Language_is_mark)] "is_mark" (lan0 L rows) = .ok (2, F_Language_is_mark) := rfl
@[simp] theorem rf35 : methOf [(1, F_Collation_is_mark), (2, F_Language_is_mark)] "is_mark" (lanD L rows tl) = .ok (2, F_Language_is_mark) := rfl
@[simp] theorem rf36 : methOf [(1, F_Collation_ranks)] "ranks" (colD L rows) = .ok (1, F_Collation_ranks) := rfl
@[simp] theorem rf37 : methOf [(1, F_Machine_is_move), (2, F_Language_is_move)] "is_move" (colD L rows) = .ok (1, F_Machine_is_move) := rfl
@[simp] theorem rf38 : methOf [(1, F_Machine_is_move), (2, F_Language_is_move)] "is_move" (lan0 L rows) = .ok (2, F_Language_is_move) := rfl
@[simp] theorem rf39 : methOf [(1, F_Machine_is_move), (2, F_Language_is_move)] "is_move" (lanD L rows tl) = .ok (2, F_Language_is_move) := rfl
@[simp] theorem rf40 : methOf [(1, F_Machine_is_state), (2, F_Machine_is_state)] "is_state" (colD L rows) = .ok (1, F_Machine_is_state) := rfl
@[simp] theorem rf41 : methOf [(1, F_Machine_is_state), (2, F_Machine_is_state)] "is_state" (lan0 L rows) = .ok (2, F_Machine_is_state) := rfl
@[simp] theorem rf42 : methOf [(1, F_Machine_is_state), (2, F_Machine_is_state)] "is_state" (lanD L rows tl) = .ok (2, F_Machine_is_state) := rfl
@[simp] theorem rf43 : methOf [(1, F_Machine_move), (2, F_Machine_move)] "move" (colD L rows) = .ok (1, F_Machine_move) := rfl
@[simp] theorem rf44 : methOf [(1, F_Machine_move), (2, F_Machine_move)] "move" (lan0 L rows) = .ok (2, F_Machine_move) := rfl
@[simp] theorem rf45 : methOf [(1, F_Machine_move), (2, F_Machine_move)] "move" (lanD L rows tl) = .ok (2, F_Machine_move) := rfl
@[simp] theorem rf46 : methOf [(1, F_Machine_move)] "move" (colD L rows) = .ok (1, F_Machine_move) := rfl
@[simp] theorem rf47 : methOf [(2, F_Language_better_tail)] "better_tail" (lan0 L rows) = .ok (2, F_Language_better_tail) := rfl
@[simp] theorem rf48 : methOf [(2, F_Language_better_tail)] "better_tail" (lanD L rows tl) = .ok (2, F_Language_better_tail) := rfl
@[simp] theorem rf49 : methOf [(2, F_Language_has)] "has" (lan0 L rows) = .ok (2, F_Language_has) := rfl
@[simp] theorem rf50 : methOf [(2, F_Language_has)] "has" (lanD L rows tl) = .ok (2, F_Language_has) := rfl
@[simp] theorem rf51 : methOf [(2, F_Language_is_live)] "is_live" (lan0 L rows) = .ok (2, F_Language_is_live) := rfl
@[simp] theorem rf52 : methOf [(2, F_Language_is_live)] "is_live" (lanD L rows tl) = .ok (2, F_Language_is_live) := rfl
@[simp] theorem rf53 : methOf [(2, F_Language_options_at)] "options_at" (lan0 L rows) = .ok (2, F_Language_options_at) := rfl
@[simp] theorem rf54 : methOf [(2, F_Language_options_at)] "options_at" (lanD L rows tl) = .ok (2, F_Language_options_at) := rfl
@[simp] theorem rf55 : methOf [(2, F_Language_shortest_tails)] "shortest_tails" (lan0 L rows) = .ok (2, F_Language_shortest_tails) := rfl
@[simp] theorem rf56 : methOf [(2, F_Language_shortest_tails)] "shortest_tails" (lanD L rows tl) = .ok (2, F_Language_shortest_tails) := rfl
@[simp] theorem rf57 : methOf [(2, F_Machine_move)] "move" (lan0 L rows) = .ok (2, F_Machine_move) := rfl
@[simp] theorem rf58 : methOf [(2, F_Machine_move)] "move" (lanD L rows tl) = .ok (2, F_Machine_move) := rfl
@[simp] theorem rf59 : methOf [(2, F_Machine_need_text)] "need_text" (lan0 L rows) = .ok (2, F_Machine_need_text) := rfl
@[simp] theorem rf60 : methOf [(2, F_Machine_need_text)] "need_text" (lanD L rows tl) = .ok (2, F_Machine_need_text) := rfl
@[simp] theorem rf61 : methOf [(2, F_Machine_state_behind)] "state_behind" (lan0 L rows) = .ok (2, F_Machine_state_behind) := rfl
@[simp] theorem rf62 : methOf [(2, F_Machine_state_behind)] "state_behind" (lanD L rows tl) = .ok (2, F_Machine_state_behind) := rfl
@[simp] theorem rf63 : methOf [(3, F_Upgrade_are_flipped)] "are_flipped" (upD od nw ln) = .ok (3, F_Upgrade_are_flipped) := rfl
@[simp] theorem rf64 : methOf [(3, F_Upgrade_flips)] "flips" (upD od nw ln) = .ok (3, F_Upgrade_flips) := rfl
@[simp] theorem rf65 : methOf [(3, F_Upgrade_need_text)] "need_text" (upD od nw ln) = .ok (3, F_Upgrade_need_text) := rfl
@[simp] theorem rf66 : ∃ p, insOf [1] (colD L rows) = .ok p := ⟨_, rfl⟩
@[simp] theorem rf67 : ∃ p, insOf [2] (lan0 L rows) = .ok p := ⟨_, rfl⟩
@[simp] theorem rf68 : ∃ p, insOf [2] (lanD L rows tl) = .ok p := ⟨_, rfl⟩
theorem mv_at (M : Mach L rows) {s c : Nat} (hs : s < rows.length) (hc : c ∈ L) : ∃ r, rows[s]? = some r ∧ r.2[L.idxOf c]? = some (mvP L rows s c) := by
  refine ⟨rows[s], List.getElem?_eq_getElem hs, ?_⟩
  have h1 : L.idxOf c < rows[s].2.length := by rw [M.len _ (List.getElem_mem hs)]; exact List.idxOf_lt_length_iff.mpr hc
  unfold mvP
  rw [List.getElem?_eq_getElem hs]
  simp [List.getElem?_eq_getElem h1]
theorem mv_below (M : Mach L rows) {s c : Nat} : Below rows.length (mvP L rows s c) := fun k hk => by
  unfold mvP at hk
  cases h : rows[s]? with
  | none => rw [h] at hk; cases hk
  | some r =>
    rw [h] at hk
    simp at hk
    have hk : r.2[L.idxOf c]? = some (some k) := by
      cases q : r.2[L.idxOf c]? with
      | none => rw [q] at hk; cases hk
      | some z => rw [q] at hk; simp at hk; rw [hk]
    exact M.mv r (List.mem_of_getElem? h) k (List.mem_of_getElem? hk)
theorem step_below (M : Mach L rows) {s : Option Nat} {c : Nat} : Below rows.length (stepP L rows s c) := fun k hk => by
  cases s with
  | none => cases hk
  | some s => exact mv_below M k hk
theorem run_below (M : Mach L rows) : ∀ {w : List Nat} {s : Option Nat}, Below rows.length s → Below rows.length (runP L rows s w)
  | [], s, h => h
  | c :: w, s, h => run_below M (w := w) (step_below M)
/-- a machine's object -/
inductive IsM (L : List Nat) (rows : List MRow) : D → Prop
  | col : IsM L rows (colD L rows)
  | lan0 : IsM L rows (lan0 L rows)
  | lan (tl : List D) : IsM L rows (lanD L rows tl)
inductive SlM (d : D) : Sl → Prop
  | fro : SlM d (.fro d)
  | bor : SlM d (.bor d)
theorem move_ok (M : Mach L rows) {d : D} (hd : IsM L rows d) {s0 : Sl} (h0 : SlM d s0) {s : Option Nat} {c : Nat} (hs : Below rows.length s) (hc : c ∈ L) :
   F_Machine_move [s0, .fro (dO s), .fro (dS [c])] = .ok (.fro (dO (stepP L rows s c)), [s0, .fro (dO s), .fro (dS [c])]) := by
  cases s with
  | none => cases hd <;> cases h0 <;> simp [F_Machine_move, m_Machine_move, stepP]
  | some s =>
    obtain ⟨r, hr, hk⟩ := mv_at M (hs s rfl) hc
    have a1 : ixD (.tup (rows.map rowD)) (.int (s : Nat)) = .ok (.fro (rowD r)) := ixD_tn (by rw [List.getElem?_map, hr]; rfl)
    have a2 : ixD (.tup (r.2.map dO)) (.int (L.idxOf c : Nat)) = .ok (.fro (dO (mvP L rows s c))) := ixD_tn (by rw [List.getElem?_map, hk]; rfl)
    cases hd <;> cases h0 <;> simp [F_Machine_move, m_Machine_move, stepP, a1, rowD, findD_one hc, a2]
theorem behind_loop (M : Mach L rows) {d : D} (hd : IsM L rows d) {w0 : List Nat} : ∀ {w : List Nat} {s : Option Nat} {z : Sl}, (∀ c ∈ w, c ∈ L) → Below rows.length s → (z = .no ∨ ∃ y, z = .fro y) →
    ∃ z', forGo (gN 3) L1_Machine_state_behind (w.map fun c => .str (S [c])) [.fro d, .fro (dS w0), .fro (dO s), z] = .nx [.fro d, .fro (dS w0), .fro (dO (runP L rows s w)), z']
  | [], s, z, _, _, _ => ⟨z, rfl⟩
  | c :: w, s, z, hw, hs, hz => by
    have mo := move_ok M hd (.fro) hs (hw c (List.mem_cons_self ..))
    obtain ⟨z', e⟩ := behind_loop M hd (w0 := w0) (w := w) (s := stepP L rows s c) (z := .fro (dS [c])) (fun x hx => hw x (List.mem_cons_of_mem _ hx)) (step_below M) (.inr ⟨_, rfl⟩)
    refine ⟨z', ?_⟩
    rw [List.map_cons, forGo_turn (ds' := [.fro d, .fro (dS w0), .fro (dO (stepP L rows s c)), .fro (dS [c])])]
    · exact e
    · rcases hz with rfl | ⟨y, rfl⟩ <;> cases hd <;> simp [forT, L1_Machine_state_behind, mo]
theorem behind_ok (M : Mach L rows) {d : D} (hd : IsM L rows d) {w : List Nat} (hw : ∀ c ∈ w, c ∈ L) :
    F_Machine_state_behind [.fro d, .fro (dS w)] = .ok (.fro (dO (runP L rows (some 0) w)), [.fro d, .fro (dS w)]) := by
  obtain ⟨z', e⟩ := behind_loop M hd (w0 := w) (w := w) (s := some 0) (z := .no) hw (fun k hk => by cases hk; exact M.r1) (.inl rfl)
  simp [F_Machine_state_behind, m_Machine_state_behind]
  have e' : forGo (gN 3) L1_Machine_state_behind (w.map fun c => .str (S [c])) [.fro d, .fro (dS w), .fro (.int 0), .no] = .nx [.fro d, .fro (dS w), .fro (dO (runP L rows (some 0) w)), z'] := e
  rw [e']
  simp
end
/-- a slot that may be stored into -/
def FreeS (z : Sl) : Prop := ∀ r, free (z :: r) 0 = true
theorem FreeS.no : FreeS .no := fun _ => rfl
theorem FreeS.fro {d : D} : FreeS (.fro d) := fun _ => rfl
theorem FreeS.own {d : D} : FreeS (.own d) := fun _ => rfl
abbrev ORow := List Nat × List (Option Nat)
def oRows (cr : List ORow) : List MRow := cr.map fun r => (dS r.1, r.2)
@[simp] theorem oRows_len {cr : List ORow} : (oRows cr).length = cr.length := by simp [oRows]
structure Ord (L : List Nat) (cr : List ORow) : Prop where
  m : Mach L (oRows cr)
  pm : ∀ r ∈ cr, r.1.Perm (L ++ [46])
  al : ∀ r ∈ cr, ∀ k ∈ r.2, k ≠ none
def rkP (cr : List ORow) (s : Nat) : List Nat := ((cr[s]?).map (·.1)).getD []
def ranksB (L : List Nat) (cr : List ORow) : Nat → List Nat → List Nat
  | _, [] => []
  | s, c :: w => (rkP cr s).idxOf c :: ranksB L cr ((mvP L (oRows cr) s c).getD 0) w
def runN (L : List Nat) (cr : List ORow) : Nat → List Nat → Nat
  | s, [] => s
  | s, c :: w => runN L cr ((mvP L (oRows cr) s c).getD 0) w
def ranksP (L : List Nat) (cr : List ORow) (s : Nat) (w : List Nat) : List Nat := ranksB L cr s w ++ [(rkP cr (runN L cr s w)).idxOf 46]
section
variable {L : List Nat} {cr : List ORow}
theorem rk_at (O : Ord L cr) {s : Nat} (hs : s < cr.length) : ∃ r, cr[s]? = some r ∧ rkP cr s = r.1 ∧ r.1.Perm (L ++ [46]) ∧ (oRows cr)[s]? = some (dS r.1, r.2) := by
  refine ⟨cr[s], List.getElem?_eq_getElem hs, ?_, O.pm _ (List.getElem_mem hs), ?_⟩
  · unfold rkP; rw [List.getElem?_eq_getElem hs]; rfl
  · unfold oRows; rw [List.getElem?_map, List.getElem?_eq_getElem hs]; rfl
theorem mv_some (O : Ord L cr) {s c : Nat} (hs : s < cr.length) (hc : c ∈ L) : ∃ k, mvP L (oRows cr) s c = some k ∧ k < cr.length := by
  obtain ⟨r, h1, h2⟩ := mv_at O.m (s := s) (by simpa using hs) hc
  cases q : mvP L (oRows cr) s c with
  | none =>
    rw [q] at h2
    obtain ⟨r', e1, e2⟩ := List.mem_map.mp (List.mem_of_getElem? h1)
    subst e2
    exact absurd rfl (O.al r' e1 none (List.mem_of_getElem? h2))
  | some k => exact ⟨k, rfl, by simpa using mv_below O.m k q⟩
theorem dotS : (Str.ofString ".") = S [46] := by decide
theorem ranks_turn (O : Ord L cr) {t : D} {s c : Nat} {acc : List D} {z2 z5 z6 : Sl} (hs : s < cr.length) (hc : c ∈ L) (h2 : FreeS z2) (h5 : FreeS z5) (h6 : FreeS z6) (hl : acc.length ≤ cap) :
    ∃ z5' z6', FreeS z5' ∧ FreeS z6' ∧ forT (gN 2) L1_Collation_ranks (.str (S [c])) [.fro (colD L (oRows cr)), .fro t, z2, .own (.lst acc), .fro (.int s), z5, z6] =
      .nx [.fro (colD L (oRows cr)), .fro t, .fro (dS [c]), .own (.lst (acc ++ [.int ((rkP cr s).idxOf c : Nat)])), .fro (.int ((mvP L (oRows cr) s c).getD 0 : Nat)), z5', z6'] := by
  obtain ⟨r, hr, hk, hp, hr2⟩ := rk_at O hs
  obtain ⟨k, hm, hk2⟩ := mv_some O hs hc
  have a1 : ixD (.tup ((oRows cr).map rowD)) (.int (s : Nat)) = .ok (.fro (rowD (dS r.1, r.2))) := ixD_tn (by rw [List.getElem?_map, hr2]; rfl)
  have mo := move_ok O.m .col (.fro) (s := some s) (c := c) (fun k hk => by cases hk; simpa using hs) hc
  have i1 := indexD_one (L := r.1) (c := c) (hp.mem_iff.mpr (List.mem_append_left _ hc))
  have ne : ¬ (S [c] = S [46]) := fun e => O.m.dot (by have := SX.S_inj e; simp at this; rw [← this]; exact hc)
  refine ⟨.fro (dS r.1), .fro (.tup (r.2.map dO)), FreeS.fro, FreeS.fro, ?_⟩
  simp only [dO_some] at mo
  simp [forT, L1_Collation_ranks, h2 _, h5 _, h6 _, a1, rowD, i1, hl, dotS, ne, mo, stepP, hm, hk]
theorem ranks_last (O : Ord L cr) {t : D} {s : Nat} {acc : List D} {z2 z5 z6 : Sl} (hs : s < cr.length) (h2 : FreeS z2) (h5 : FreeS z5) (h6 : FreeS z6) (hl : acc.length ≤ cap) :
    ∃ z5' z6', FreeS z5' ∧ FreeS z6' ∧ forT (gN 2) L1_Collation_ranks (.str (S [46])) [.fro (colD L (oRows cr)), .fro t, z2, .own (.lst acc), .fro (.int s), z5, z6] =
      .nx [.fro (colD L (oRows cr)), .fro t, .fro (dS [46]), .own (.lst (acc ++ [.int ((rkP cr s).idxOf 46 : Nat)])), .fro (.int s), z5', z6'] := by
  obtain ⟨r, hr, hk, hp, hr2⟩ := rk_at O hs
  have a1 : ixD (.tup ((oRows cr).map rowD)) (.int (s : Nat)) = .ok (.fro (rowD (dS r.1, r.2))) := ixD_tn (by rw [List.getElem?_map, hr2]; rfl)
  have i1 := indexD_one (L := r.1) (c := 46) (hp.mem_iff.mpr (by simp))
  refine ⟨.fro (dS r.1), .fro (.tup (r.2.map dO)), FreeS.fro, FreeS.fro, ?_⟩
  simp [forT, L1_Collation_ranks, h2 _, h5 _, h6 _, a1, rowD, i1, hl, dotS, hk]
theorem ranks_loop (O : Ord L cr) {t : D} : ∀ {w : List Nat} {s : Nat} {acc : List D} {z2 z5 z6 : Sl}, s < cr.length → (∀ c ∈ w, c ∈ L) → FreeS z2 → FreeS z5 → FreeS z6 → acc.length + w.length ≤ cap →
    ∃ z2' z5' z6', forGo (gN 2) L1_Collation_ranks ((w ++ [46]).map fun c => .str (S [c])) [.fro (colD L (oRows cr)), .fro t, z2, .own (.lst acc), .fro (.int s), z5, z6] =
      .nx [.fro (colD L (oRows cr)), .fro t, z2', .own (.lst (acc ++ (ranksP L cr s w).map fun (k : Nat) => D.int k)), .fro (.int (runN L cr s w)), z5', z6']
  | [], s, acc, z2, z5, z6, hs, _, h2, h5, h6, hl => by
    obtain ⟨z5', z6', _, _, e⟩ := ranks_last O (t := t) (acc := acc) hs h2 h5 h6 (by simpa using hl)
    refine ⟨.fro (dS [46]), z5', z6', ?_⟩
    rw [List.nil_append, List.map_cons, forGo_turn e]
    rfl
  | c :: w, s, acc, z2, z5, z6, hs, hw, h2, h5, h6, hl => by
    have hl' : acc.length + (w.length + 1) ≤ cap := hl
    obtain ⟨z5', z6', f5, f6, e⟩ := ranks_turn O (t := t) (acc := acc) hs (hw c (List.mem_cons_self ..)) h2 h5 h6 (by omega)
    obtain ⟨k, hm, hk2⟩ := mv_some O hs (hw c (List.mem_cons_self ..))
    obtain ⟨y2, y5, y6, e2⟩ := ranks_loop O (t := t) (w := w) (s := (mvP L (oRows cr) s c).getD 0) (acc := acc ++ [.int ((rkP cr s).idxOf c : Nat)]) (by rw [hm]; exact hk2) (fun x hx => hw x (List.mem_cons_of_mem _ hx)) (FreeS.fro (d := dS [c])) f5 f6 (by simp; omega)
    refine ⟨y2, y5, y6, ?_⟩
    rw [List.cons_append, List.map_cons, forGo_turn e, e2]
    simp [ranksP, ranksB, runN]
theorem ranks_ok (O : Ord L cr) {w : List Nat} (hw : ∀ c ∈ w, c ∈ L) (hl : w.length ≤ 1000) :
    F_Collation_ranks [.fro (colD L (oRows cr)), .fro (dS w)] = .ok (.fro (.tup ((ranksP L cr 0 w).map fun (k : Nat) => D.int k)), [.fro (colD L (oRows cr)), .fro (dS w)]) := by
  obtain ⟨z2, z5, z6, e⟩ := ranks_loop O (t := dS w) (w := w) (s := 0) (acc := []) (z2 := .no) (z5 := .no) (z6 := .no) (by have := O.m.r1; rw [oRows_len] at this; omega) hw FreeS.no FreeS.no FreeS.no (by show 0 + w.length ≤ 1000000; omega)
  simp at e
  have c1 : w.length + 1 ≤ cap := by show _ ≤ 1000000; omega
  have a1 : addD (dS w) (.str (S [46])) = .ok (.fro (dS (w ++ [46]))) := addD_S (by simpa using c1)
  simp [F_Collation_ranks, m_Collation_ranks, cap, dotS, a1, e]
end
section
variable {L : List Nat} {rows : List MRow}
theorem is_text_ok {w : List Nat} (hw : ∀ c ∈ w, c ∈ L) (hl : w.length ≤ 400) : F_is_text [.fro (dS w), .fro (dS L)] = .ok (.fro (.bl true), [.fro (dS w), .fro (dS L)]) := by
  have e := lc_maps (vs := [2]) (g := gN 2) (t := tTrue) (elt := E1_is_text) (h := fun c => .str (S [c])) (f := fun c => D.bl (decide (c ∈ L))) (ds := [.fro (dS w), .fro (dS L), .no]) (xs := w) (fun c _ => by
    simp [lcTurn, E1_is_text, inR_one]) (by show w.length ≤ 1000000; omega)
  simp [F_is_text, m_is_text, e]
  exact hw
theorem passed_ok {w : List Nat} (hw : ∀ c ∈ w, c ∈ L) (hl : w.length ≤ 400) : F_may_be_passed [.fro (dS w), .fro (dS L)] = .ok (.fro (.bl true), [.fro (dS w), .fro (dS L)]) := by
  have c1 : w.length ≤ cap := by show w.length ≤ 1000000; omega
  simp [F_may_be_passed, m_may_be_passed, is_text_ok hw hl, c1]
  omega
theorem need_ok {d : D} (hd : IsM L rows d) {w : List Nat} (hw : ∀ c ∈ w, c ∈ L) (hl : w.length ≤ 400) : F_Machine_need_text [.fro d, .fro (dS w)] = .ok (.fro .non, [.fro d, .fro (dS w)]) := by
  cases hd <;> simp [F_Machine_need_text, m_Machine_need_text, passed_ok hw hl]
end
abbrev LRow := Bool × List (Option Nat)
def lRows (lr : List LRow) : List MRow := lr.map fun r => (.bl r.1, r.2)
@[simp] theorem lRows_len {lr : List LRow} : (lRows lr).length = lr.length := by simp [lRows]
def tD : Option (List Nat) → D
  | none => .non
  | some w => dS w
@[simp] theorem tD_none : tD none = .non := rfl
@[simp] theorem tD_some {w : List Nat} : tD (some w) = dS w := rfl
def liveP (tls : List (Option (List Nat))) (s : Option Nat) : Bool := s.any fun s => (tls[s]?).any (·.isSome)
def accP (lr : List LRow) (s : Nat) : Bool := (lr[s]?).any (·.1)
abbrev lanT (L : List Nat) (lr : List LRow) (tls : List (Option (List Nat))) : D := lanD L (lRows lr) (tls.map tD)
theorem emptyS : (Str.ofString "") = S [] := by decide
theorem joinL_nil : ∀ l : List Nat, TL.joinL [] (l.map fun c => [c]) = l
  | [] => rfl
  | [c] => rfl
  | c :: d :: l => by
    have := joinL_nil (d :: l)
    simp [TL.joinL] at this ⊢
    exact this
theorem join_signs (l : List Nat) (hl : l.length ≤ cap) : joinD (S []) (.lst (l.map fun c => .str (S [c]))) = .ok (.fro (dS l)) := by
  show (match strsOf (l.map fun c => .str (S [c])) with | some ys => joinS (S []) ys | none => .stuck) = _
  rw [strsOf_map]
  show joinS (S []) (l.map fun c => S [c]) = _
  unfold joinS
  have e : (l.map fun c => S [c]) = (l.map fun c => [c]).map S := by simp
  rw [if_pos, e, SX.join_S, joinL_nil]
  have : ((l.map fun c => S [c]).map (·.length)).sum = l.length := by
    simp only [List.map_map]
    induction l with
    | nil => rfl
    | cons c l ih =>
      rw [List.map_cons, List.sum_cons, ih (by have : (l.length + 1) ≤ cap := hl; omega) (by simp)]
      show (S [c]).length + _ = _
      rw [SX.S_len]; simp; omega
  rw [this, SX.S_len]
  simpa using hl
theorem filterMap_if {ι κ : Type} {p : ι → Bool} {f : ι → κ} : ∀ l : List ι, (l.filterMap fun c => if p c then some (f c) else none) = (l.filter p).map f
  | [] => rfl
  | c :: l => by
    have ih := filterMap_if (p := p) (f := f) l
    cases q : p c <;> simp [q, ih]
section
variable {L : List Nat} {lr : List LRow} {tls : List (Option (List Nat))}
structure Lan (L : List Nat) (lr : List LRow) (tls : List (Option (List Nat))) : Prop where
  m : Mach L (lRows lr)
  tl : tls.length = lr.length
@[simp] theorem insOf_lanD {rows : List MRow} {tl : List D} : insOf [2] (lanD L rows tl) = .ok (["own_letters", "own_states", "tails"], [dS L, .tup (rows.map rowD), .lst tl]) := rfl
@[simp] theorem fldD_tails {a b c : D} : fldD ["own_letters", "own_states", "tails"] [a, b, c] "tails" = .ok c := rfl
theorem live_ok (N : Lan L lr tls) {s : Option Nat} (hs : Below lr.length s) : F_Language_is_live [.fro (lanT L lr tls), .fro (dO s)] = .ok (.fro (.bl (liveP tls s)), [.fro (lanT L lr tls), .fro (dO s)]) := by
  cases s with
  | none => simp [F_Language_is_live, m_Language_is_live, liveP]
  | some s =>
    have h1 : s < tls.length := by rw [N.tl]; exact hs s rfl
    have a1 : ixD (.lst (tls.map tD)) (.int (s : Nat)) = .ok (.fro (tD tls[s])) := ixD_ln (by rw [List.getElem?_map, List.getElem?_eq_getElem h1]; rfl)
    cases q : tls[s] with
    | none => rw [q] at a1; simp [F_Language_is_live, m_Language_is_live, liveP, a1, h1, q]
    | some w => rw [q] at a1; simp [F_Language_is_live, m_Language_is_live, liveP, a1, h1, q]
def optP (L : List Nat) (lr : List LRow) (tls : List (Option (List Nat))) (s : Option Nat) : List Nat :=
  if liveP tls s then (if (s.any (accP lr)) then [46] else []) ++ L.filter fun c => liveP tls (stepP L (lRows lr) s c) else []
theorem options_ok (N : Lan L lr tls) {s : Option Nat} (hs : Below lr.length s) : F_Language_options_at [.fro (lanT L lr tls), .fro (dO s)] = .ok (.fro (dS (optP L lr tls s)), [.fro (lanT L lr tls), .fro (dO s)]) := by
  by_cases hl : liveP tls s = true
  · cases s with
    | none => cases hl
    | some s =>
      have lv := live_ok N hs
      rw [hl] at lv
      simp only [dO_some] at lv
      have h1 : s < lr.length := hs s rfl
      have a1 : ixD (.tup ((lRows lr).map rowD)) (.int (s : Nat)) = .ok (.fro (rowD (.bl lr[s].1, lr[s].2))) := ixD_tn (by rw [List.getElem?_map, lRows, List.getElem?_map, List.getElem?_eq_getElem h1]; rfl)
      have ha : accP lr s = lr[s].1 := by unfold accP; rw [List.getElem?_eq_getElem h1]; rfl
      have e : ∀ z : D, lcGo [3] (gN 3) T1_Language_options_at E1_Language_options_at (L.map fun c => .str (S [c])) [.fro (lanT L lr tls), .fro (.int s), .fro z, .no] [] = .ok (L.filterMap fun c => if liveP tls (stepP L (lRows lr) (some s) c) then some (.str (S [c])) else none, [.fro (lanT L lr tls), .fro (.int s), .fro z, .no]) := fun z =>
        lc_filt (fun c hc => by
          have mo := move_ok N.m (.lan (tls.map tD)) (.fro) (s := some s) (c := c) (by simpa using hs) hc
          have lv2 := live_ok N (s := stepP L (lRows lr) (some s) c) (by simpa using step_below N.m (s := some s) (c := c))
          simp only [dO_some] at mo
          cases q : liveP tls (stepP L (lRows lr) (some s) c) with
          | true => rw [q] at lv2; simp [lcTurn, T1_Language_options_at, E1_Language_options_at, mo, lv2]
          | false => rw [q] at lv2; simp [lcTurn, T1_Language_options_at, E1_Language_options_at, mo, lv2]) (by have := N.m.l6; show L.length ≤ 1000000; omega)
      have e2 : (L.filterMap fun c => if liveP tls (stepP L (lRows lr) (some s) c) then some (D.str (S [c])) else none) = (L.filter fun c => liveP tls (stepP L (lRows lr) (some s) c)).map fun c => D.str (S [c]) := filterMap_if L
      have jl : (L.filter fun c => liveP tls (stepP L (lRows lr) (some s) c)).length ≤ 6 := Nat.le_trans (List.length_filter_le _ _) N.m.l6
      have j1 := join_signs (L.filter fun c => liveP tls (stepP L (lRows lr) (some s) c)) (by show _ ≤ 1000000; omega)
      rw [e2] at e
      have ad : ∀ b : List Nat, b.length ≤ 1 → addD (dS b) (dS (L.filter fun c => liveP tls (stepP L (lRows lr) (some s) c))) = .ok (.fro (dS (b ++ L.filter fun c => liveP tls (stepP L (lRows lr) (some s) c)))) := fun b hb => addD_S (by show _ ≤ 1000000; omega)
      have ad1 := ad [46] (by decide)
      have ad0 := ad [] (by decide)
      cases q : lr[s].1 with
      | true =>
        rw [q] at a1
        simp [F_Language_options_at, m_Language_options_at, lv, a1, rowD, dotS, emptyS, e, j1, ad1, ad0, optP, hl, ha, q]
      | false =>
        rw [q] at a1
        simp [F_Language_options_at, m_Language_options_at, lv, a1, rowD, dotS, emptyS, e, j1, ad1, ad0, optP, hl, ha, q]
  · have lv := live_ok N hs
    have hl : liveP tls s = false := by simpa using hl
    rw [hl] at lv
    simp [F_Language_options_at, m_Language_options_at, lv, optP, hl, emptyS]
def hasP (L : List Nat) (lr : List LRow) (tls : List (Option (List Nat))) (w : List Nat) : Bool := decide (46 ∈ optP L lr tls (runP L (lRows lr) (some 0) w))
theorem has_ok (N : Lan L lr tls) {w : List Nat} (hw : ∀ c ∈ w, c ∈ L) : F_Language_has [.fro (lanT L lr tls), .fro (dS w)] = .ok (.fro (.bl (hasP L lr tls w)), [.fro (lanT L lr tls), .fro (dS w)]) := by
  have b := behind_ok N.m (.lan (tls.map tD)) hw
  have o := options_ok N (s := runP L (lRows lr) (some 0) w) (by simpa using run_below N.m (w := w) (s := some 0) (fun k hk => by cases hk; have := N.m.r1; omega))
  simp [F_Language_has, m_Language_has, b, o, dotS, inR_one, hasP]
theorem needU_ok {od nw : D} (N : Lan L lr tls) {s0 : Sl} (h0 : SlM (upD od nw (lanT L lr tls)) s0) {w : List Nat} (hw : ∀ c ∈ w, c ∈ L) (hl : w.length ≤ 400) (hh : hasP L lr tls w = true) : F_Upgrade_need_text [s0, .fro (dS w)] = .ok (.fro .non, [s0, .fro (dS w)]) := by
  have n := need_ok (.lan (tls.map tD) : IsM L (lRows lr) _) hw hl
  have h := has_ok N hw
  rw [hh] at h
  cases h0 <;> simp [F_Upgrade_need_text, m_Upgrade_need_text, n, h]
end
def natsP (l : List Nat) : List PyData := (l.map fun (k : Nat) => (k : Int)).map PyData.int
theorem toPys_nats : ∀ l : List Nat, toPys (l.map fun (k : Nat) => D.int k) = some (natsP l)
  | [] => rfl
  | k :: l => by
    show (match toPy (D.int k), toPys (l.map fun (k : Nat) => D.int k) with | some p, some ps => some (p :: ps) | _, _ => none) = _
    rw [toPys_nats l]; rfl
theorem alike_nats : ∀ l m : List Nat, PySem.W.alikeAll (natsP l) (natsP m) = true
  | [], [] => by simp [natsP, PySem.W.alikeAll]
  | [], b :: m => by simp [natsP, PySem.W.alikeAll]
  | a :: l, [] => by simp [natsP, PySem.W.alikeAll]
  | a :: l, b :: m => by
    have := alike_nats l m
    simp [natsP, PySem.W.alikeAll, PySem.W.alike] at this ⊢
    exact this
theorem depth_nats : ∀ l : List Nat, PyData.depthAll (natsP l) = 0
  | [] => by simp [natsP, PyData.depthAll]
  | a :: l => by
    have := depth_nats l
    simp [natsP, PyData.depthAll, PyData.depth] at this ⊢
    exact this
/-- a < b of lists of numbers -/
def ltN (l m : List Nat) : Bool := decide ((l.map fun (k : Nat) => (k : Int)) < m.map fun (k : Nat) => (k : Int))
theorem ltR_tups (l m : List Nat) : ltR (.tup (l.map fun (k : Nat) => D.int k)) (.tup (m.map fun (k : Nat) => D.int k)) = .ok (.fro (.bl (ltN l m))) := by
  have h1 : toPy (.tup (l.map fun (k : Nat) => D.int k)) = some (.tuple (natsP l)) := by show (toPys _).map PyData.tuple = _; rw [toPys_nats]; rfl
  have h2 : toPy (.tup (m.map fun (k : Nat) => D.int k)) = some (.tuple (natsP m)) := by show (toPys _).map PyData.tuple = _; rw [toPys_nats]; rfl
  have e : ∀ gi gs g, ordG gi gs g (.tup (l.map fun (k : Nat) => D.int k)) (.tup (m.map fun (k : Nat) => D.int k)) = (match toPy (.tup (l.map fun (k : Nat) => D.int k)), toPy (.tup (m.map fun (k : Nat) => D.int k)) with
    | some p, some q => if PySem.W.alike p q && decide (p.depth ≤ 60) && !isNonP p then .ok (g p q) else .stuck
    | _, _ => .stuck) := fun _ _ _ => rfl
  unfold ltR ordR
  rw [e, h1, h2]
  have h3 : PySem.W.alike (.tuple (natsP l)) (.tuple (natsP m)) = true := by simp only [PySem.W.alike]; exact alike_nats l m
  have h4 : (PyData.tuple (natsP l)).depth ≤ 60 := by simp only [PyData.depth]; rw [depth_nats]; decide
  dsimp only
  rw [if_pos (by rw [h3, decide_eq_true h4]; rfl)]
  show R.ok _ = _
  rw [PySem.W.dataLt_tuple]
  exact congrArg (fun b => R.ok (Rv.fro (D.bl b))) (PySem.W.dataLt_ints _ _)
theorem ltR_lsts (l m : List Nat) : ltR (.lst (l.map fun (k : Nat) => D.int k)) (.lst (m.map fun (k : Nat) => D.int k)) = .ok (.fro (.bl (ltN l m))) := by
  have h1 : toPy (.lst (l.map fun (k : Nat) => D.int k)) = some (.list (natsP l)) := by show (toPys _).map PyData.list = _; rw [toPys_nats]; rfl
  have h2 : toPy (.lst (m.map fun (k : Nat) => D.int k)) = some (.list (natsP m)) := by show (toPys _).map PyData.list = _; rw [toPys_nats]; rfl
  have e : ∀ gi gs g, ordG gi gs g (.lst (l.map fun (k : Nat) => D.int k)) (.lst (m.map fun (k : Nat) => D.int k)) = (match toPy (.lst (l.map fun (k : Nat) => D.int k)), toPy (.lst (m.map fun (k : Nat) => D.int k)) with
    | some p, some q => if PySem.W.alike p q && decide (p.depth ≤ 60) && !isNonP p then .ok (g p q) else .stuck
    | _, _ => .stuck) := fun _ _ _ => rfl
  unfold ltR ordR
  rw [e, h1, h2]
  have h3 : PySem.W.alike (.list (natsP l)) (.list (natsP m)) = true := by simp only [PySem.W.alike]; exact alike_nats l m
  have h4 : (PyData.list (natsP l)).depth ≤ 60 := by simp only [PyData.depth]; rw [depth_nats]; decide
  dsimp only
  rw [if_pos (by rw [h3, decide_eq_true h4]; rfl)]
  show R.ok _ = _
  rw [PySem.W.dataLt_list]
  exact congrArg (fun b => R.ok (Rv.fro (D.bl b))) (PySem.W.dataLt_ints _ _)
theorem ltN_self (l : List Nat) : ltN l l = false := by
  unfold ltN
  exact decide_eq_false (List.lt_irrefl _)
theorem ltN_anti {l m : List Nat} (h : l ≠ m) : ltN m l = !ltN l m := by
  unfold ltN
  have inj : ∀ {a b : List Nat}, (a.map fun (k : Nat) => (k : Int)) = (b.map fun (k : Nat) => (k : Int)) → a = b := by
    intro a
    induction a with
    | nil => intro b hb; cases b with
      | nil => rfl
      | cons _ _ => cases hb
    | cons x a ih => intro b hb; cases b with
      | nil => cases hb
      | cons y b => simp at hb; rw [Int.ofNat.inj hb.1, ih (by simpa using hb.2)]
  by_cases h1 : (l.map fun (k : Nat) => (k : Int)) < m.map fun (k : Nat) => (k : Int)
  · rw [decide_eq_true h1, decide_eq_false (List.lt_asymm h1)]; rfl
  · have h2 : (m.map fun (k : Nat) => (k : Int)) < l.map fun (k : Nat) => (k : Int) := by
      rcases List.le_iff_lt_or_eq.mp (List.not_lt.mp h1) with z | z
      · exact z
      · exact absurd (inj z).symm h
    rw [decide_eq_false h1, decide_eq_true h2]; rfl
section
variable {L : List Nat} {cr : List ORow}
/-- ranks tell texts apart -/
theorem idx_inj {r : List Nat} {a b : Nat} (ha : a ∈ r) (hb : b ∈ r) (h : r.idxOf a = r.idxOf b) : a = b := by
  have h1 := List.getElem_idxOf (List.idxOf_lt_length_iff.mpr ha)
  have h2 := List.getElem_idxOf (List.idxOf_lt_length_iff.mpr hb)
  rw [← h1, ← h2]
  simp [h]
theorem ranksP_nil {s : Nat} : ranksP L cr s [] = [(rkP cr s).idxOf 46] := rfl
theorem ranksP_cons {s c : Nat} {w : List Nat} : ranksP L cr s (c :: w) = (rkP cr s).idxOf c :: ranksP L cr ((mvP L (oRows cr) s c).getD 0) w := rfl
theorem ranks_inj (O : Ord L cr) : ∀ {w v : List Nat} {s : Nat}, s < cr.length → (∀ c ∈ w, c ∈ L) → (∀ c ∈ v, c ∈ L) → ranksP L cr s w = ranksP L cr s v → w = v
  | [], [], s, _, _, _, _ => rfl
  | [], d :: v, s, hs, _, hv, h => by
    obtain ⟨r, _, hk, hp, _⟩ := rk_at O hs
    rw [ranksP_nil, ranksP_cons, hk] at h
    have h := (List.cons.inj h).1
    have := idx_inj (hp.mem_iff.mpr (by simp)) (hp.mem_iff.mpr (List.mem_append_left _ (hv d (List.mem_cons_self ..)))) h
    subst this
    exact absurd (hv _ (List.mem_cons_self ..)) O.m.dot
  | c :: w, [], s, hs, hw, _, h => by
    obtain ⟨r, _, hk, hp, _⟩ := rk_at O hs
    rw [ranksP_nil, ranksP_cons, hk] at h
    have h := (List.cons.inj h).1
    have := idx_inj (hp.mem_iff.mpr (List.mem_append_left _ (hw c (List.mem_cons_self ..)))) (hp.mem_iff.mpr (by simp)) h
    subst this
    exact absurd (hw _ (List.mem_cons_self ..)) O.m.dot
  | c :: w, d :: v, s, hs, hw, hv, h => by
    obtain ⟨r, _, hk, hp, _⟩ := rk_at O hs
    rw [ranksP_cons, ranksP_cons, hk] at h
    obtain ⟨h1, h2⟩ := List.cons.inj h
    have := idx_inj (hp.mem_iff.mpr (List.mem_append_left _ (hw c (List.mem_cons_self ..)))) (hp.mem_iff.mpr (List.mem_append_left _ (hv d (List.mem_cons_self ..)))) h1
    subst this
    obtain ⟨k, hm, hk2⟩ := mv_some O hs (hw c (List.mem_cons_self ..))
    rw [ranks_inj O (w := w) (v := v) (by rw [hm]; exact hk2) (fun x hx => hw x (List.mem_cons_of_mem _ hx)) (fun x hx => hv x (List.mem_cons_of_mem _ hx)) h2]
def lessP (L : List Nat) (cr : List ORow) (w v : List Nat) : Bool := ltN (ranksP L cr 0 w) (ranksP L cr 0 v)
theorem lessP_self {w : List Nat} : lessP L cr w w = false := ltN_self _
theorem lessP_anti (O : Ord L cr) {w v : List Nat} (hw : ∀ c ∈ w, c ∈ L) (hv : ∀ c ∈ v, c ∈ L) (h : w ≠ v) : lessP L cr v w = !lessP L cr w v :=
  ltN_anti fun e => h (ranks_inj O (by have := O.m.r1; rw [oRows_len] at this; omega) hw hv e)
def flipP (L : List Nat) (od nw : List ORow) (w v : List Nat) : Bool := (lessP L od w v != lessP L nw w v)
theorem flipP_comm {od nw : List ORow} (O : Ord L od) (W : Ord L nw) {w v : List Nat} (hw : ∀ c ∈ w, c ∈ L) (hv : ∀ c ∈ v, c ∈ L) : flipP L od nw v w = flipP L od nw w v := by
  unfold flipP
  by_cases h : w = v
  · subst h; rfl
  · rw [lessP_anti O hw hv h, lessP_anti W hw hv h]
    cases lessP L od w v <;> cases lessP L nw w v <;> rfl
theorem flipped_ok {od nw : List ORow} {ln : D} (O : Ord L od) (W : Ord L nw) {s0 : Sl} (h0 : SlM (upD (colD L (oRows od)) (colD L (oRows nw)) ln) s0) {w v : List Nat} (hw : ∀ c ∈ w, c ∈ L) (hv : ∀ c ∈ v, c ∈ L) (lw : w.length ≤ 400) (lv : v.length ≤ 400) :
    F_Upgrade_are_flipped [s0, .fro (dS w), .fro (dS v)] = .ok (.fro (.bl (flipP L od nw w v)), [s0, .fro (dS w), .fro (dS v)]) := by
  have a1 := ranks_ok O hw (by omega)
  have a2 := ranks_ok O hv (by omega)
  have b1 := ranks_ok W hw (by omega)
  have b2 := ranks_ok W hv (by omega)
  cases h0 <;> simp [F_Upgrade_are_flipped, m_Upgrade_are_flipped, a1, a2, b1, b2, ltR_tups, flipP, lessP]
theorem flips_ok {od nw : List ORow} {lr : List LRow} {tls : List (Option (List Nat))} (O : Ord L od) (W : Ord L nw) (N : Lan L lr tls) {s0 : Sl} (h0 : SlM (upD (colD L (oRows od)) (colD L (oRows nw)) (lanT L lr tls)) s0) {w v : List Nat} (hw : ∀ c ∈ w, c ∈ L) (hv : ∀ c ∈ v, c ∈ L) (lw : w.length ≤ 400) (lv : v.length ≤ 400)
    (iw : hasP L lr tls w = true) (iv : hasP L lr tls v = true) :
    F_Upgrade_flips [s0, .fro (dS w), .fro (dS v)] = .ok (.fro (.bl (flipP L od nw w v)), [s0, .fro (dS w), .fro (dS v)]) := by
  have n1 := needU_ok N h0 hw lw iw
  have n2 := needU_ok N h0 hv lv iv
  have f := flipped_ok O W h0 hw hv lw lv
  cases h0 <;> simp [F_Upgrade_flips, m_Upgrade_flips, n1, n2, f]
end
section
variable {L : List Nat} {cr : List ORow}
theorem mvI (O : Ord L cr) {s c : Nat} {r : ORow} (hr : cr[s]? = some r) (hr2 : (oRows cr)[s]? = some (dS r.1, r.2)) (hs : s < cr.length) (hc : c ∈ L) : r.2[L.idxOf c]? = some (mvP L (oRows cr) s c) := by
  obtain ⟨r', h1, h2⟩ := mv_at O.m (s := s) (by simpa using hs) hc
  rw [hr2] at h1
  cases h1
  exact h2
theorem key_turn (O : Ord L cr) {t : D} {s c : Nat} {acc : List D} {z3 : Sl} (hs : s < cr.length) (hc : c ∈ L) (h3 : FreeS z3) (hl : acc.length ≤ cap) :
    forT (gN 3) L1__law_key (.str (S [c])) [.fro (dS L), .fro (.lst ((oRows cr).map rowD)), .fro t, z3, .own (.lst acc), .fro (.int s)] =
      .nx [.fro (dS L), .fro (.lst ((oRows cr).map rowD)), .fro t, .fro (dS [c]), .own (.lst (acc ++ [.int ((rkP cr s).idxOf c : Nat)])), .fro (.int ((mvP L (oRows cr) s c).getD 0 : Nat))] := by
  obtain ⟨r, hr, hk, hp, hr2⟩ := rk_at O hs
  obtain ⟨k, hm, hk2⟩ := mv_some O hs hc
  have a1 : ixD (.lst ((oRows cr).map rowD)) (.int (s : Nat)) = .ok (.fro (rowD (dS r.1, r.2))) := ixD_ln (by rw [List.getElem?_map, hr2]; rfl)
  have a2 : ixD (.tup (r.2.map dO)) (.int (L.idxOf c : Nat)) = .ok (.fro (dO (mvP L (oRows cr) s c))) := ixD_tn (by rw [List.getElem?_map, mvI O hr hr2 hs hc]; rfl)
  have i1 := indexD_one (L := r.1) (c := c) (hp.mem_iff.mpr (List.mem_append_left _ hc))
  have i2 := indexD_one (L := L) (c := c) hc
  have ne : ¬ (S [c] = S [46]) := fun e => O.m.dot (by have := SX.S_inj e; simp at this; rw [← this]; exact hc)
  rw [hm] at a2
  simp [forT, L1__law_key, h3 _, a1, rowD, i1, i2, hl, dotS, ne, hm, hk, a2]
theorem key_last (O : Ord L cr) {t : D} {s : Nat} {acc : List D} {z3 : Sl} (hs : s < cr.length) (h3 : FreeS z3) (hl : acc.length ≤ cap) :
    forT (gN 3) L1__law_key (.str (S [46])) [.fro (dS L), .fro (.lst ((oRows cr).map rowD)), .fro t, z3, .own (.lst acc), .fro (.int s)] =
      .nx [.fro (dS L), .fro (.lst ((oRows cr).map rowD)), .fro t, .fro (dS [46]), .own (.lst (acc ++ [.int ((rkP cr s).idxOf 46 : Nat)])), .fro (.int s)] := by
  obtain ⟨r, hr, hk, hp, hr2⟩ := rk_at O hs
  have a1 : ixD (.lst ((oRows cr).map rowD)) (.int (s : Nat)) = .ok (.fro (rowD (dS r.1, r.2))) := ixD_ln (by rw [List.getElem?_map, hr2]; rfl)
  have i1 := indexD_one (L := r.1) (c := 46) (hp.mem_iff.mpr (by simp))
  simp [forT, L1__law_key, h3 _, a1, rowD, i1, hl, dotS, hk]
theorem key_loop (O : Ord L cr) {t : D} : ∀ {w : List Nat} {s : Nat} {acc : List D} {z3 : Sl}, s < cr.length → (∀ c ∈ w, c ∈ L) → FreeS z3 → acc.length + w.length ≤ cap →
    ∃ z3', forGo (gN 3) L1__law_key ((w ++ [46]).map fun c => .str (S [c])) [.fro (dS L), .fro (.lst ((oRows cr).map rowD)), .fro t, z3, .own (.lst acc), .fro (.int s)] =
      .nx [.fro (dS L), .fro (.lst ((oRows cr).map rowD)), .fro t, z3', .own (.lst (acc ++ (ranksP L cr s w).map fun (k : Nat) => D.int k)), .fro (.int (runN L cr s w))]
  | [], s, acc, z3, hs, _, h3, hl => by
    refine ⟨.fro (dS [46]), ?_⟩
    rw [List.nil_append, List.map_cons, forGo_turn (key_last O (t := t) (acc := acc) hs h3 (by simpa using hl))]
    rfl
  | c :: w, s, acc, z3, hs, hw, h3, hl => by
    have hl' : acc.length + (w.length + 1) ≤ cap := hl
    obtain ⟨k, hm, hk2⟩ := mv_some O hs (hw c (List.mem_cons_self ..))
    obtain ⟨y, e2⟩ := key_loop O (t := t) (w := w) (s := (mvP L (oRows cr) s c).getD 0) (acc := acc ++ [.int ((rkP cr s).idxOf c : Nat)]) (by rw [hm]; exact hk2) (fun x hx => hw x (List.mem_cons_of_mem _ hx)) (FreeS.fro (d := dS [c])) (by simp; omega)
    refine ⟨y, ?_⟩
    rw [List.cons_append, List.map_cons, forGo_turn (key_turn O (t := t) (acc := acc) hs (hw c (List.mem_cons_self ..)) h3 (by omega)), e2]
    simp [ranksP, ranksB, runN]
theorem key_ok (O : Ord L cr) {w : List Nat} (hw : ∀ c ∈ w, c ∈ L) (hl : w.length ≤ 1000) :
    F__law_key [.fro (dS L), .fro (.lst ((oRows cr).map rowD)), .fro (dS w)] = .ok (.own (.lst ((ranksP L cr 0 w).map fun (k : Nat) => D.int k)), [.fro (dS L), .fro (.lst ((oRows cr).map rowD)), .fro (dS w)]) := by
  obtain ⟨z3, e⟩ := key_loop O (t := dS w) (w := w) (s := 0) (acc := []) (z3 := .no) (by have := O.m.r1; rw [oRows_len] at this; omega) hw FreeS.no (by show 0 + w.length ≤ 1000000; omega)
  simp at e
  have c1 : w.length + 1 ≤ cap := by show _ ≤ 1000000; omega
  have a1 : addD (dS w) (.str (S [46])) = .ok (.fro (dS (w ++ [46]))) := addD_S (by simpa using c1)
  simp [F__law_key, m__law_key, cap, dotS, a1, e]
def plainD (L : List Nat) (od nw : List ORow) (lr : List LRow) : D := .tup [dS L, .lst ((oRows od).map rowD), .lst ((oRows nw).map rowD), .lst ((lRows lr).map rowD)]
theorem lawflips_ok {od nw : List ORow} {lr : List LRow} (O : Ord L od) (W : Ord L nw) {w v : List Nat} (hw : ∀ c ∈ w, c ∈ L) (hv : ∀ c ∈ v, c ∈ L) (lw : w.length ≤ 400) (lv : v.length ≤ 400) :
    F__law_flips [.fro (plainD L od nw lr), .fro (dS w), .fro (dS v)] = .ok (.fro (.bl (flipP L od nw w v)), [.fro (plainD L od nw lr), .fro (dS w), .fro (dS v)]) := by
  have a1 := key_ok O hw (by omega)
  have a2 := key_ok O hv (by omega)
  have b1 := key_ok W hw (by omega)
  have b2 := key_ok W hv (by omega)
  simp [F__law_flips, m__law_flips, plainD, a1, a2, b1, b2, ltR_lsts, flipP, lessP]
end
theorem setIx_0 {x d : D} {xs : List D} : setIx (x :: xs) 0 d = .ok (d :: xs) := by
  unfold setIx
  rw [show ixN (x :: xs).length 0 = some 0 by unfold ixN; rw [if_pos (by decide), if_pos (by simp)]; rfl]
  rfl
theorem setIx_2 {x y z d : D} : setIx [x, y, z] 2 d = .ok [x, y, d] := rfl
theorem wide_of {c : Int} (h : c.natAbs < 2 ^ 64) : wideOk c = true := by
  unfold wideOk
  refine decide_eq_true (Nat.lt_of_lt_of_le h (Nat.pow_le_pow_right (by decide) (by decide)))
theorem powD_eq {i j : Int} (h0 : 0 ≤ j) (h1 : j ≤ 100) (h : i.natAbs < 2 ^ 64) : powD (.int i) (.int j) = .ok (.fro (.int (i ^ j.toNat))) := by
  show (if decide (0 ≤ j) && decide (j ≤ 100) && decide (i.natAbs < 2 ^ 64) then okI (i ^ j.toNat) else .stuck) = _
  rw [decide_eq_true h0, decide_eq_true h1, decide_eq_true h]; rfl
structure Bag (n : Nat) (d : D) : Prop where
  ex : ∃ a b c : Int, d = .lst [.int a, .int b, .int c] ∧ 0 ≤ b ∧ b < 2305843009213693951 ∧ 0 ≤ c ∧ c ≤ (n : Nat)
theorem Bag.mono {n m : Nat} {d : D} (h : Bag n d) (hm : n ≤ m) : Bag m d := by
  obtain ⟨a, b, c, e, h1, h2, h3, h4⟩ := h.ex
  exact ⟨a, b, c, e, h1, h2, h3, by omega⟩
theorem take_ok' {n : Nat} {d : D} {many : Int} (B : Bag n d) (h0 : 0 < many) (h1 : many ≤ 1000000) (hn : n ≤ 99999) :
    ∃ v d', F__law_take [.bor d, .fro (.int many)] = .ok (.fro (.int v), [.bor d', .fro (.int many)]) ∧ 0 ≤ v ∧ v < many ∧ Bag (n + 1) d' := by
  obtain ⟨a, b, c, rfl, b0, b1, c0, c1⟩ := B.ex
  have h2 : many ≤ 2 ^ 100 := Int.le_trans h1 (by decide)
  by_cases ha : 0 < a
  · refine ⟨a % many, .lst [.int (a / many), .int b, .int c], ?_, Int.emod_nonneg _ (by omega), Int.emod_lt_of_pos _ h0, ⟨_, _, _, rfl, b0, b1, c0, by omega⟩⟩
    have f1 : fdivD (.int a) (.int many) = .ok (.fro (.int (a / many))) := fdivD_eq h0 h2
    simp [F__law_take, m__law_take, ha, h0, f1, setIx_0]
  · have w1 : wideOk 1000099 = true := wide_of (by decide)
    have w2 : wideOk 179424691 = true := wide_of (by decide)
    have w3 : wideOk (c + 1) = true := wide_of (by omega)
    have p1 : powD (.int (b + 1000099 * (c + 1))) (.int 3) = .ok (.fro (.int ((b + 1000099 * (c + 1)) ^ 3))) := powD_eq (by decide) (by decide) (by omega)
    have m0 := Int.emod_nonneg ((b + 1000099 * (c + 1)) ^ 3) (b := 2305843009213693921) (by decide)
    have m1 := Int.emod_lt_of_pos ((b + 1000099 * (c + 1)) ^ 3) (b := 2305843009213693921) (by decide)
    have p2 : powD (.int ((b + 1000099 * (c + 1)) ^ 3 % 2305843009213693921 + 179424691 * (c + 1))) (.int 2) = .ok (.fro (.int (((b + 1000099 * (c + 1)) ^ 3 % 2305843009213693921 + 179424691 * (c + 1)) ^ 2))) := powD_eq (by decide) (by decide) (by omega)
    have f1 : ∀ x : Int, fdivD (.int x) (.int 4096) = .ok (.fro (.int (x / 4096))) := fun x => fdivD_eq (by decide) (by decide)
    have f2 : ∀ x : Int, modD (.int x) (.int 2305843009213693921) = .ok (.fro (.int (x % 2305843009213693921))) := fun x => modD_eq (by decide)
    have f3 : ∀ x : Int, modD (.int x) (.int 2305843009213693951) = .ok (.fro (.int (x % 2305843009213693951))) := fun x => modD_eq (by decide)
    refine ⟨_, .lst [.int a, .int b, .int (c + 1)], ?_, Int.emod_nonneg (((b + 1000099 * (c + 1)) ^ 3 % 2305843009213693921 + 179424691 * (c + 1)) ^ 2 % 2305843009213693951 / 4096) (by omega), Int.emod_lt_of_pos _ h0, ⟨_, _, _, rfl, b0, b1, by omega, by omega⟩⟩
    simp only [F__law_take, m__law_take, fnN_eq, fnB_eq]
    simp [ha, h0, setIx_2, w1, w2, w3, p1, p2, f1, f2, f3]
theorem take_ok {n many : Nat} {d : D} (B : Bag n d) (h0 : 0 < many) (h1 : many ≤ 1000000) (hn : n ≤ 99999) :
    ∃ (v : Nat) (d' : D), F__law_take [.bor d, .fro (.int (many : Nat))] = .ok (.fro (.int (v : Nat)), [.bor d', .fro (.int (many : Nat))]) ∧ v < many ∧ Bag (n + 1) d' := by
  obtain ⟨v, d', e, a, b, c⟩ := take_ok' B (many := (many : Nat)) (by omega) (by omega) hn
  refine ⟨v.toNat, d', ?_, by omega, c⟩
  rw [e, Int.toNat_of_nonneg a]
theorem popD_at {xs : List D} {v : Nat} (h : v < xs.length) (hs : v ≤ 1000000) : popD xs [.int (v : Nat)] = .ok (xs.eraseIdx v, xs[v]) := by
  have e : ixN xs.length (v : Nat) = some v := by unfold ixN; rw [if_pos (by omega), if_pos (by omega)]; rfl
  have sm : small (v : Nat) = true := by unfold small; rw [decide_eq_true (by omega), decide_eq_true (by omega)]; rfl
  unfold popD
  simp only [e, List.getElem?_eq_getElem h, sm, if_true]
end K23
namespace K23
open PySem PySem.Spec PyProof.Rows L2 DL
open SX (S)
def Lo (l : List Nat) : Prop := ∀ c ∈ l, c < 1114112
def chP (l : List Nat) : List PyData := l.map fun c => PyData.str (S [c])
theorem toPys_ch : ∀ l : List Nat, toPys (l.map fun c => D.str (S [c])) = some (chP l)
  | [] => rfl
  | c :: l => by
    show (match toPy (D.str (S [c])), toPys (l.map fun c => D.str (S [c])) with | some p, some ps => some (p :: ps) | _, _ => none) = _
    rw [toPys_ch l]; rfl
theorem lay_ch : ∀ {l : List Nat}, Lo l → PyData.canLayAll0 (chP l) = true
  | [], _ => by simp [chP, PyData.canLayAll0]
  | c :: l, h => by
    have ih := lay_ch (l := l) fun x hx => h x (List.mem_cons_of_mem _ hx)
    have hc := h c (List.mem_cons_self ..)
    unfold chP at ih ⊢
    rw [List.map_cons, PyData.canLayAll0, ih]
    simp [PyData.canLay0, PyData.strOk, hc]
theorem depth_ch : ∀ l : List Nat, PyData.depthAll (chP l) = 0
  | [] => by simp [chP, PyData.depthAll]
  | a :: l => by
    have := depth_ch l
    simp [chP, PyData.depthAll, PyData.depth] at this ⊢
    exact this
theorem eqv_ch : ∀ l m : List Nat, PyData.eqvAll (chP l) (chP m) = decide (l = m)
  | [], [] => by simp [chP, PyData.eqvAll]
  | [], b :: m => by simp [chP, PyData.eqvAll]
  | a :: l, [] => by simp [chP, PyData.eqvAll]
  | a :: l, b :: m => by
    have ih := eqv_ch l m
    unfold chP at ih ⊢
    rw [List.map_cons, List.map_cons, PyData.eqvAll, ih]
    rw [PyData.eqv, SX.S_beq_eq]
    by_cases h1 : a = b <;> by_cases h2 : l = m <;> simp [h1, h2]
theorem eqD_ch {l m : List Nat} (hl : Lo l) (hm : Lo m) : eqD (.lst (l.map fun c => .str (S [c]))) (.lst (m.map fun c => .str (S [c]))) = .ok (decide (l = m)) := by
  have h2 : ∀ l : List Nat, toPy (.lst (l.map fun c => D.str (S [c]))) = some (.list (chP l)) := fun l => by show (toPys _).map PyData.list = _; rw [toPys_ch]; rfl
  have e : eqD (.lst (l.map fun c => .str (S [c]))) (.lst (m.map fun c => .str (S [c]))) = (match toPy (.lst (l.map fun c => D.str (S [c]))), toPy (.lst (m.map fun c => D.str (S [c]))) with
    | some p, some q => if SeqAt.shaped p && SeqAt.shaped q then .ok (PyData.eqv p q) else .stuck
    | _, _ => .stuck) := rfl
  have sh : ∀ {l : List Nat}, Lo l → SeqAt.shaped (.list (chP l)) = true := fun {l} h => by
    unfold SeqAt.shaped
    rw [show PyData.canLay0 (.list (chP l)) = true by rw [PyData.canLay0]; exact lay_ch h, decide_eq_true (by rw [PyData.depth, depth_ch]; decide)]
    rfl
  rw [e, h2, h2]
  dsimp only
  rw [sh hl, sh hm]
  show R.ok (PyData.eqv (.list (chP l)) (.list (chP m))) = _
  rw [PyData.eqv, eqv_ch]
theorem neR_ch0 {l : List Nat} (hl : Lo l) : neR (.lst (l.map fun c => .str (S [c]))) (.lst []) = .ok (.fro (.bl (!l.isEmpty))) := by
  have := eqD_ch (l := l) (m := []) hl (fun c hc => by cases hc)
  unfold neR
  rw [show (D.lst []) = D.lst (([] : List Nat).map fun c => .str (S [c])) from rfl, this]
  cases l <;> rfl
theorem eqR_ch {l m : List Nat} (hl : Lo l) (hm : Lo m) : eqR (.lst (l.map fun c => .str (S [c]))) (.lst (m.map fun c => .str (S [c]))) = .ok (.fro (.bl (decide (l = m)))) := by
  unfold eqR; rw [eqD_ch hl hm]; rfl
theorem neR_ch {l m : List Nat} (hl : Lo l) (hm : Lo m) : neR (.lst (l.map fun c => .str (S [c]))) (.lst (m.map fun c => .str (S [c]))) = .ok (.fro (.bl (!decide (l = m)))) := by
  unfold neR; rw [eqD_ch hl hm]; rfl
def chD (l : List Nat) : List D := l.map fun c => D.str (S [c])
theorem chD_eq {l : List Nat} : (l.map fun c => D.str (S [c])) = chD l := rfl
@[simp] theorem chD_len {l : List Nat} : (chD l).length = l.length := by simp [chD]
theorem erase_map {ι κ : Type} {f : ι → κ} : ∀ {l : List ι} {v : Nat}, (l.map f).eraseIdx v = (l.eraseIdx v).map f
  | [], v => by simp
  | x :: l, 0 => by simp
  | x :: l, v + 1 => by simp [erase_map (l := l)]
theorem erase_ch {l : List Nat} {v : Nat} : (chD l).eraseIdx v = chD (l.eraseIdx v) := erase_map
theorem perm_erase {ι : Type} : ∀ {l : List ι} {v : Nat} (h : v < l.length), (l[v] :: l.eraseIdx v).Perm l
  | x :: l, 0, _ => by simp
  | x :: l, v + 1, h => by
    have ih := perm_erase (l := l) (v := v) (by simpa using h)
    simp only [List.getElem_cons_succ, List.eraseIdx_cons_succ]
    exact (List.Perm.swap ..).trans (ih.cons x)
theorem neR_chD {l : List Nat} (hl : Lo l) : neR (.lst (chD l)) (.lst []) = .ok (.fro (.bl (!l.isEmpty))) := neR_ch0 hl
theorem shuf_ok {n : Nat} {bag : D} {items : List Nat} (B : Bag n bag) (hn : n + items.length ≤ 99999) (hi : items.length ≤ 1000) (lo : Lo items) :
    ∃ (out : List Nat) (bag' : D), F__law_shuffled [.bor bag, .fro (dS items)] = .ok (.own (.lst (chD out)), [.bor bag', .fro (dS items)]) ∧ out.Perm items ∧ Bag (n + items.length) bag' := by
  have c1 : items.length ≤ cap := by show _ ≤ 1000000; omega
  obtain ⟨ds', e, l, f, bag', rfl, hp, hb, hl⟩ := while_ind (t := tVal (e2 neR (eVar 2) (eLst aNil))) (body := L1__law_shuffled)
    (J := fun ds => ∃ (l f : List Nat) (bag' : D), ds = [.bor bag', .fro (dS items), .own (.lst (chD l)), .own (.lst (chD f))] ∧ (f ++ l).Perm items ∧ Bag (n + f.length) bag')
    (m := fun ds => match ds with | [_, _, .own (.lst l), _] => l.length | _ => 0)
    (Q := fun ds => ∃ (l f : List Nat) (bag' : D), ds = [.bor bag', .fro (dS items), .own (.lst (chD l)), .own (.lst (chD f))] ∧ (f ++ l).Perm items ∧ Bag (n + f.length) bag' ∧ l = [])
    (fun ds ⟨l, f, bag', e, hp, hb⟩ => by
      subst e
      have hlen : f.length + l.length = items.length := by rw [← List.length_append]; exact hp.length_eq
      have lol : Lo l := fun c hc => lo c (hp.mem_iff.mp (List.mem_append_right _ hc))
      have ne := neR_chD lol
      by_cases h0 : l = []
      · subst h0; exact .inl ⟨_, by simp [ne], [], f, bag', rfl, hp, hb, rfl⟩
      · have h0' : l.isEmpty = false := by simpa using h0
        have hl0 : 0 < l.length := List.length_pos_iff.mpr h0
        rw [h0'] at ne
        refine .inr ?_
        obtain ⟨v, bag2, ev, hv, hb2⟩ := take_ok hb (many := l.length) hl0 (by omega) (by omega)
        have pp := popD_at (xs := chD l) (v := v) (by simpa using hv) (by omega)
        have lc : f.length ≤ cap := by show _ ≤ 1000000; omega
        have ap : chD f ++ [D.str (S [l[v]])] = chD (f ++ [l[v]]) := by simp [chD]
        have gt : (chD l)[v]'(by simpa using hv) = D.str (S [l[v]]) := by simp [chD]
        rw [erase_ch, gt] at pp
        refine ⟨[.bor bag', .fro (dS items), .own (.lst (chD l)), .own (.lst (chD f))], [.bor bag2, .fro (dS items), .own (.lst (chD (l.eraseIdx v))), .own (.lst (chD (f ++ [l[v]])))], by simp [ne], ?_, ⟨_, _, _, rfl, ?_, ?_⟩, ?_⟩
        · simp [L1__law_shuffled, ev, pp, lc, ap]
        · refine List.Perm.trans ?_ hp
          rw [List.append_assoc]
          exact List.Perm.append_left f (perm_erase hv)
        · exact hb2.mono (by simp; omega)
        · have := List.length_eraseIdx_of_lt hv
          simp [this]; omega)
    (n := turns) (ds := [.bor bag, .fro (dS items), .own (.lst (chD items)), .own (.lst (chD []))]) ⟨items, [], bag, rfl, by simp, by simpa using B⟩ (by show _ < 100000000; simp; omega)
  subst hl
  refine ⟨f, bag', ?_, by simpa using hp, hb.mono (by have := hp.length_eq; simp at this; omega)⟩
  have e' : sWhile (tVal (e2 neR (eVar 2) (eLst aNil))) L1__law_shuffled [.bor bag, .fro (dS items), .own (.lst (chD items)), .own (.lst [])] = .nx [.bor bag', .fro (dS items), .own (.lst (chD [])), .own (.lst (chD f))] := e
  have l1 : listD [dS items] = .ok (.own (.lst (chD items))) := by
    show (if (S items).length ≤ cap then R.ok (Rv.own (D.lst (signs (S items)))) else .stuck) = _
    rw [SX.S_len, if_pos c1]; rfl
  simp [F__law_shuffled, m__law_shuffled, l1, e']
theorem joinD_chD (l : List Nat) (hl : l.length ≤ cap) : joinD (S []) (.lst (chD l)) = .ok (.fro (dS l)) := join_signs l hl
structure Let (L : List Nat) : Prop where
  asc : L.Pairwise (· < ·)
  rng : ∀ c ∈ L, 97 ≤ c ∧ c ≤ 122
  l1 : 1 ≤ L.length
  l6 : L.length ≤ 6
theorem Let.nd {L : List Nat} (h : Let L) : L.Nodup := h.asc.imp fun h => Nat.ne_of_lt h
theorem Let.dot {L : List Nat} (h : Let L) : 46 ∉ L := fun m => by have := h.rng _ m; omega
theorem Let.lo {L : List Nat} (h : Let L) : Lo L := fun c m => by have := h.rng _ m; omega
/-- the moves of one state are drawn -/
def manyOk (many : Nat) : Prop := 0 < many ∧ many ≤ 1000000
theorem rangeD_len {lo : Int} {n : Nat} : (rangeD lo n).length = n := by simp [rangeD]
theorem small_of {n : Nat} (h : n ≤ 1000000) : small (n : Nat) = true := by unfold small; rw [decide_eq_true (by omega), decide_eq_true (by omega)]; rfl
structure Ord0 (L : List Nat) (n : Nat) (cr : List ORow) : Prop where
  pm : ∀ r ∈ cr, r.1.Perm (L ++ [46])
  len : ∀ r ∈ cr, r.2.length = L.length
  mv : ∀ r ∈ cr, ∀ k ∈ r.2, ∃ j, j < n ∧ k = some j
theorem Ord0.ord {L : List Nat} {cr : List ORow} (h : Ord0 L cr.length cr) (l : Let L) (h1 : 1 ≤ cr.length) (h6 : cr.length ≤ 6) : Ord L cr := by
  refine ⟨⟨l.nd, l.l1, l.l6, l.dot, by rw [oRows_len]; exact h1, by rw [oRows_len]; exact h6, fun r hr => ?_, fun r hr k hk => ?_⟩, h.pm, fun r hr k hk e => ?_⟩
  · obtain ⟨q, hq, rfl⟩ := List.mem_map.mp hr; exact h.len q hq
  · obtain ⟨q, hq, rfl⟩ := List.mem_map.mp hr
    obtain ⟨j, hj, e⟩ := h.mv q hq _ hk
    cases e
    rw [oRows_len]; exact hj
  · obtain ⟨j, _, e2⟩ := h.mv r hr k hk
    rw [e] at e2; cases e2
theorem orow_turn {L : List Nat} (l : Let L) {many n : Nat} {bag d : D} {cr : List ORow} {z4 z5 : Sl} (hm : manyOk many) (B : Bag n bag) (hn : n ≤ 90000) (h4 : FreeS z4) (h5 : FreeS z5) (hc : cr.length ≤ 1000) :
    ∃ (r : ORow) (bag' : D) (x5 : Sl), forT (gN 4) L1__law_order d [.bor bag, .fro (dS L), .fro (.int (many : Nat)), .own (.lst ((oRows cr).map rowD)), z4, z5, .no] =
      .nx [.bor bag', .fro (dS L), .fro (.int (many : Nat)), .own (.lst ((oRows (cr ++ [r])).map rowD)), .fro d, x5, .no] ∧ FreeS x5 ∧ Bag (n + 13) bag' ∧ Ord0 L many [r] := by
  have l6 := l.l6
  obtain ⟨out, ds', e, bag', mv, hds, ha, hb, hB, hlen⟩ := lc_ind (vs := [6]) (g := gN 6) (t := tTrue) (elt := E2__law_order)
    (J := fun rest ds acc => ∃ (bag' : D) (mv : List Nat), ds = [.bor bag', .fro (dS L), .fro (.int (many : Nat)), .own (.lst ((oRows cr).map rowD)), .fro d, z5, .no] ∧ acc = mv.map (fun (k : Nat) => D.int k) ∧ (∀ k ∈ mv, k < many) ∧ Bag (n + mv.length) bag' ∧ mv.length + rest.length = L.length)
    (fun c r ds acc ⟨bag', mv, e, ea, hb, hB, hl⟩ => by
      subst e; subst ea
      have hl : mv.length + (r.length + 1) = L.length := hl
      obtain ⟨v, bag2, ev, hv, hb2⟩ := take_ok hB hm.1 hm.2 (by omega)
      refine ⟨some (.int (v : Nat)), _, by simp [lcTurn, E2__law_order, ev], by simp; show _ ≤ 1000000; omega, bag2, mv ++ [v], rfl, by simp, fun k hk => ?_, hb2.mono (by simp; omega), by simp; omega⟩
      rcases List.mem_append.mp hk with q | q
      · exact hb k q
      · simp at q; rw [q]; exact hv)
    (xs := L.map fun c => .str (S [c])) (ds := [.bor bag, .fro (dS L), .fro (.int (many : Nat)), .own (.lst ((oRows cr).map rowD)), .fro d, z5, .no]) (acc := []) ⟨bag, [], rfl, rfl, by simp, by simpa using B, by simp⟩
  subst hds; subst ha
  simp at hlen
  obtain ⟨rk, bag2, es, hp, hB2⟩ := shuf_ok (items := L ++ [46]) hB (by simp; omega) (by simp; omega) (fun c hc => by
    rcases List.mem_append.mp hc with q | q
    · exact l.lo c q
    · simp at q; omega)
  have c1 : L.length + 1 ≤ cap := by show _ ≤ 1000000; omega
  have ad : addD (dS L) (.str (S [46])) = .ok (.fro (dS (L ++ [46]))) := addD_S (by simpa using c1)
  have hr : rk.length = L.length + 1 := by rw [hp.length_eq]; simp
  have jn := joinD_chD rk (by rw [hr]; exact c1)
  have apl : cr.length ≤ cap := by show _ ≤ 1000000; omega
  refine ⟨(rk, mv.map some), bag2, .fro (.tup (mv.map fun (k : Nat) => D.int k)), ?_, FreeS.fro, hB2.mono (by simp; omega), ⟨fun r hr => ?_, fun r hr => ?_, fun r hr k hk => ?_⟩⟩
  · have ap2 : (oRows (cr ++ [(rk, mv.map some)])).map rowD = (oRows cr).map rowD ++ [D.tup [dS rk, D.tup (mv.map fun (k : Nat) => D.int k)]] := by simp [oRows, rowD]
    rw [ap2]
    simp [forT, L1__law_order, h4 _, h5 _, e, emptyS, dotS, ad, es, jn, apl]
  · simp at hr; subst hr; exact hp
  · simp at hr; subst hr; simpa using hlen
  · simp at hr; subst hr
    obtain ⟨j, hj, rfl⟩ := List.mem_map.mp hk
    exact ⟨j, hb j hj, rfl⟩
end K23
namespace K23
open PySem PySem.Spec PyProof.Rows L2 DL
open SX (S)
theorem order_ok {L : List Nat} (l : Let L) {many n : Nat} {bag : D} (hm : 0 < many) (hm6 : many ≤ 6) (B : Bag n bag) (hn : n ≤ 80000) :
    ∃ (cr : List ORow) (bag' : D), F__law_order [.bor bag, .fro (dS L), .fro (.int (many : Nat))] = .ok (.own (.lst ((oRows cr).map rowD)), [.bor bag', .fro (dS L), .fro (.int (many : Nat))]) ∧ cr.length = many ∧ Ord0 L many cr ∧ Bag (n + 78) bag' := by
  obtain ⟨ds', e, cr, bag', z4, z5, rfl, f4, f5, hO, hl, hB⟩ := for_ind (g := gN 4) (body := L1__law_order)
    (J := fun rest ds => ∃ (cr : List ORow) (bag' : D) (z4 z5 : Sl), ds = [.bor bag', .fro (dS L), .fro (.int (many : Nat)), .own (.lst ((oRows cr).map rowD)), z4, z5, .no] ∧ FreeS z4 ∧ FreeS z5 ∧ Ord0 L many cr ∧ cr.length + rest.length = many ∧ Bag (n + cr.length * 13) bag')
    (fun d r ds ⟨cr, bag', z4, z5, e, f4, f5, hO, hl, hB⟩ => by
      subst e
      have hl : cr.length + (r.length + 1) = many := hl
      obtain ⟨row, bag2, x5, e, fx, hB2, hR⟩ := orow_turn l (cr := cr) (d := d) ⟨hm, by omega⟩ hB (by omega) f4 f5 (by omega)
      refine ⟨_, e, cr ++ [row], bag2, _, x5, rfl, FreeS.fro, fx, ⟨fun q hq => ?_, fun q hq => ?_, fun q hq => ?_⟩, by simp; omega, hB2.mono (by simp; omega)⟩
      · rcases List.mem_append.mp hq with z | z
        · exact hO.pm q z
        · exact hR.pm q z
      · rcases List.mem_append.mp hq with z | z
        · exact hO.len q z
        · exact hR.len q z
      · rcases List.mem_append.mp hq with z | z
        · exact hO.mv q z
        · exact hR.mv q z)
    (xs := rangeD 0 ((many : Int)).toNat) (ds := [.bor bag, .fro (dS L), .fro (.int (many : Nat)), .own (.lst ((oRows []).map rowD)), .no, .no, .no])
    ⟨[], bag, .no, .no, rfl, FreeS.no, FreeS.no, ⟨by simp, by simp, by simp⟩, by rw [rangeD_len]; simp, by simpa using B⟩
  have hl : cr.length = many := by simpa using hl
  refine ⟨cr, bag', ?_, hl, hO, hB.mono (by omega)⟩
  have e : forGo (gN 4) L1__law_order (rangeD 0 many) [.bor bag, .fro (dS L), .fro (.int (many : Nat)), .own (.lst []), .no, .no, .no] = .nx [.bor bag', .fro (dS L), .fro (.int (many : Nat)), .own (.lst ((oRows cr).map rowD)), z4, z5, .no] := e
  simp [F__law_order, m__law_order, small_of (n := many) (by omega), e]
structure Lan0 (L : List Nat) (n : Nat) (lr : List LRow) : Prop where
  len : ∀ r ∈ lr, r.2.length = L.length
  mv : ∀ r ∈ lr, ∀ k ∈ r.2, ∀ j, k = some j → j < n
theorem Lan0.mach {L : List Nat} {lr : List LRow} (h : Lan0 L lr.length lr) (l : Let L) (h1 : 1 ≤ lr.length) (h6 : lr.length ≤ 6) : Mach L (lRows lr) := by
  refine ⟨l.nd, l.l1, l.l6, l.dot, by rw [lRows_len]; exact h1, by rw [lRows_len]; exact h6, fun r hr => ?_, fun r hr k hk => ?_⟩
  · obtain ⟨q, hq, rfl⟩ := List.mem_map.mp hr; exact h.len q hq
  · obtain ⟨q, hq, rfl⟩ := List.mem_map.mp hr
    rw [lRows_len]; exact h.mv q hq _ hk k rfl
theorem lrow_turn {L : List Nat} (l : Let L) {many n : Nat} {bag d : D} {lr : List LRow} {z4 z5 : Sl} (hm : manyOk many) (B : Bag n bag) (hn : n ≤ 90000) (h4 : FreeS z4) (h5 : FreeS z5) (hc : lr.length ≤ 1000) :
    ∃ (r : LRow) (bag' : D) (x5 : Sl), forT (gN 4) L1__law_language d [.bor bag, .fro (dS L), .fro (.int (many : Nat)), .own (.lst ((lRows lr).map rowD)), z4, z5, .no] =
      .nx [.bor bag', .fro (dS L), .fro (.int (many : Nat)), .own (.lst ((lRows (lr ++ [r])).map rowD)), .fro d, x5, .no] ∧ FreeS x5 ∧ Bag (n + 13) bag' ∧ Lan0 L many [r] := by
  have l6 := l.l6
  obtain ⟨out, ds', e, bag', mv, hds, ha, hb, hB, hlen⟩ := lc_ind (vs := [6]) (g := gN 6) (t := tTrue) (elt := E2__law_language)
    (J := fun rest ds acc => ∃ (bag' : D) (mv : List (Option Nat)), ds = [.bor bag', .fro (dS L), .fro (.int (many : Nat)), .own (.lst ((lRows lr).map rowD)), .fro d, z5, .no] ∧ acc = mv.map dO ∧ (∀ k ∈ mv, ∀ j, k = some j → j < many) ∧ Bag (n + 2 * mv.length) bag' ∧ mv.length + rest.length = L.length)
    (fun c r ds acc ⟨bag', mv, e, ea, hb, hB, hl⟩ => by
      subst e; subst ea
      have hl : mv.length + (r.length + 1) = L.length := hl
      obtain ⟨v5, bag1, ev5, hv5, hb1⟩ := take_ok hB (many := 5) (by decide) (by decide) (by omega)
      have ev5 : F__law_take [.bor bag', .fro (.int 5)] = .ok (.fro (.int (v5 : Nat)), [.bor bag1, .fro (.int 5)]) := ev5
      by_cases h0 : v5 = 0
      · subst h0
        refine ⟨some .non, _, by simp [lcTurn, E2__law_language, ev5], by simp; show _ ≤ 1000000; omega, bag1, mv ++ [none], rfl, by simp, fun k hk j hj => ?_, hb1.mono (by simp; omega), by simp; omega⟩
        rcases List.mem_append.mp hk with q | q
        · exact hb k q j hj
        · simp at q; rw [q] at hj; cases hj
      · obtain ⟨v, bag2, ev, hv, hb2⟩ := take_ok hb1 hm.1 hm.2 (by omega)
        have h0' : ¬ ((v5 : Nat) : Int) = 0 := by omega
        refine ⟨some (.int (v : Nat)), _, by simp [lcTurn, E2__law_language, ev5, h0, ev], by simp; show _ ≤ 1000000; omega, bag2, mv ++ [some v], rfl, by simp, fun k hk j hj => ?_, hb2.mono (by simp; omega), by simp; omega⟩
        rcases List.mem_append.mp hk with q | q
        · exact hb k q j hj
        · simp at q; rw [q] at hj; cases hj; exact hv)
    (xs := L.map fun c => .str (S [c])) (ds := [.bor bag, .fro (dS L), .fro (.int (many : Nat)), .own (.lst ((lRows lr).map rowD)), .fro d, z5, .no]) (acc := []) ⟨bag, [], rfl, rfl, by simp, by simpa using B, by simp⟩
  subst hds; subst ha
  simp at hlen
  obtain ⟨v3, bag2, ev3, hv3, hB2⟩ := take_ok hB (many := 3) (by decide) (by decide) (by omega)
  have ev3 : F__law_take [.bor bag', .fro (.int 3)] = .ok (.fro (.int (v3 : Nat)), [.bor bag2, .fro (.int 3)]) := ev3
  have apl : lr.length ≤ cap := by show _ ≤ 1000000; omega
  refine ⟨(decide ((0 : Int) < v3), mv), bag2, .own (.lst (mv.map dO)), ?_, FreeS.own, hB2.mono (by omega), ⟨fun r hr => ?_, fun r hr k hk => ?_⟩⟩
  · have ap2 : (lRows (lr ++ [(decide ((0 : Int) < v3), mv)])).map rowD = (lRows lr).map rowD ++ [D.tup [.bl (decide ((0 : Int) < v3)), D.tup (mv.map dO)]] := by simp [lRows, rowD]
    rw [ap2]
    simp [forT, L1__law_language, h4 _, h5 _, e, ev3, apl]
  · simp at hr; subst hr; exact hlen
  · simp at hr; subst hr; exact hb k hk
theorem language_ok {L : List Nat} (l : Let L) {many n : Nat} {bag : D} (hm : 0 < many) (hm6 : many ≤ 6) (B : Bag n bag) (hn : n ≤ 80000) :
    ∃ (lr : List LRow) (bag' : D), F__law_language [.bor bag, .fro (dS L), .fro (.int (many : Nat))] = .ok (.own (.lst ((lRows lr).map rowD)), [.bor bag', .fro (dS L), .fro (.int (many : Nat))]) ∧ lr.length = many ∧ Lan0 L many lr ∧ Bag (n + 78) bag' := by
  obtain ⟨ds', e, lr, bag', z4, z5, rfl, f4, f5, hO, hl, hB⟩ := for_ind (g := gN 4) (body := L1__law_language)
    (J := fun rest ds => ∃ (lr : List LRow) (bag' : D) (z4 z5 : Sl), ds = [.bor bag', .fro (dS L), .fro (.int (many : Nat)), .own (.lst ((lRows lr).map rowD)), z4, z5, .no] ∧ FreeS z4 ∧ FreeS z5 ∧ Lan0 L many lr ∧ lr.length + rest.length = many ∧ Bag (n + lr.length * 13) bag')
    (fun d r ds ⟨lr, bag', z4, z5, e, f4, f5, hO, hl, hB⟩ => by
      subst e
      have hl : lr.length + (r.length + 1) = many := hl
      obtain ⟨row, bag2, x5, e, fx, hB2, hR⟩ := lrow_turn l (lr := lr) (d := d) ⟨hm, by omega⟩ hB (by omega) f4 f5 (by omega)
      refine ⟨_, e, lr ++ [row], bag2, _, x5, rfl, FreeS.fro, fx, ⟨fun q hq => ?_, fun q hq => ?_⟩, by simp; omega, hB2.mono (by simp; omega)⟩
      · rcases List.mem_append.mp hq with z | z
        · exact hO.len q z
        · exact hR.len q z
      · rcases List.mem_append.mp hq with z | z
        · exact hO.mv q z
        · exact hR.mv q z)
    (xs := rangeD 0 ((many : Int)).toNat) (ds := [.bor bag, .fro (dS L), .fro (.int (many : Nat)), .own (.lst ((lRows []).map rowD)), .no, .no, .no])
    ⟨[], bag, .no, .no, rfl, FreeS.no, FreeS.no, ⟨by simp, by simp⟩, by rw [rangeD_len]; simp, by simpa using B⟩
  have hl : lr.length = many := by simpa using hl
  refine ⟨lr, bag', ?_, hl, hO, hB.mono (by omega)⟩
  have e : forGo (gN 4) L1__law_language (rangeD 0 many) [.bor bag, .fro (dS L), .fro (.int (many : Nat)), .own (.lst []), .no, .no, .no] = .nx [.bor bag', .fro (dS L), .fro (.int (many : Nat)), .own (.lst ((lRows lr).map rowD)), z4, z5, .no] := e
  simp [F__law_language, m__law_language, small_of (n := many) (by omega), e]
end K23
namespace K23
open PySem PySem.Spec PyProof.Rows L2 DL
open SX (S)
theorem sIx_at {n d k : Nat} (h : k ≤ n) : HT.sIx n d (some (k : Int)) = k := by
  rw [HT.sIx_nat]; omega
theorem cut_mid {a : List Nat} {i j : Nat} (hi : i ≤ j) (hj : j ≤ a.length) : cutS (S a) (some (i : Int)) (some (j : Int)) = S ((a.drop i).take (j - i)) := by
  unfold cutS
  rw [SX.S_len, sIx_at (d := a.length) hj, sIx_at (d := 0) (k := i) (by omega)]
theorem cut_to {a : List Nat} {j : Nat} (hj : j ≤ a.length) : cutS (S a) none (some (j : Int)) = S (a.take j) := by
  unfold cutS
  rw [SX.S_len, sIx_at hj]
  show S ((a.drop 0).take (j - 0)) = _
  rw [List.drop_zero, Nat.sub_zero]
theorem cut_from {a : List Nat} {i : Nat} (hi : i ≤ a.length) : cutS (S a) (some (i : Int)) none = S (a.drop i) := by
  unfold cutS
  rw [SX.S_len, sIx_at hi]
  show S ((a.drop i).take (a.length - i)) = _
  rw [List.take_of_length_le (by simp)]
theorem slD_S {a b : List Nat} {lo hi : Option Int} (hl : a.length ≤ cap) (h : cutS (S a) lo hi = S b) : slD (dS a) lo hi = .ok (.fro (dS b)) := by
  show (if (S a).length ≤ cap then R.ok (Rv.fro (D.str (cutS (S a) lo hi))) else .stuck) = _
  rw [SX.S_len, if_pos hl, h]
def rvE (p : Rv × DS) : R (Rv × DS) := match p.1 with
  | .fro (.str z) => if (revS z).length ≤ cap then .ok (.fro (.str (revS z)), p.2) else .stuck
  | _ => .stuck
@[simp] theorem eRevS_eq {fe : EF} {s0 : Sl} {ds : DS} : eRevS fe (s0 :: ds) = (fe (s0 :: ds)).bind rvE := rfl
theorem revS_two {x y : Nat} : revS (S [x, y]) = S [y, x] := by
  unfold revS
  rw [SX.S_len]
  rw [show Builtin.Str.strSliceIndices none none (-1) [x, y].length = [1, 0] from (by decide : Builtin.Str.strSliceIndices none none (-1) 2 = [1, 0])]
  rfl
@[simp] theorem rvE_two {x y : Nat} {ds : DS} : rvE (.fro (.str (S [x, y])), ds) = .ok (.fro (.str (S [y, x])), ds) := by
  show (if (revS (S [x, y])).length ≤ cap then R.ok (Rv.fro (D.str (revS (S [x, y]))), ds) else .stuck) = _
  rw [revS_two, if_pos (by rw [SX.S_len]; exact cap_2)]
theorem split_two {l : List Nat} {v : Nat} (h : v + 2 ≤ l.length) : ∃ A x y B, l = A ++ x :: y :: B ∧ A.length = v := by
  have h1 : v < l.length := by omega
  have h2 : v + 1 < l.length := by omega
  refine ⟨l.take v, l[v], l[v + 1], l.drop (v + 2), ?_, by simp; omega⟩
  rw [List.getElem_cons_drop, List.getElem_cons_drop, List.take_append_drop]
structure Nr (L : List Nat) (m : Nat) (cr : List ORow) : Prop where
  o : Ord0 L m cr
  l : cr.length = m
theorem near_turn {L : List Nat} (l : Let L) {m n : Nat} {bag d b1 : D} {cr : List ORow} {z4 z5 z6 z7 z8 z9 : Sl} {k : Int} (hm : 0 < m) (hm6 : m ≤ 6) (N : Nr L m cr) (B : Bag n bag) (hn : n ≤ 90000)
    (h4 : FreeS z4) (h5 : FreeS z5) (h6 : FreeS z6) (h7 : FreeS z7) (h8 : FreeS z8) (h9 : FreeS z9) :
    ∃ (cr' : List ORow) (bag' : D) (x5 x6 x7 x8 x9 : Sl), forT (gN 4) L1__law_near d [.bor bag, .bor b1, .fro (.int k), .own (.lst ((oRows cr).map rowD)), z4, z5, z6, z7, z8, z9] =
      .nx [.bor bag', .bor b1, .fro (.int k), .own (.lst ((oRows cr').map rowD)), .fro d, x5, x6, x7, x8, x9] ∧ (FreeS x5 ∧ FreeS x6 ∧ FreeS x7 ∧ FreeS x8 ∧ FreeS x9) ∧ Bag (n + 2) bag' ∧ Nr L m cr' := by
  have l6 := l.l6
  have l1 := l.l1
  obtain ⟨s, bag1, ev1, hs, hb1⟩ := take_ok B (many := m) hm (by omega) (by omega)
  have hs' : s < cr.length := by rw [N.l]; exact hs
  have hp := N.o.pm _ (List.getElem_mem hs')
  have hlen := N.o.len _ (List.getElem_mem hs')
  obtain ⟨⟨rk, mv⟩, hr⟩ : ∃ r : ORow, r = cr[s] := ⟨_, rfl⟩
  rw [← hr] at hp hlen
  have rl : rk.length = L.length + 1 := by rw [hp.length_eq]; simp
  obtain ⟨v, bag2, ev2, hv, hb2⟩ := take_ok hb1 (many := L.length) l1 (by omega) (by omega)
  obtain ⟨A, x, y, Bt, e, hA⟩ := split_two (l := rk) (v := v) (by omega)
  have hc : rk.length ≤ cap := by show _ ≤ 1000000; omega
  have hg : (oRows cr)[s]? = some (dS rk, mv) := by unfold oRows; rw [List.getElem?_map, List.getElem?_eq_getElem hs', ← hr]; rfl
  have a1 : ixD (.lst ((oRows cr).map rowD)) (.int (s : Nat)) = .ok (.fro (rowD (dS rk, mv))) := ixD_ln (by rw [List.getElem?_map, hg]; rfl)
  have s1 : slD (dS rk) (some (v : Int)) (some ((v : Int) + 2)) = .ok (.fro (dS [x, y])) := slD_S hc (by
    rw [show ((v : Int) + 2) = ((v + 2 : Nat) : Int) by omega, cut_mid (by omega) (by omega)]
    subst e; subst hA; simp)
  have s2 : slD (dS rk) none (some (v : Int)) = .ok (.fro (dS A)) := slD_S hc (by
    rw [cut_to (by omega)]
    subst e; subst hA; simp)
  have s3 : slD (dS rk) (some ((v : Int) + 2)) none = .ok (.fro (dS Bt)) := slD_S hc (by
    rw [show ((v : Int) + 2) = ((v + 2 : Nat) : Int) by omega, cut_from (by omega)]
    subst e; subst hA; simp)
  have lA : A.length + 2 + Bt.length = rk.length := by rw [e]; simp; omega
  have d1 : addD (dS A) (.str (S [y, x])) = .ok (.fro (dS (A ++ [y, x]))) := addD_S (by show _ ≤ 1000000; simp; omega)
  have d2 : addD (dS (A ++ [y, x])) (dS Bt) = .ok (.fro (dS (A ++ [y, x] ++ Bt))) := addD_S (by show _ ≤ 1000000; simp; omega)
  have sx : ∀ q : D, setIx ((oRows cr).map rowD) (s : Int) q = .ok (((oRows cr).map rowD).set s q) := fun q => by
    unfold setIx
    rw [show ixN ((oRows cr).map rowD).length (s : Int) = some s by unfold ixN; rw [if_pos (by omega), if_pos (by simp; omega)]; rfl]
  have sub : ((rk.length : Int) - 1) = ((L.length : Nat) : Int) := by omega
  have ev1 : F__law_take [.bor bag, .fro (.int (cr.length : Nat))] = .ok (.fro (.int (s : Nat)), [.bor bag1, .fro (.int (cr.length : Nat))]) := by rw [N.l]; exact ev1
  have hset : ((oRows cr).map rowD).set s (D.tup [dS (A ++ [y, x] ++ Bt), .tup (mv.map dO)]) = (oRows (cr.set s (A ++ [y, x] ++ Bt, mv))).map rowD := by
    unfold oRows
    rw [List.map_set, List.map_set]; rfl
  refine ⟨cr.set s (A ++ [y, x] ++ Bt, mv), bag2, .fro (.int (s : Nat)), .fro (.int (v : Nat)), .fro (dS [y, x]), .fro (dS rk), .fro (.tup (mv.map dO)), ?_, ⟨FreeS.fro, FreeS.fro, FreeS.fro, FreeS.fro, FreeS.fro⟩, hb2, ⟨⟨fun r hr' => ?_, fun r hr' => ?_, fun r hr' => ?_⟩, by rw [List.length_set]; exact N.l⟩⟩
  · rw [← hset]
    simp [forT, L1__law_near, h4 _, h5 _, h6 _, h7 _, h8 _, h9 _, ev1, a1, rowD, hc, sub, ev2, s1, s2, s3, d1, d2, sx]
  · rcases List.mem_or_eq_of_mem_set hr' with z | z
    · exact N.o.pm r z
    · subst z
      refine List.Perm.trans ?_ hp
      show (A ++ [y, x] ++ Bt).Perm rk
      rw [e, List.append_assoc]
      exact List.Perm.append_left A (List.Perm.swap x y Bt)
  · rcases List.mem_or_eq_of_mem_set hr' with z | z
    · exact N.o.len r z
    · subst z; exact hlen
  · rcases List.mem_or_eq_of_mem_set hr' with z | z
    · exact N.o.mv r z
    · subst z
      have := N.o.mv _ (List.getElem_mem hs')
      rw [← hr] at this
      exact this
end K23
namespace K23
open PySem PySem.Spec PyProof.Rows L2 DL
open SX (S)
theorem near_ok {L : List Nat} (l : Let L) {m n : Nat} {bag : D} {cr : List ORow} (hm : 0 < m) (hm6 : m ≤ 6) (N : Nr L m cr) (B : Bag n bag) (hn : n ≤ 80000) :
    ∃ (cr' : List ORow) (bag' : D), F__law_near [.bor bag, .bor (.lst ((oRows cr).map rowD)), .fro (.int 3)] = .ok (.own (.lst ((oRows cr').map rowD)), [.bor bag', .bor (.lst ((oRows cr).map rowD)), .fro (.int 3)]) ∧ Nr L m cr' ∧ Bag (n + 9) bag' := by
  obtain ⟨t, bag1, ev, ht, hB⟩ := take_ok B (many := 4) (by decide) (by decide) (by omega)
  have ev : F__law_take [.bor bag, .fro (.int 4)] = .ok (.fro (.int (t : Nat)), [.bor bag1, .fro (.int 4)]) := ev
  obtain ⟨ds', e, c2, bag', z4, z5, z6, z7, z8, z9, k, rfl, f4, f5, f6, f7, f8, f9, hN, hk, hB2⟩ := for_ind (g := gN 4) (body := L1__law_near)
    (J := fun rest ds => ∃ (c2 : List ORow) (bag' : D) (z4 z5 z6 z7 z8 z9 : Sl) (k : Nat), ds = [.bor bag', .bor (.lst ((oRows cr).map rowD)), .fro (.int 3), .own (.lst ((oRows c2).map rowD)), z4, z5, z6, z7, z8, z9] ∧ FreeS z4 ∧ FreeS z5 ∧ FreeS z6 ∧ FreeS z7 ∧ FreeS z8 ∧ FreeS z9 ∧ Nr L m c2 ∧ k + rest.length = t ∧ Bag (n + 1 + k * 2) bag')
    (fun d r ds ⟨c2, bag', z4, z5, z6, z7, z8, z9, k, e, f4, f5, f6, f7, f8, f9, hN, hk, hB2⟩ => by
      subst e
      have hk : k + (r.length + 1) = t := hk
      obtain ⟨c3, bag2, x5, x6, x7, x8, x9, e, ⟨g5, g6, g7, g8, g9⟩, hb, hN3⟩ := near_turn l (d := d) (b1 := .lst ((oRows cr).map rowD)) (k := 3) hm hm6 hN hB2 (by omega) f4 f5 f6 f7 f8 f9
      exact ⟨_, e, c3, bag2, _, x5, x6, x7, x8, x9, k + 1, rfl, FreeS.fro, g5, g6, g7, g8, g9, hN3, by omega, hb.mono (by omega)⟩)
    (xs := rangeD 0 ((t : Int)).toNat) (ds := [.bor bag1, .bor (.lst ((oRows cr).map rowD)), .fro (.int 3), .own (.lst ((oRows cr).map rowD)), .no, .no, .no, .no, .no, .no])
    ⟨cr, bag1, .no, .no, .no, .no, .no, .no, 0, rfl, FreeS.no, FreeS.no, FreeS.no, FreeS.no, FreeS.no, FreeS.no, N, by rw [rangeD_len]; simp, by simpa using hB⟩
  have hk : k = t := by simpa using hk
  refine ⟨c2, bag', ?_, hN, hB2.mono (by omega)⟩
  have e : forGo (gN 4) L1__law_near (rangeD 0 t) [.bor bag1, .bor (.lst ((oRows cr).map rowD)), .fro (.int 3), .own (.lst ((oRows cr).map rowD)), .no, .no, .no, .no, .no, .no] = .nx [.bor bag', .bor (.lst ((oRows cr).map rowD)), .fro (.int 3), .own (.lst ((oRows c2).map rowD)), z4, z5, z6, z7, z8, z9] := e
  simp [F__law_near, m__law_near, ev, small_of (n := t) (by omega), e]
def Ls : List (List Nat) := [[97], [97, 98], [97, 98], [97, 98], [97, 98, 99], [98, 99, 122], [97, 120], [97, 98, 99, 100, 101, 102]]
theorem Ls_ok : ∀ L ∈ Ls, Let L := by
  have : ∀ L ∈ Ls, (L.Pairwise (· < ·)) ∧ (∀ c ∈ L, 97 ≤ c ∧ c ≤ 122) ∧ 1 ≤ L.length ∧ L.length ≤ 6 := by decide
  exact fun L h => let ⟨a, b, c, d⟩ := this L h; ⟨a, b, c, d⟩
theorem of_ok {n : Nat} {bag : D} (B : Bag n bag) (hn : n ≤ 90000) : ∃ (L : List Nat) (bag' : D), F__law_of [.bor bag, .own (.lst (Ls.map dS))] = .ok (.fro (dS L), [.bor bag', .own (.lst (Ls.map dS))]) ∧ Let L ∧ Bag (n + 1) bag' := by
  obtain ⟨v, bag', ev, hv, hB⟩ := take_ok B (many := 8) (by decide) (by decide) (by omega)
  have ev : F__law_take [.bor bag, .fro (.int 8)] = .ok (.fro (.int (v : Nat)), [.bor bag', .fro (.int 8)]) := ev
  have hv' : v < Ls.length := hv
  have a1 : ixD (.lst (Ls.map dS)) (.int (v : Nat)) = .ok (.fro (dS Ls[v])) := ixD_ln (by rw [List.getElem?_map, List.getElem?_eq_getElem hv']; rfl)
  have hl : (Ls.length : Int) = 8 := rfl
  exact ⟨Ls[v], bag', by simp [F__law_of, m__law_of, hl, ev, a1], Ls_ok _ (List.getElem_mem hv'), hB⟩
theorem zeros_ok {k : Nat} (h1 : 1 ≤ k) (h6 : k ≤ 6) : mulD2 (.tup [.int 0]) (.int (k : Nat)) = .ok (.fro (.tup ((List.replicate k (some 0)).map dO))) := by
  match k, h1, h6 with
  | 1, _, _ => rfl
  | 2, _, _ => rfl
  | 3, _, _ => rfl
  | 4, _, _ => rfl
  | 5, _, _ => rfl
  | 6, _, _ => rfl
structure LanW (L : List Nat) (lr : List LRow) : Prop where
  o : Lan0 L lr.length lr
  h1 : 1 ≤ lr.length
  h6 : lr.length ≤ 6
theorem strLs : [Str.ofString "a", Str.ofString "ab", Str.ofString "ab", Str.ofString "ab", Str.ofString "abc", Str.ofString "bcz", Str.ofString "ax", Str.ofString "abcdef"] = Ls.map S := by decide
theorem drawn_ok {n : Nat} {bag : D} (B : Bag n bag) (hn : n ≤ 70000) :
    ∃ (L : List Nat) (od nw : List ORow) (lr : List LRow) (bag' : D), F__law_drawn [.bor bag, .fro (.int 3)] = .ok (.fro (plainD L od nw lr), [.bor bag', .fro (.int 3)]) ∧ Let L ∧ Ord L od ∧ Ord L nw ∧ LanW L lr ∧ Bag (n + 300) bag' := by
  obtain ⟨L, bag1, e1, l, hB1⟩ := of_ok B (by omega)
  have l1 := l.l1
  have l6 := l.l6
  obtain ⟨mn, hmn⟩ : ∃ mn : Nat, mn = if L.length = 6 then 6 else 3 := ⟨_, rfl⟩
  have hm0 : 0 < mn := by rw [hmn]; split <;> decide
  have hm6 : mn ≤ 6 := by rw [hmn]; split <;> decide
  have st : ∀ b x y z w : Sl, eIf (tVal (e2 eqR (eCB lenD (aCons (eVar 2) aNil)) (eC (.int 6)))) (eC (.int 6)) (eVar 1) [b, .fro (.int 3), .fro (dS L), x, y, z, w] = .ok (.fro (.int (mn : Nat)), [b, .fro (.int 3), .fro (dS L), x, y, z, w]) := fun b x y z w => by
    have hc : L.length ≤ cap := by show _ ≤ 1000000; omega
    by_cases h : L.length = 6
    · rw [hmn, if_pos h]; simp [hc, h]
    · have h' : ¬ ((L.length : Nat) : Int) = 6 := by omega
      rw [hmn, if_neg h]; simp [hc, h']
  obtain ⟨v1, bag2, f2, hv1, hB2⟩ := take_ok hB1 (many := mn) hm0 (by omega) (by omega)
  obtain ⟨od, bag3, f3, lo, hO, hB3⟩ := order_ok l (many := 1 + v1) (by omega) (by omega) hB2 (by omega)
  have f3 : F__law_order [.bor bag2, .fro (dS L), .fro (.int (1 + (v1 : Int)))] = .ok (.own (.lst ((oRows od).map rowD)), [.bor bag3, .fro (dS L), .fro (.int (1 + (v1 : Int)))]) := by simpa using f3
  have zo := zeros_ok l1 l6
  obtain ⟨nw1, bag4, e4, hN, hB4⟩ := near_ok l (m := 1 + v1) (by omega) (by omega) ⟨hO, lo⟩ hB3 (by omega)
  obtain ⟨v5, bag5, e5, hv5, hB5⟩ := take_ok hB4 (many := 3) (by decide) (by decide) (by omega)
  have e5 : F__law_take [.bor bag4, .fro (.int 3)] = .ok (.fro (.int (v5 : Nat)), [.bor bag5, .fro (.int 3)]) := e5
  have O : Ord L od := (show Ord0 L od.length od by rw [lo]; exact hO).ord l (by omega) (by omega)
  have W1 : Ord L nw1 := (show Ord0 L nw1.length nw1 by rw [hN.l]; exact hN.o).ord l (by have := hN.l; omega) (by have := hN.l; omega)
  have hc : L.length ≤ cap := by show _ ≤ 1000000; omega
  obtain ⟨nw, bag6, s4, W, hB6⟩ : ∃ (nw : List ORow) (bag6 : D), (∀ y : D, sIf (tVal (e2 eqR (eCallV F__law_take (aCons (eVar 0) (aCons (eC (.int 3)) aNil))) (eC (.int 0)))) (sAsg 4 (eCallV F__law_order (aCons (eVar 0) (aCons (eVar 2) (aCons (e2 addD (eC (.int 1)) (eCallV F__law_take (aCons (eVar 0) (aCons (eVar 3) aNil)))) aNil))))) sNil
      [.bor bag4, .fro (.int 3), .fro (dS L), .fro (.int (mn : Nat)), .own (.lst ((oRows nw1).map rowD)), .own (.lst ((oRows od).map rowD)), .own y] = .nx [.bor bag6, .fro (.int 3), .fro (dS L), .fro (.int (mn : Nat)), .own (.lst ((oRows nw).map rowD)), .own (.lst ((oRows od).map rowD)), .own y]) ∧ Ord L nw ∧ Bag (n + 170) bag6 := by
    by_cases h0 : v5 = 0
    · subst h0
      obtain ⟨v6, bag6, e6, hv6, hB6⟩ := take_ok hB5 (many := mn) hm0 (by omega) (by omega)
      obtain ⟨nw, bag7, e7, lw, hW, hB7⟩ := order_ok l (many := 1 + v6) (by omega) (by omega) hB6 (by omega)
      have e7 : F__law_order [.bor bag6, .fro (dS L), .fro (.int (1 + (v6 : Int)))] = .ok (.own (.lst ((oRows nw).map rowD)), [.bor bag7, .fro (dS L), .fro (.int (1 + (v6 : Int)))]) := by simpa using e7
      refine ⟨nw, bag7, fun y => ?_, (show Ord0 L nw.length nw by rw [lw]; exact hW).ord l (by omega) (by omega), hB7.mono (by omega)⟩
      simp [e5, e6, e7]
    · refine ⟨nw1, bag5, fun y => ?_, W1, hB5.mono (by omega)⟩
      have h0' : ¬ ((v5 : Nat) : Int) = 0 := by omega
      simp [e5, h0]
  obtain ⟨lr, bag8, s5, hL, hB8⟩ : ∃ (lr : List LRow) (bag8 : D), sIf (tVal (e2 gtR (eCallV F__law_take (aCons (eVar 0) (aCons (eC (.int 3)) aNil))) (eC (.int 0)))) (sAsg 6 (eCallV F__law_language (aCons (eVar 0) (aCons (eVar 2) (aCons (e2 addD (eC (.int 1)) (eCallV F__law_take (aCons (eVar 0) (aCons (eVar 3) aNil)))) aNil))))) sNil
      [.bor bag6, .fro (.int 3), .fro (dS L), .fro (.int (mn : Nat)), .own (.lst ((oRows nw).map rowD)), .own (.lst ((oRows od).map rowD)), .own (.lst [.tup [.bl true, .tup (List.replicate L.length (.int 0))]])] = .nx [.bor bag8, .fro (.int 3), .fro (dS L), .fro (.int (mn : Nat)), .own (.lst ((oRows nw).map rowD)), .own (.lst ((oRows od).map rowD)), .own (.lst ((lRows lr).map rowD))] ∧ LanW L lr ∧ Bag (n + 300) bag8 := by
    obtain ⟨v7, bag7, e7, hv7, hB7⟩ := take_ok hB6 (many := 3) (by decide) (by decide) (by omega)
    have e7 : F__law_take [.bor bag6, .fro (.int 3)] = .ok (.fro (.int (v7 : Nat)), [.bor bag7, .fro (.int 3)]) := e7
    by_cases h0 : v7 = 0
    · subst h0
      refine ⟨[(true, List.replicate L.length (some 0))], bag7, ?_, ⟨⟨fun r hr => ?_, fun r hr k hk j hj => ?_⟩, by simp, by simp⟩, hB7.mono (by omega)⟩
      · simp [e7, lRows, rowD]
      · simp at hr; subst hr; simp
      · simp at hr; subst hr
        have := List.eq_of_mem_replicate hk
        rw [hj] at this; cases this; simp
    · obtain ⟨v8, bag8, e8, hv8, hB8⟩ := take_ok hB7 (many := mn) hm0 (by omega) (by omega)
      obtain ⟨lr, bag9, e9, ll, hL, hB9⟩ := language_ok l (many := 1 + v8) (by omega) (by omega) hB8 (by omega)
      have e9 : F__law_language [.bor bag8, .fro (dS L), .fro (.int (1 + (v8 : Int)))] = .ok (.own (.lst ((lRows lr).map rowD)), [.bor bag9, .fro (dS L), .fro (.int (1 + (v8 : Int)))]) := by simpa using e9
      refine ⟨lr, bag9, ?_, ⟨by rw [ll]; exact hL, by omega, by omega⟩, hB9.mono (by omega)⟩
      have h1 : 0 < v7 := by omega
      simp [e7, h1, e8, e9]
  refine ⟨L, od, nw, lr, bag8, ?_, l, O, W, hL, hB8⟩
  have e1 : F__law_of [.bor bag, .own (.lst [dS [97], dS [97, 98], dS [97, 98], dS [97, 98], dS [97, 98, 99], dS [98, 99, 122], dS [97, 120], dS [97, 98, 99, 100, 101, 102]])] = .ok (.fro (dS L), [.bor bag1, .own (.lst (Ls.map dS))]) := e1
  have q1 : Str.ofString "a" = S [97] := by decide
  have q2 : Str.ofString "ab" = S [97, 98] := by decide
  have q3 : Str.ofString "abc" = S [97, 98, 99] := by decide
  have q4 : Str.ofString "bcz" = S [98, 99, 122] := by decide
  have q5 : Str.ofString "ax" = S [97, 120] := by decide
  have q6 : Str.ofString "abcdef" = S [97, 98, 99, 100, 101, 102] := by decide
  have s4 := s4 (.lst [.tup [.bl true, .tup (List.replicate L.length (.int 0))]])
  simp [F__law_drawn, m__law_drawn, -eIf_eq, -sIf_eq, q1, q2, q3, q4, q5, q6, e1, st, f2, f3, zo, hc, e4, s4, s5, plainD]
end K23
namespace K23
open PySem PySem.Spec PyProof.Rows L2 DL
open SX (S)
def wO : Option Nat → List Nat
  | none => [45]
  | some k => [48 + k]
def Small (mv : List (Option Nat)) : Prop := ∀ k ∈ mv, ∀ j, k = some j → j < 6
theorem numL_dig {k : Nat} (h : k < 6) : TL.numL k = [48 + k] := by
  match k, h with
  | 0, _ => rfl
  | 1, _ => rfl
  | 2, _ => rfl
  | 3, _ => rfl
  | 4, _ => rfl
  | 5, _ => rfl
theorem strD_dig {k : Nat} (h : k < 6) : strD [.int (k : Nat)] = .ok (.fro (dS [48 + k])) := by
  have h1 : ((k : Int).natAbs.log2 < 1920) := by
    match k, h with
    | 0, _ => decide
    | 1, _ => decide
    | 2, _ => decide
    | 3, _ => decide
    | 4, _ => decide
    | 5, _ => decide
  show (if decide ((k : Int).natAbs.log2 < 1920) then R.ok (Rv.fro (D.str (Str.ofString (toString ((k : Nat) : Int))))) else .stuck) = _
  rw [decide_eq_true h1, SX.num_S, numL_dig h]; rfl
abbrev RW := List Nat × List (Option Nat)
def lineP (r : RW) : List Nat := TL.joinL [32] (r.1 :: r.2.map wO)
def textP (word L : List Nat) (rs : List RW) : List Nat := TL.joinL [10] ((word ++ [32] ++ L) :: rs.map lineP)
theorem joinL_len (sep : List Nat) : ∀ ps : List (List Nat), (TL.joinL sep ps).length ≤ (ps.map (·.length)).sum + ps.length * sep.length
  | [] => by simp [TL.joinL]
  | [p] => by simp [TL.joinL]
  | p :: q :: r => by
    have ih := joinL_len sep (q :: r)
    simp only [TL.joinL, List.length_append, List.map_cons, List.sum_cons, List.length_cons] at ih ⊢
    rw [Nat.add_mul]
    omega
theorem joinD_S {sep : List Nat} {ps : List (List Nat)} (h : (ps.map (·.length)).sum + ps.length * sep.length ≤ cap) : joinD (S sep) (.lst (ps.map fun p => .str (S p))) = .ok (.fro (dS (TL.joinL sep ps))) := by
  show (match strsOf (ps.map fun p => .str (S p)) with | some ys => joinS (S sep) ys | none => .stuck) = _
  rw [strsOf_map]
  show joinS (S sep) (ps.map fun p => S p) = _
  unfold joinS
  have e : (ps.map fun p => S p) = ps.map S := rfl
  rw [e, SX.lens, List.length_map, SX.S_len, if_pos h, SX.join_S]
section
variable {L : List Nat} {st : D}
theorem moves_words {mv : List (Option Nat)} (hs : Small mv) (hl : mv.length ≤ 1000) {a b c d e f g : Sl} : lcGo [7] (gN 7) tTrue E2__law_machine_lines (mv.map dO) [a, b, c, d, e, f, g, .no] [] = .ok (mv.map fun k => .str (S (wO k)), [a, b, c, d, e, f, g, .no]) :=
  lc_maps (fun k hk => by
    cases k with
    | none =>
      have q : Str.ofString "-" = S [45] := by decide
      simp [lcTurn, E2__law_machine_lines, q, wO]
    | some j =>
      have := strD_dig (hs _ hk j rfl)
      simp [lcTurn, E2__law_machine_lines, this, wO]) (by show _ ≤ 1000000; omega)
theorem sum_le {ps : List (List Nat)} {k : Nat} (h : ∀ p ∈ ps, p.length ≤ k) : (ps.map (·.length)).sum ≤ ps.length * k := by
  induction ps with
  | nil => simp
  | cons p ps ih =>
    have h1 := h p (List.mem_cons_self ..)
    have h2 := ih fun q hq => h q (List.mem_cons_of_mem _ hq)
    rw [List.map_cons, List.sum_cons, List.length_cons, Nat.add_mul]
    omega
theorem wO_len (k : Option Nat) : (wO k).length = 1 := by cases k <;> rfl
theorem lineP_fit {w : List Nat} {mv : List (Option Nat)} (hw : w.length ≤ 100) (hm : mv.length ≤ 100) : (((w :: mv.map wO).map (·.length)).sum + (w :: mv.map wO).length * 1) ≤ 1000 := by
  have := sum_le (ps := w :: mv.map wO) (k := 100)
  rw [List.map_cons, List.sum_cons]
  have h2 : ((mv.map wO).map (·.length)).sum ≤ mv.length := by
    have := sum_le (ps := mv.map wO) (k := 1) (fun p hp => by obtain ⟨k, _, rfl⟩ := List.mem_map.mp hp; rw [wO_len]; exact Nat.le_refl _)
    simpa using this
  simp
  simp at h2
  omega
def txD (ls : List (List Nat)) : List D := ls.map fun p => .str (S p)
@[simp] theorem txD_len {ls : List (List Nat)} : (txD ls).length = ls.length := by simp [txD]
theorem txD_snoc {ls : List (List Nat)} {p : List Nat} : txD ls ++ [.str (S p)] = txD (ls ++ [p]) := by simp [txD]
theorem line_turnO {w : List Nat} {mv : List (Option Nat)} {ls : List (List Nat)} {z4 z5 z6 : Sl} (hw : w.length ≤ 100) (hs : Small mv) (hm : mv.length ≤ 100) (hl : ls.length ≤ 1000) (h4 : FreeS z4) (h5 : FreeS z5) (h6 : FreeS z6) :
    forT (gTupD 2 (gsCons (gN 4) (gsCons (gN 5) gsNil))) L1__law_machine_lines (rowD (dS w, mv)) [.fro (.str "order"), .fro (dS L), .fro st, .own (.lst (txD ls)), z4, z5, z6, .no] =
      .nx [.fro (.str "order"), .fro (dS L), .fro st, .own (.lst (txD (ls ++ [lineP (w, mv)]))), .fro (dS w), .fro (.tup (mv.map dO)), .fro (dS w), .no] := by
  have q : Str.ofString " " = S [32] := by decide
  have apl : ls.length ≤ cap := by show _ ≤ 1000000; omega
  have fit := lineP_fit hw hm
  have jn := joinD_S (sep := [32]) (ps := w :: mv.map wO) (by show _ ≤ 1000000; simp at fit ⊢; omega)
  have ll : mv.length + 1 ≤ cap := by show _ ≤ 1000000; omega
  have ad : addD (.lst [dS w]) (.lst (mv.map fun k => .str (S (wO k)))) = .ok (.own (.lst (dS w :: mv.map fun k => .str (S (wO k))))) := addD_lst (by simp; show _ ≤ 1000000; omega)
  rw [List.map_cons, List.map_map] at jn
  have jn : joinD (S [32]) (.lst (dS w :: mv.map fun k => .str (S (wO k)))) = .ok (.fro (dS (lineP (w, mv)))) := jn
  simp [forT, L1__law_machine_lines, rowD, h4 _, h5 _, h6 _, q, moves_words hs (by omega), ad, jn, apl, txD_snoc]
end
section
variable {L : List Nat} {st : D}
def yesNo (b : Bool) : List Nat := if b then [121, 101, 115] else [110, 111]
theorem line_turnL {b : Bool} {mv : List (Option Nat)} {ls : List (List Nat)} {z4 z5 z6 : Sl} (hs : Small mv) (hm : mv.length ≤ 100) (hl : ls.length ≤ 1000) (h4 : FreeS z4) (h5 : FreeS z5) (h6 : FreeS z6) :
    forT (gTupD 2 (gsCons (gN 4) (gsCons (gN 5) gsNil))) L1__law_machine_lines (rowD (.bl b, mv)) [.fro (.str "language"), .fro (dS L), .fro st, .own (.lst (txD ls)), z4, z5, z6, .no] =
      .nx [.fro (.str "language"), .fro (dS L), .fro st, .own (.lst (txD (ls ++ [lineP (yesNo b, mv)]))), .fro (.bl b), .fro (.tup (mv.map dO)), .fro (dS (yesNo b)), .no] := by
  have q : Str.ofString " " = S [32] := by decide
  have q1 : Str.ofString "no" = S [110, 111] := by decide
  have q2 : Str.ofString "yes" = S [121, 101, 115] := by decide
  have q3 : ¬ (Str.ofString "language" = Str.ofString "order") := by decide
  have apl : ls.length ≤ cap := by show _ ≤ 1000000; omega
  have wl : (yesNo b).length ≤ 100 := by cases b <;> decide
  have fit := lineP_fit (mv := mv) wl hm
  have jn := joinD_S (sep := [32]) (ps := yesNo b :: mv.map wO) (by show _ ≤ 1000000; simp at fit ⊢; omega)
  have ll : mv.length + 1 ≤ cap := by show _ ≤ 1000000; omega
  have ad : addD (.lst [dS (yesNo b)]) (.lst (mv.map fun k => .str (S (wO k)))) = .ok (.own (.lst (dS (yesNo b) :: mv.map fun k => .str (S (wO k))))) := addD_lst (by simp; show _ ≤ 1000000; omega)
  rw [List.map_cons, List.map_map] at jn
  have jn : joinD (S [32]) (.lst (dS (yesNo b) :: mv.map fun k => .str (S (wO k)))) = .ok (.fro (dS (lineP (yesNo b, mv)))) := jn
  cases b with
  | true =>
    have ad : addD (.lst [dS [121, 101, 115]]) (.lst (mv.map fun k => .str (S (wO k)))) = .ok (.own (.lst (dS [121, 101, 115] :: mv.map fun k => .str (S (wO k))))) := ad
    have jn : joinD (S [32]) (.lst (dS [121, 101, 115] :: mv.map fun k => .str (S (wO k)))) = .ok (.fro (dS (lineP (yesNo true, mv)))) := jn
    have y : yesNo true = [121, 101, 115] := rfl
    simp [forT, L1__law_machine_lines, rowD, h4 _, h5 _, h6 _, q, q1, q2, q3, moves_words hs (by omega), ad, jn, apl, txD_snoc, y]
  | false =>
    have ad : addD (.lst [dS [110, 111]]) (.lst (mv.map fun k => .str (S (wO k)))) = .ok (.own (.lst (dS [110, 111] :: mv.map fun k => .str (S (wO k))))) := ad
    have jn : joinD (S [32]) (.lst (dS [110, 111] :: mv.map fun k => .str (S (wO k)))) = .ok (.fro (dS (lineP (yesNo false, mv)))) := jn
    have y : yesNo false = [110, 111] := rfl
    simp [forT, L1__law_machine_lines, rowD, h4 _, h5 _, h6 _, q, q1, q2, q3, moves_words hs (by omega), ad, jn, apl, txD_snoc, y]
theorem lineP_len {r : RW} (hw : r.1.length ≤ 100) (hm : r.2.length ≤ 100) : (lineP r).length ≤ 1000 := by
  have h1 := joinL_len [32] (r.1 :: r.2.map wO)
  have h2 := lineP_fit hw hm
  unfold lineP
  have e : [32].length = 1 := rfl
  rw [e] at h1
  omega
/-- the lines of a machine, by one turn a row -/
theorem lines_loop {word : D} {f : RW → MRow} {P : RW → Prop}
    (turn : ∀ {r : RW} {ls : List (List Nat)} {z4 z5 z6 : Sl}, P r → ls.length ≤ 1000 → FreeS z4 → FreeS z5 → FreeS z6 → ∃ x4 x5 x6, FreeS x4 ∧ FreeS x5 ∧ FreeS x6 ∧
      forT (gTupD 2 (gsCons (gN 4) (gsCons (gN 5) gsNil))) L1__law_machine_lines (rowD (f r)) [.fro word, .fro (dS L), .fro st, .own (.lst (txD ls)), z4, z5, z6, .no] = .nx [.fro word, .fro (dS L), .fro st, .own (.lst (txD (ls ++ [lineP r]))), x4, x5, x6, .no]) :
    ∀ {rs : List RW} {ls : List (List Nat)} {z4 z5 z6 : Sl}, (∀ r ∈ rs, P r) → ls.length + rs.length ≤ 1000 → FreeS z4 → FreeS z5 → FreeS z6 → ∃ x4 x5 x6,
      forGo (gTupD 2 (gsCons (gN 4) (gsCons (gN 5) gsNil))) L1__law_machine_lines (rs.map fun r => rowD (f r)) [.fro word, .fro (dS L), .fro st, .own (.lst (txD ls)), z4, z5, z6, .no] = .nx [.fro word, .fro (dS L), .fro st, .own (.lst (txD (ls ++ rs.map lineP))), x4, x5, x6, .no]
  | [], ls, z4, z5, z6, _, _, _, _, _ => ⟨z4, z5, z6, by simp⟩
  | r :: rs, ls, z4, z5, z6, hp, hl, h4, h5, h6 => by
    have hl : ls.length + (rs.length + 1) ≤ 1000 := hl
    obtain ⟨x4, x5, x6, f4, f5, f6, e⟩ := turn (ls := ls) (hp r (List.mem_cons_self ..)) (by omega) h4 h5 h6
    obtain ⟨y4, y5, y6, e2⟩ := lines_loop turn (rs := rs) (ls := ls ++ [lineP r]) (fun q hq => hp q (List.mem_cons_of_mem _ hq)) (by simp; omega) f4 f5 f6
    refine ⟨y4, y5, y6, ?_⟩
    rw [List.map_cons, forGo_turn e, e2]
    simp
theorem lines_fit {word : List Nat} {rs : List RW} (hw : word.length ≤ 100) (hL : L.length ≤ 100) (hr : rs.length ≤ 100) (hp : ∀ r ∈ rs, r.1.length ≤ 100 ∧ r.2.length ≤ 100) :
    ((((word ++ [32] ++ L) :: rs.map lineP).map (·.length)).sum + ((word ++ [32] ++ L) :: rs.map lineP).length * 1) ≤ cap := by
  have h := sum_le (ps := (word ++ [32] ++ L) :: rs.map lineP) (k := 1000) (fun p hp' => by
    rcases List.mem_cons.mp hp' with rfl | q
    · simp; omega
    · obtain ⟨r, hr, rfl⟩ := List.mem_map.mp q
      exact lineP_len (hp r hr).1 (hp r hr).2)
  show _ ≤ 1000000
  simp only [List.length_cons, List.length_map] at h ⊢
  omega
theorem linesO_ok {cr : List ORow} (hL : L.length ≤ 6) (hr : cr.length ≤ 6) (hp : ∀ r ∈ cr, r.1.length ≤ 7 ∧ r.2.length ≤ 6 ∧ Small r.2) :
    F__law_machine_lines [.fro (.str "order"), .fro (dS L), .fro (.lst ((oRows cr).map rowD))] = .ok (.fro (dS (textP [111, 114, 100, 101, 114] L cr)), [.fro (.str "order"), .fro (dS L), .fro (.lst ((oRows cr).map rowD))]) := by
  obtain ⟨x4, x5, x6, e⟩ := lines_loop (L := L) (st := .lst ((oRows cr).map rowD)) (word := .str "order") (f := fun r => (dS r.1, r.2)) (P := fun r => r.1.length ≤ 7 ∧ r.2.length ≤ 6 ∧ Small r.2)
    (fun {r} {ls} {z4} {z5} {z6} h hl h4 h5 h6 => ⟨_, _, _, FreeS.fro, FreeS.fro, FreeS.fro, line_turnO (by omega) h.2.2 (by omega) hl h4 h5 h6⟩)
    (rs := cr) (ls := [[111, 114, 100, 101, 114] ++ [32] ++ L]) (z4 := .no) (z5 := .no) (z6 := .no) hp (by simp; omega) FreeS.no FreeS.no FreeS.no
  have q : Str.ofString " " = S [32] := by decide
  have q0 : Str.ofString "\n" = S [10] := by decide
  have q1 : Str.ofString "order" = S [111, 114, 100, 101, 114] := by decide
  have fit := lines_fit (L := L) (word := [111, 114, 100, 101, 114]) (rs := cr) (by decide) (by omega) (by omega) (fun r h => ⟨by have := (hp r h).1; omega, by have := (hp r h).2.1; omega⟩)
  have jn := joinD_S (sep := [10]) fit
  have a1 : addD (.str (S [111, 114, 100, 101, 114])) (.str (S [32])) = .ok (.fro (dS [111, 114, 100, 101, 114, 32])) := rfl
  have a2 : addD (dS [111, 114, 100, 101, 114, 32]) (dS L) = .ok (.fro (dS ([111, 114, 100, 101, 114] ++ [32] ++ L))) := addD_S (by show _ ≤ 1000000; simp; omega)
  have e' : forGo (gTupD 2 (gsCons (gN 4) (gsCons (gN 5) gsNil))) L1__law_machine_lines ((oRows cr).map rowD) [.fro (.str "order"), .fro (dS L), .fro (.lst ((oRows cr).map rowD)), .own (.lst [dS ([111, 114, 100, 101, 114] ++ [32] ++ L)]), .no, .no, .no, .no] = .nx [.fro (.str "order"), .fro (dS L), .fro (.lst ((oRows cr).map rowD)), .own (.lst (txD (([111, 114, 100, 101, 114] ++ [32] ++ L) :: cr.map lineP))), x4, x5, x6, .no] := by
    have : (oRows cr).map rowD = cr.map fun r => rowD (dS r.1, r.2) := by simp [oRows]
    rw [this] at e ⊢
    exact e
  have jn : joinD (S [10]) (.lst (txD (([111, 114, 100, 101, 114] ++ [32] ++ L) :: cr.map lineP))) = .ok (.fro (dS (textP [111, 114, 100, 101, 114] L cr))) := jn
  rw [q1] at e' ⊢
  generalize [111, 114, 100, 101, 114] ++ [32] ++ L = H0 at a2 e' jn
  simp [F__law_machine_lines, m__law_machine_lines, q, q0, a1, a2, e', jn]
theorem linesL_ok {lr : List LRow} (hL : L.length ≤ 6) (hr : lr.length ≤ 6) (hp : ∀ r ∈ lr, r.2.length ≤ 6 ∧ Small r.2) :
    F__law_machine_lines [.fro (.str "language"), .fro (dS L), .fro (.lst ((lRows lr).map rowD))] = .ok (.fro (dS (textP [108, 97, 110, 103, 117, 97, 103, 101] L (lr.map fun r => (yesNo r.1, r.2)))), [.fro (.str "language"), .fro (dS L), .fro (.lst ((lRows lr).map rowD))]) := by
  have yl : ∀ b, (yesNo b).length ≤ 7 := fun b => by cases b <;> decide
  obtain ⟨x4, x5, x6, e⟩ := lines_loop (L := L) (st := .lst ((lRows lr).map rowD)) (word := .str "language") (f := fun r => (.bl (decide (r.1 = yesNo true)), r.2)) (P := fun r => (∃ b, r.1 = yesNo b) ∧ r.2.length ≤ 6 ∧ Small r.2)
    (fun {r} {ls} {z4} {z5} {z6} ⟨⟨b, hb⟩, h2, h3⟩ hl h4 h5 h6 => by
      obtain ⟨w, mv⟩ := r
      have hb : w = yesNo b := hb
      subst hb
      have eb : decide (yesNo b = yesNo true) = b := by cases b <;> decide
      have t := line_turnL (L := L) (st := .lst ((lRows lr).map rowD)) (b := b) h3 (by omega) hl h4 h5 h6
      exact ⟨_, _, _, FreeS.fro, FreeS.fro, FreeS.fro, by rw [← t]; simp only [eb]⟩)
    (rs := lr.map fun r => (yesNo r.1, r.2)) (ls := [[108, 97, 110, 103, 117, 97, 103, 101] ++ [32] ++ L]) (z4 := .no) (z5 := .no) (z6 := .no) (fun r h => by
      obtain ⟨q, hq, rfl⟩ := List.mem_map.mp h
      exact ⟨⟨_, rfl⟩, (hp q hq).1, (hp q hq).2⟩) (by simp; omega) FreeS.no FreeS.no FreeS.no
  have q : Str.ofString " " = S [32] := by decide
  have q0 : Str.ofString "\n" = S [10] := by decide
  have q1 : Str.ofString "language" = S [108, 97, 110, 103, 117, 97, 103, 101] := by decide
  have fit := lines_fit (L := L) (word := [108, 97, 110, 103, 117, 97, 103, 101]) (rs := lr.map fun r => (yesNo r.1, r.2)) (by decide) (by omega) (by simp; omega) (fun r h => by
    obtain ⟨q, hq, rfl⟩ := List.mem_map.mp h
    exact ⟨by have := yl q.1; show (yesNo q.1).length ≤ 100; omega, by have := (hp q hq).1; show q.2.length ≤ 100; omega⟩)
  have jn := joinD_S (sep := [10]) fit
  have a1 : addD (.str (S [108, 97, 110, 103, 117, 97, 103, 101])) (.str (S [32])) = .ok (.fro (dS [108, 97, 110, 103, 117, 97, 103, 101, 32])) := rfl
  have a2 : addD (dS [108, 97, 110, 103, 117, 97, 103, 101, 32]) (dS L) = .ok (.fro (dS ([108, 97, 110, 103, 117, 97, 103, 101] ++ [32] ++ L))) := addD_S (by show _ ≤ 1000000; simp; omega)
  have e' : forGo (gTupD 2 (gsCons (gN 4) (gsCons (gN 5) gsNil))) L1__law_machine_lines ((lRows lr).map rowD) [.fro (.str "language"), .fro (dS L), .fro (.lst ((lRows lr).map rowD)), .own (.lst [dS ([108, 97, 110, 103, 117, 97, 103, 101] ++ [32] ++ L)]), .no, .no, .no, .no] = .nx [.fro (.str "language"), .fro (dS L), .fro (.lst ((lRows lr).map rowD)), .own (.lst (txD (([108, 97, 110, 103, 117, 97, 103, 101] ++ [32] ++ L) :: (lr.map fun r => (yesNo r.1, r.2)).map lineP))), x4, x5, x6, .no] := by
    have : (lRows lr).map rowD = (lr.map fun r => (yesNo r.1, r.2)).map fun r => rowD (.bl (decide (r.1 = yesNo true)), r.2) := by
      simp only [lRows, List.map_map]
      refine List.map_congr_left fun r _ => ?_
      show rowD (.bl r.1, r.2) = rowD (.bl (decide (yesNo r.1 = yesNo true)), r.2)
      rw [show decide (yesNo r.1 = yesNo true) = r.1 by cases r.1 <;> decide]
    rw [← this] at e
    exact e
  have jn : joinD (S [10]) (.lst (txD (([108, 97, 110, 103, 117, 97, 103, 101] ++ [32] ++ L) :: (lr.map fun r => (yesNo r.1, r.2)).map lineP))) = .ok (.fro (dS (textP [108, 97, 110, 103, 117, 97, 103, 101] L (lr.map fun r => (yesNo r.1, r.2))))) := jn
  rw [q1] at e' ⊢
  generalize [108, 97, 110, 103, 117, 97, 103, 101] ++ [32] ++ L = H0 at a2 e' jn
  simp only [List.map_map] at e' jn ⊢
  simp [F__law_machine_lines, m__law_machine_lines, q, q0, a1, a2, e', jn]
end
end K23
namespace K23
open PySem PySem.Spec PyProof.Rows L2 DL
open SX (S)
theorem ixD_s0 {c : Nat} {l : List Nat} (h : l.length + 1 ≤ cap) : ixD (.str (S (c :: l))) (.int 0) = .ok (.fro (.str (S [c]))) := by
  show (if (S (c :: l)).length ≤ cap then match atI (S (c :: l)).cps.toList 0 with | some c => R.ok (Rv.fro (D.str ⟨#[c]⟩)) | none => .stuck else .stuck) = _
  rw [SX.S_len, if_pos (by simpa using h)]
  have : atI (S (c :: l)).cps.toList 0 = some c := atI_0
  rw [this]
theorem intD2_dig {k : Nat} (h : k < 10) : intD2 [.str (S [48 + k])] = .ok (.fro (.int (k : Nat))) := by
  have e : PySem.intText? (S [48 + k]) = some ((NumText.digitsVal [48 + k] : Nat) : Int) := SX.int_S (by simp; omega) (by simp) (by simp)
  have e2 : NumText.digitsVal [48 + k] = k := by
    have : ∀ k, k < 10 → NumText.digitsVal [48 + k] = k := by decide
    exact this k h
  rw [e2] at e
  show (match PySem.intText? (S [48 + k]) with | some n => if (S [48 + k]).length ≤ 640 then R.ok (Rv.fro (D.int n)) else .stuck | none => .stuck) = _
  rw [e]
  show (if (S [48 + k]).length ≤ 640 then _ else _) = _
  rw [SX.S_len, if_pos (by simp)]
theorem num_dig {k : Nat} (h : k < 6) (b : Bool) : FK_number_in [.fro (dS [48 + k]), .fro (.bl b)] = .ok (.fro (.tup [.int (k : Nat)]), [.fro (dS [48 + k]), .fro (.bl b)]) := by
  have q : Str.ofString "0123456789" = S [48, 49, 50, 51, 52, 53, 54, 55, 56, 57] := by decide
  have q0 : Str.ofString "0" = S [48] := by decide
  have q1 : Str.ofString "-" = S [45] := by decide
  have n1 : ¬ (S [48 + k] = S [45]) := fun e => by have := SX.S_inj e; simp at this; omega
  have it := intD2_dig (k := k) (by omega)
  have i0 := ixD_s0 (c := 48 + k) (l := []) cap_1
  have e := lc_maps (vs := [2]) (g := gN 2) (t := tTrue) (elt := E1_number_in) (h := fun c => .str (S [c])) (f := fun c => D.bl (decide (c ∈ [48, 49, 50, 51, 52, 53, 54, 55, 56, 57]))) (ds := [.fro (dS [48 + k]), .fro (.bl b), .no]) (xs := [48 + k]) (fun c _ => by
    simp [lcTurn, E1_number_in, q, inR_one]) cap_1
  have hin : 48 + k ∈ [48, 49, 50, 51, 52, 53, 54, 55, 56, 57] := by
    have : k = 0 ∨ k = 1 ∨ k = 2 ∨ k = 3 ∨ k = 4 ∨ k = 5 := by omega
    rcases this with rfl | rfl | rfl | rfl | rfl | rfl <;> decide
  have e : lcGo [2] (gN 2) tTrue E1_number_in [.str (S [48 + k])] [.fro (dS [48 + k]), .fro (.bl b), .no] [] = .ok ([.bl true], [.fro (dS [48 + k]), .fro (.bl b), .no]) := by
    rw [show ([48 + k].map fun c => D.bl (decide (c ∈ [48, 49, 50, 51, 52, 53, 54, 55, 56, 57]))) = [.bl true] by simp only [List.map_cons, List.map_nil, decide_eq_true hin]] at e
    exact e
  have al : allD [.lst [.bl true]] = .ok (.fro (.bl true)) := rfl
  by_cases hk : k = 0
  · subst hk
    have it : intD2 [.str (S [48])] = .ok (.fro (.int 0)) := it
    cases b <;> simp [FK_number_in, m_number_in, q0, q1, n1, e, al, i0, it]
  · have n2 : ¬ (S [48 + k] = S [48]) := fun e => by have := SX.S_inj e; simp at this; omega
    cases b <;> simp [FK_number_in, m_number_in, q0, q1, n1, n2, e, al, i0, it]
theorem num_gap : FK_number_in [.fro (dS [45]), .fro (.bl true)] = .ok (.fro (.tup [.non]), [.fro (dS [45]), .fro (.bl true)]) := by
  have q1 : Str.ofString "-" = S [45] := by decide
  simp [FK_number_in, m_number_in, q1]
def oP : Option Nat → PyData
  | none => .none
  | some k => .int k
theorem toPy_dO (k : Option Nat) : toPy (dO k) = some (oP k) := by cases k <;> rfl
theorem toPys_tups : ∀ mv : List (Option Nat), toPys (mv.map fun k => D.tup [dO k]) = some (mv.map fun k => PyData.tuple [oP k])
  | [] => rfl
  | k :: mv => by
    have h1 : toPy (D.tup [dO k]) = some (.tuple [oP k]) := by
      show (toPys [dO k]).map PyData.tuple = _
      have : toPys [dO k] = some [oP k] := by
        show (match toPy (dO k), toPys [] with | some p, some ps => some (p :: ps) | _, _ => none) = _
        rw [toPy_dO]; rfl
      rw [this]; rfl
    show (match toPy (D.tup [dO k]), toPys (mv.map fun k => D.tup [dO k]) with | some p, some ps => some (p :: ps) | _, _ => none) = _
    rw [h1, toPys_tups mv]; rfl
theorem lay_tups : ∀ mv : List (Option Nat), PyData.canLayAll0 (mv.map fun k => PyData.tuple [oP k]) = true
  | [] => by simp [PyData.canLayAll0]
  | k :: mv => by
    rw [List.map_cons, PyData.canLayAll0, lay_tups mv]
    cases k <;> simp [PyData.canLay0, PyData.canLayAll0, oP]
theorem depth_tups : ∀ mv : List (Option Nat), PyData.depthAll (mv.map fun k => PyData.tuple [oP k]) ≤ 1
  | [] => by simp [PyData.depthAll]
  | k :: mv => by
    have := depth_tups mv
    rw [List.map_cons, PyData.depthAll]
    have h1 : (PyData.tuple [oP k]).depth ≤ 1 := by cases k <;> simp [PyData.depth, PyData.depthAll, oP]
    omega
theorem noUnit (mv : List (Option Nat)) : inR false (.tup []) (.lst (mv.map fun k => D.tup [dO k])) = .ok (.fro (.bl false)) := by
  have h1 : inFlat (.tup []) (mv.map fun k => D.tup [dO k]) = none := rfl
  have h2 : inDeep (.tup []) (mv.map fun k => D.tup [dO k]) = some false := by
    have e : inDeep (.tup []) (mv.map fun k => D.tup [dO k]) = (match toPy (.tup []), toPys (mv.map fun k => D.tup [dO k]) with
      | some p, some ps => if SeqAt.shaped p && SeqAt.shaped (.list ps) then some (ps.any fun z => PyData.eqv z p) else none
      | _, _ => none) := rfl
    rw [e, toPys_tups]
    show (if SeqAt.shaped (.tuple []) && SeqAt.shaped (.list (mv.map fun k => PyData.tuple [oP k])) then some ((mv.map fun k => PyData.tuple [oP k]).any fun z => PyData.eqv z (.tuple [])) else none) = _
    have s1 : SeqAt.shaped (.tuple []) = true := by
      unfold SeqAt.shaped
      rw [show PyData.canLay0 (.tuple []) = true by simp [PyData.canLay0, PyData.canLayAll0], decide_eq_true (by simp [PyData.depth, PyData.depthAll])]; rfl
    have s2 : SeqAt.shaped (.list (mv.map fun k => PyData.tuple [oP k])) = true := by
      unfold SeqAt.shaped
      rw [show PyData.canLay0 (.list (mv.map fun k => PyData.tuple [oP k])) = true by rw [PyData.canLay0]; exact lay_tups mv, decide_eq_true (by rw [PyData.depth]; have := depth_tups mv; omega)]; rfl
    rw [s1, s2]
    simp [PyData.eqv, PyData.eqvAll]
  unfold DL.inR DL.inD
  dsimp only
  rw [h1]
  dsimp only
  rw [h2]; rfl
theorem moves_ok {L : List Nat} {mv : List (Option Nat)} {b : Bool} (hs : Small mv) (hl : mv.length = L.length) (h6 : L.length ≤ 6) (hb : b = false → ∀ k ∈ mv, k ≠ none) :
    FK_moves_in [.fro (.lst (txD (mv.map wO))), .fro (dS L), .fro (.bl b)] = .ok (.fro (.tup (mv.map dO)), [.fro (.lst (txD (mv.map wO))), .fro (dS L), .fro (.bl b)]) := by
  have tx : txD (mv.map wO) = mv.map fun k => .str (S (wO k)) := by simp [txD]
  have c1 : mv.length ≤ cap := by show _ ≤ 1000000; omega
  have c2 : L.length ≤ cap := by show _ ≤ 1000000; omega
  have e1 : lcGo [4] (gN 4) tTrue E1_moves_in (mv.map fun k => .str (S (wO k))) [.fro (.lst (mv.map fun k => .str (S (wO k)))), .fro (dS L), .fro (.bl b), .no, .no, .no] [] = .ok (mv.map fun k => .tup [dO k], [.fro (.lst (mv.map fun k => .str (S (wO k)))), .fro (dS L), .fro (.bl b), .no, .no, .no]) :=
    lc_maps (fun k hk => by
      cases k with
      | none =>
        cases b with
        | true => simp [lcTurn, E1_moves_in, wO, num_gap]
        | false => exact absurd rfl (hb rfl _ hk)
      | some j =>
        have := num_dig (hs _ hk j rfl) b
        simp [lcTurn, E1_moves_in, wO, this]) c1
  have nu := noUnit mv
  have e2 : ∀ x : Sl, lcGo [5] (gTupD 1 (gsCons (gN 5) gsNil)) tTrue E2_moves_in (mv.map fun k => .tup [dO k]) [.fro (.lst (mv.map fun k => .str (S (wO k)))), .fro (dS L), .fro (.bl b), x, .no, .no] [] = .ok (mv.map fun k => dO k, [.fro (.lst (mv.map fun k => .str (S (wO k)))), .fro (dS L), .fro (.bl b), x, .no, .no]) := fun x =>
    lc_maps (fun k hk => by simp [lcTurn, E2_moves_in]) c1
  have hle : ((mv.length : Nat) : Int) = (L.length : Nat) := by rw [hl]
  rw [tx]
  simp [FK_moves_in, m_moves_in, e1, nu, e2, hl, c2]
end K23
namespace K23
open PySem PySem.Spec PyProof.Rows L2 DL
open SX (S)
theorem lt_one {a b : Nat} : ((S [a]).cps.toList < (S [b]).cps.toList) ↔ a < b := by
  show ([a] < [b]) ↔ a < b
  simp [List.cons_lt_cons_iff]
theorem leR_one {a b : Nat} : leR (.str (S [a])) (.str (S [b])) = .ok (.fro (.bl (decide (a ≤ b)))) := by
  show R.ok (Rv.fro (D.bl (!decide ((S [b]).cps.toList < (S [a]).cps.toList)))) = _
  rw [decide_eq_decide.mpr (lt_one (a := b) (b := a))]
  by_cases h : a ≤ b
  · rw [decide_eq_true h, decide_eq_false (by omega)]; rfl
  · rw [decide_eq_false h, decide_eq_true (by omega)]; rfl
theorem ltR_one {a b : Nat} : ltR (.str (S [a])) (.str (S [b])) = .ok (.fro (.bl (decide (a < b)))) := by
  show R.ok (Rv.fro (D.bl (decide ((S [a]).cps.toList < (S [b]).cps.toList)))) = _
  rw [decide_eq_decide.mpr lt_one]
theorem pairs_ch {l m : List Nat} : pairsD (l.map fun c => D.str (S [c])) (m.map fun c => D.str (S [c])) = (l.zip m).map fun p => D.tup [.str (S [p.1]), .str (S [p.2])] := by
  unfold pairsD
  rw [List.zip, List.map_zipWith, List.zipWith_map]
theorem asc_zip : ∀ {l : List Nat}, l.Pairwise (· < ·) → ∀ p ∈ l.zip (l.drop 1), p.1 < p.2
  | [], _, p, h => by simp at h
  | [a], _, p, h => by simp at h
  | a :: b :: l, h, p, hp => by
    have hp : p ∈ (a, b) :: (b :: l).zip l := hp
    rcases List.mem_cons.mp hp with rfl | q
    · exact (List.pairwise_cons.mp h).1 b (List.mem_cons_self ..)
    · exact asc_zip (l := b :: l) (List.pairwise_cons.mp h).2 p (by simpa using q)
theorem is_letters_ok {L : List Nat} (l : Let L) : F_is_letters [.fro (dS L)] = .ok (.fro (.bl true), [.fro (dS L)]) := by
  have l1 := l.l1
  have l6 := l.l6
  have q1 : Str.ofString "a" = S [97] := by decide
  have q2 : Str.ofString "z" = S [122] := by decide
  have c1 : L.length ≤ cap := by show _ ≤ 1000000; omega
  have e1 : ∀ x y : Sl, lcGo [1] (gN 1) tTrue E1_is_letters (L.map fun c => .str (S [c])) [.fro (dS L), .no, x, y] [] = .ok (L.map fun c => .bl (decide (97 ≤ c) && decide (c ≤ 122)), [.fro (dS L), .no, x, y]) := fun x y =>
    lc_maps (fun c hc => by
      by_cases h : 97 ≤ c
      · simp [lcTurn, E1_is_letters, q1, q2, leR_one, h]
      · simp [lcTurn, E1_is_letters, q1, q2, leR_one, h]) c1
  have a1 : (L.all fun c => decide (97 ≤ c) && decide (c ≤ 122)) = true := by
    rw [List.all_eq_true]; intro c hc; have := l.rng c hc; simp [this.1, this.2]
  have s1 : slD (dS L) (some 1) none = .ok (.fro (dS (L.drop 1))) := slD_S c1 (cut_from (i := 1) l1)
  have e2 : lcGo [2, 3] (gTupD 2 (gsCons (gN 2) (gsCons (gN 3) gsNil))) tTrue E2_is_letters ((L.zip (L.drop 1)).map fun p => D.tup [.str (S [p.1]), .str (S [p.2])]) [.fro (dS L), .no, .no, .no] [] = .ok ((L.zip (L.drop 1)).map fun p => .bl (decide (p.1 < p.2)), [.fro (dS L), .no, .no, .no]) :=
    lc_maps (fun p hp => by simp [lcTurn, E2_is_letters, ltR_one]) (by rw [List.length_zip]; exact Nat.le_trans (Nat.min_le_left _ _) c1)
  have a2 : ((L.zip (L.drop 1)).all fun p => decide (p.1 < p.2)) = true := by
    rw [List.all_eq_true]; intro p hp; exact decide_eq_true (asc_zip l.asc p hp)
  have m1 : (1 : Int) ≤ (L.length : Nat) := by omega
  have m2 : ((L.length : Nat) : Int) ≤ 6 := by omega
  have al1 := allD_map (xs := L) (p := fun c => decide (97 ≤ c) && decide (c ≤ 122))
  have al2 := allD_map (xs := L.zip (L.drop 1)) (p := fun p => decide (p.1 < p.2))
  rw [a1] at al1
  rw [a2] at al2
  have pz := pairs_ch (l := L) (m := L.drop 1)
  simp only [F_is_letters, m_is_letters, fnN_eq, fnB_eq]
  generalize hM : (L.zip (L.drop 1)) = M at e2 a2 al2 pz
  generalize hM2 : L.drop 1 = M2 at s1 pz
  simp [c1, m1, m2, e1, al1, s1, pz, e2, al2, -allD_map]
@[simp] theorem splitD_S {a : List Nat} {c : Nat} (hc : c < 256) (hl : a.length ≤ cap) : splitD (S a) (.str (S [c])) = .ok (.own (.lst (txD (TL.spl [c] 0 [] a)))) := by
  show (if !((S [c]).length == 0) && decide ((S a).length ≤ cap) then R.ok (Rv.own (D.lst ((Txt.split (S a) (S [c])).map D.str))) else .stuck) = _
  rw [SX.S_len, SX.S_len, decide_eq_true hl, SX.split_S (by simp) (by simp [hc])]
  simp [txD]
theorem spl_join1 {c : Nat} {ps : List (List Nat)} (hne : ps ≠ []) (h : ∀ p ∈ ps, c ∉ p) : TL.spl [c] 0 [] (TL.joinL [c] ps) = ps := SX.spl_join (sep := []) hne h
theorem mem_joinL {c s : Nat} : ∀ {ps : List (List Nat)}, c ∈ TL.joinL [s] ps → c = s ∨ ∃ p ∈ ps, c ∈ p
  | [], h => by cases h
  | [p], h => .inr ⟨p, by simp, h⟩
  | p :: q :: r, h => by
    simp only [TL.joinL, List.mem_append, List.mem_singleton] at h
    rcases h with h | h | h
    · exact .inr ⟨p, by simp, h⟩
    · exact .inl h
    · rcases mem_joinL h with z | ⟨x, hx, z⟩
      · exact .inl z
      · exact .inr ⟨x, List.mem_cons_of_mem _ hx, z⟩
/-- the words of a row: no blank, no line feed -/
def Clean (w : List Nat) : Prop := ∀ c ∈ w, c ≠ 32 ∧ c ≠ 10
theorem wO_clean {k : Option Nat} : Clean (wO k) := fun c hc => by
  cases k with
  | none => simp [wO] at hc; omega
  | some j => simp [wO] at hc; omega
theorem lineP_words {r : RW} (h : Clean r.1) : TL.spl [32] 0 [] (lineP r) = r.1 :: r.2.map wO := spl_join1 (by simp) (fun p hp => by
  rcases List.mem_cons.mp hp with rfl | q
  · exact fun m => (h _ m).1 rfl
  · obtain ⟨k, _, rfl⟩ := List.mem_map.mp q
    exact fun m => (wO_clean _ m).1 rfl)
theorem lineP_clean {r : RW} (h : Clean r.1) : 10 ∉ lineP r := fun m => by
  rcases mem_joinL m with z | ⟨p, hp, z⟩
  · cases z
  · rcases List.mem_cons.mp hp with rfl | q
    · exact (h _ z).2 rfl
    · obtain ⟨k, _, rfl⟩ := List.mem_map.mp q
      exact (wO_clean _ z).2 rfl
theorem head_words {word L : List Nat} (hw : Clean word) (l : Let L) : TL.spl [32] 0 [] (word ++ [32] ++ L) = [word, L] := by
  have : word ++ [32] ++ L = TL.joinL [32] [word, L] := by simp [TL.joinL]
  rw [this]
  refine spl_join1 (by simp) fun p hp => ?_
  simp at hp
  rcases hp with rfl | rfl
  · exact fun m => (hw _ m).1 rfl
  · exact fun m => by have := l.rng _ m; omega
theorem text_lines {word L : List Nat} {rs : List RW} (hw : Clean word) (l : Let L) (hr : ∀ r ∈ rs, Clean r.1) : TL.spl [10] 0 [] (textP word L rs) = (word ++ [32] ++ L) :: rs.map lineP := spl_join1 (by simp) (fun p hp => by
  rcases List.mem_cons.mp hp with rfl | q
  · intro m
    simp at m
    rcases m with m | m
    · exact (hw _ m).2 rfl
    · have := l.rng _ m; omega
  · obtain ⟨r, h, rfl⟩ := List.mem_map.mp q
    exact lineP_clean (hr r h))
/-- the rows of words -/
def wrowD (r : RW) : D := .lst (txD (r.1 :: r.2.map wO))
theorem lines_in_ok {word L : List Nat} {rs : List RW} (hw : Clean word) (l : Let L) (hr : ∀ r ∈ rs, Clean r.1) (wl : word.length ≤ 100) (rl : rs.length ≤ 100) (hp : ∀ r ∈ rs, r.1.length ≤ 100 ∧ r.2.length ≤ 100) :
    F_lines_in [.fro (dS (textP word L rs)), .fro (dS word)] = .ok (.fro (.tup [dS L, .lst (rs.map wrowD)]), [.fro (dS (textP word L rs)), .fro (dS word)]) := by
  have l6 := l.l6
  have q : Str.ofString " " = S [32] := by decide
  have q0 : Str.ofString "\n" = S [10] := by decide
  have fit := lines_fit (L := L) (word := word) (rs := rs) wl (by omega) rl hp
  have tl : (textP word L rs).length ≤ cap := by
    have := joinL_len [10] ((word ++ [32] ++ L) :: rs.map lineP)
    have e : [10].length = 1 := rfl
    rw [e] at this
    exact Nat.le_trans this fit
  have sp : splitD (S (textP word L rs)) (.str (S [10])) = .ok (.own (.lst (((word ++ [32] ++ L) :: rs.map lineP).map fun p => .str (S p)))) := by
    rw [splitD_S (by decide) tl, text_lines hw l hr]; rfl
  have e1 : ∀ x y : Sl, lcGo [4] (gN 4) tTrue E1_lines_in (((word ++ [32] ++ L) :: rs.map lineP).map fun p => .str (S p)) [.fro (dS (textP word L rs)), .fro (dS word), x, y, .no] [] = .ok (((word ++ [32] ++ L) :: rs.map lineP).map fun p => .lst (txD (TL.spl [32] 0 [] p)), [.fro (dS (textP word L rs)), .fro (dS word), x, y, .no]) := fun x y =>
    lc_maps (fun p hp' => by
      have pl : p.length ≤ cap := by
        rcases List.mem_cons.mp hp' with rfl | q
        · show _ ≤ 1000000; simp; omega
        · obtain ⟨r, h, rfl⟩ := List.mem_map.mp q
          have := lineP_len (hp r h).1 (hp r h).2
          show _ ≤ 1000000; omega
      simp [lcTurn, E1_lines_in, q, pl]) (by simp; show _ ≤ 1000000; omega)
  have e2 : (((word ++ [32] ++ L) :: rs.map lineP).map fun p => D.lst (txD (TL.spl [32] 0 [] p))) = .lst [dS word, dS L] :: rs.map wrowD := by
    rw [List.map_cons, head_words hw l, List.map_map]
    refine congrArg (fun t => D.lst [dS word, dS L] :: t) (List.map_congr_left fun r h => ?_)
    show D.lst (txD (TL.spl [32] 0 [] (lineP r))) = _
    rw [lineP_words (hr r h)]; rfl
  rw [e2] at e1
  have il := is_letters_ok l
  generalize hls : ((word ++ [32] ++ L) :: rs.map lineP).map (fun p => D.str (S p)) = ls at e1 sp
  have gs : ∀ ds : DS, gStarD 2 1 (gsCons (gN 2) (gsCons (gN 3) gsNil)) (.lst (.lst [dS word, dS L] :: rs.map wrowD)) ds = gsCons (gN 2) (gsCons (gN 3) gsNil) [.lst [dS word, dS L], .lst (rs.map wrowD)] ds := fun ds => by
    show (if decide (2 ≤ (D.lst [dS word, dS L] :: rs.map wrowD).length + 1) && decide ((D.lst [dS word, dS L] :: rs.map wrowD).length ≤ 16384) then _ else _) = _
    rw [if_pos (by rw [decide_eq_true (by simp), decide_eq_true (by simp; omega)]; rfl)]
    simp
    rw [List.take_of_length_le (by simp), List.drop_eq_nil_of_le (by simp)]
  simp [F_lines_in, m_lines_in, q0, sp, e1, gs, il]
end K23
namespace K23
open PySem PySem.Spec PyProof.Rows L2 DL
open SX (S)
theorem le_code {a b : Nat} : PySem.W.dataLe false (fun c => PyData.str ⟨#[c]⟩) a b = decide (a ≤ b) := by
  have e : PySem.W.dataLe false (fun c => PyData.str ⟨#[c]⟩) a b = !PySem.W.dataLt (.str (S [b])) (.str (S [a])) := rfl
  rw [e, PySem.W.dataLt_str, decide_eq_decide.mpr (lt_one (a := b) (b := a))]
  by_cases h : a ≤ b
  · rw [decide_eq_true h, decide_eq_false (by omega)]; rfl
  · rw [decide_eq_false h, decide_eq_true (by omega)]; rfl
theorem sortC_pw (l : List Nat) : (sortC l).Pairwise (· ≤ ·) := by
  have := List.pairwise_mergeSort (le := PySem.W.dataLe false fun c => PyData.str ⟨#[c]⟩) (fun a b c h1 h2 => by
    rw [le_code, decide_eq_true_eq] at *; omega) (fun a b => by
    rw [le_code, le_code]
    by_cases h : a ≤ b
    · simp [h]
    · simp [h]; omega) l
  exact this.imp fun {a b} h => by rw [le_code, decide_eq_true_eq] at h; exact h
theorem sortC_perm {a b : List Nat} (h : a.Perm b) : sortC a = sortC b :=
  List.Perm.eq_of_pairwise (fun x y _ _ h1 h2 => Nat.le_antisymm h1 h2) (sortC_pw a) (sortC_pw b) (((List.mergeSort_perm a _).trans h).trans (List.mergeSort_perm b _).symm)
theorem sortedD_S {a : List Nat} (h : a.length ≤ cap) : sortedD [.str (S a)] = .ok (.own (.lst (chD (sortC a)))) := by
  show (if (S a).length ≤ cap then R.ok (Rv.own (D.lst ((sortC (S a).cps.toList).map fun c => .str ⟨#[c]⟩))) else .stuck) = _
  rw [SX.S_len, if_pos h]; rfl
theorem sortC_lo {l : List Nat} (h : Lo l) : Lo (sortC l) := fun c hc => h c ((List.mergeSort_perm l _).mem_iff.mp hc)
theorem eqR_chD {l m : List Nat} (hl : Lo l) (hm : Lo m) : eqR (.lst (chD l)) (.lst (chD m)) = .ok (.fro (.bl (decide (l = m)))) := eqR_ch hl hm
theorem neR_chD2 {l m : List Nat} (hl : Lo l) (hm : Lo m) : neR (.lst (chD l)) (.lst (chD m)) = .ok (.fro (.bl (!decide (l = m)))) := neR_ch hl hm
section
variable {L : List Nat}
theorem rk_lo {L rk : List Nat} (l : Let L) (hp : rk.Perm (L ++ [46])) : Lo rk := fun c hc => by
  rcases List.mem_append.mp (hp.mem_iff.mp hc) with z | z
  · exact l.lo c z
  · simp at z; omega
theorem dot_lo {L : List Nat} (l : Let L) : Lo (L ++ [46]) := rk_lo l (List.Perm.refl _)
/-- sorted(ranking) == sorted(letters + END) -/
theorem sort_eq {rk : List Nat} (l : Let L) (hp : rk.Perm (L ++ [46])) : eqR (.lst (chD (sortC rk))) (.lst (chD (sortC (L ++ [46])))) = .ok (.fro (.bl true)) := by
  rw [eqR_chD (sortC_lo (rk_lo l hp)) (sortC_lo (dot_lo l)), sortC_perm hp]
  simp
theorem sort_ne {rk : List Nat} (l : Let L) (hp : rk.Perm (L ++ [46])) : neR (.lst (chD (sortC rk))) (.lst (chD (sortC (L ++ [46])))) = .ok (.fro (.bl false)) := by
  rw [neR_chD2 (sortC_lo (rk_lo l hp)) (sortC_lo (dot_lo l)), sortC_perm hp]
  simp
theorem rk_len {rk : List Nat} (hp : rk.Perm (L ++ [46])) : rk.length = L.length + 1 := by rw [hp.length_eq]; simp
theorem is_move1 {rows : List MRow} {k : Nat} (hk : k < rows.length) (h6 : rows.length ≤ 6) : F_Machine_is_move [.bor (colD L rows), .fro (.int (k : Nat))] = .ok (.fro (.bl true), [.bor (colD L rows), .fro (.int (k : Nat))]) := by
  have h0 : (0 : Int) ≤ (k : Nat) := by omega
  have h1 : ((k : Nat) : Int) < (rows.length : Nat) := by omega
  have ii : F_is_integer [.fro (.int (k : Nat))] = .ok (.fro (.bl true), [.fro (.int (k : Nat))]) := by simp [F_is_integer, m_is_integer]
  simp [F_Machine_is_move, m_Machine_is_move, ii, hk]
theorem is_move2 {rows : List MRow} {k : Nat} (hk : k < rows.length) (h6 : rows.length ≤ 6) : F_Machine_is_move [.bor (lan0 L rows), .fro (.int (k : Nat))] = .ok (.fro (.bl true), [.bor (lan0 L rows), .fro (.int (k : Nat))]) := by
  have ii : F_is_integer [.fro (.int (k : Nat))] = .ok (.fro (.bl true), [.fro (.int (k : Nat))]) := by simp [F_is_integer, m_is_integer]
  simp [F_Machine_is_move, m_Machine_is_move, ii, hk]
@[simp] theorem insOf_lan0 {rows : List MRow} : insOf [2] (lan0 L rows) = .ok (["own_letters", "own_states"], [dS L, .tup (rows.map rowD)]) := rfl
@[simp] theorem insOf_col {rows : List MRow} : insOf [1] (colD L rows) = .ok (["own_letters", "own_states"], [dS L, .tup (rows.map rowD)]) := rfl
theorem is_moveL {rows : List MRow} {k : Option Nat} (hk : ∀ j, k = some j → j < rows.length) (h6 : rows.length ≤ 6) : F_Language_is_move [.bor (lan0 L rows), .fro (dO k)] = .ok (.fro (.bl true), [.bor (lan0 L rows), .fro (dO k)]) := by
  cases k with
  | none => simp [F_Language_is_move, m_Language_is_move]
  | some j =>
    have := is_move2 (L := L) (rows := rows) (hk j rfl) h6
    simp [F_Language_is_move, m_Language_is_move, this]
theorem is_state1 {rows : List MRow} {rk : List Nat} {mv : List (Option Nat)} (l : Let L) (h6 : rows.length ≤ 6) (hp : rk.Perm (L ++ [46])) (hl : mv.length = L.length) (hm : ∀ k ∈ mv, ∃ j, j < rows.length ∧ k = some j) :
    F_Machine_is_state [.bor (colD L rows), .fro (rowD (dS rk, mv))] = .ok (.fro (.bl true), [.bor (colD L rows), .fro (rowD (dS rk, mv))]) := by
  have l6 := l.l6
  have rl := rk_len hp
  have c1 : rk.length ≤ cap := by show _ ≤ 1000000; omega
  have c2 : L.length + 1 ≤ cap := by show _ ≤ 1000000; omega
  have c3 : mv.length ≤ cap := by show _ ≤ 1000000; omega
  have c4 : L.length ≤ cap := by show _ ≤ 1000000; omega
  have ad : addD (dS L) (.str (S [46])) = .ok (.fro (dS (L ++ [46]))) := addD_S (by simpa using c2)
  have s1 := sortedD_S c1
  have s2 := sortedD_S (a := L ++ [46]) (by simpa using c2)
  have se := sort_eq l hp
  have im : F_Collation_is_mark [.bor (colD L rows), .fro (dS rk)] = .ok (.fro (.bl true), [.bor (colD L rows), .fro (dS rk)]) := by
    simp [F_Collation_is_mark, m_Collation_is_mark, s1, dotS, ad, s2, se]
  have e1 : lcGo [3] (gN 3) tTrue E1_Machine_is_state (mv.map dO) [.bor (colD L rows), .fro (rowD (dS rk, mv)), .fro (.tup (mv.map dO)), .no] [] = .ok (mv.map fun _ => .bl true, [.bor (colD L rows), .fro (rowD (dS rk, mv)), .fro (.tup (mv.map dO)), .no]) :=
    lc_maps (fun k hk => by
      obtain ⟨j, hj, rfl⟩ := hm k hk
      have := is_move1 (L := L) hj h6
      simp [lcTurn, E1_Machine_is_state, this]) c3
  have al := allD_map (xs := mv) (p := fun _ => true)
  rw [show (mv.all fun _ => true) = true by simp] at al
  have e1' : lcGo [3] (gN 3) tTrue E1_Machine_is_state (mv.map dO) [.bor (colD L rows), .fro (.tup [dS rk, .tup (mv.map dO)]), .fro (.tup (mv.map dO)), .no] [] = .ok (mv.map fun _ => .bl true, [.bor (colD L rows), .fro (.tup [dS rk, .tup (mv.map dO)]), .fro (.tup (mv.map dO)), .no]) := e1
  simp only [F_Machine_is_state, m_Machine_is_state, fnN_eq, fnB_eq]
  simp [rowD, im, hl, c4, e1', al, -allD_map]
theorem is_state2 {rows : List MRow} {b : Bool} {mv : List (Option Nat)} (l : Let L) (h6 : rows.length ≤ 6) (hl : mv.length = L.length) (hm : ∀ k ∈ mv, ∀ j, k = some j → j < rows.length) :
    F_Machine_is_state [.bor (lan0 L rows), .fro (rowD (.bl b, mv))] = .ok (.fro (.bl true), [.bor (lan0 L rows), .fro (rowD (.bl b, mv))]) := by
  have l6 := l.l6
  have c3 : mv.length ≤ cap := by show _ ≤ 1000000; omega
  have c4 : L.length ≤ cap := by show _ ≤ 1000000; omega
  have im : F_Language_is_mark [.bor (lan0 L rows), .fro (.bl b)] = .ok (.fro (.bl true), [.bor (lan0 L rows), .fro (.bl b)]) := by
    simp [F_Language_is_mark, m_Language_is_mark]
  have e1' : lcGo [3] (gN 3) tTrue E1_Machine_is_state (mv.map dO) [.bor (lan0 L rows), .fro (.tup [.bl b, .tup (mv.map dO)]), .fro (.tup (mv.map dO)), .no] [] = .ok (mv.map fun _ => .bl true, [.bor (lan0 L rows), .fro (.tup [.bl b, .tup (mv.map dO)]), .fro (.tup (mv.map dO)), .no]) :=
    lc_maps (fun k hk => by
      have := is_moveL (L := L) (hm k hk) h6
      simp [lcTurn, E1_Machine_is_state, this]) c3
  have al := allD_map (xs := mv) (p := fun _ => true)
  rw [show (mv.all fun _ => true) = true by simp] at al
  simp only [F_Machine_is_state, m_Machine_is_state, fnN_eq, fnB_eq]
  simp [rowD, im, hl, c4, e1', al, -allD_map]
end
end K23
namespace K23
open PySem PySem.Spec PyProof.Rows L2 DL
open SX (S)
def setE (cs : List Nat) (f : Str) (x : D) (j : Nat) (ds : DS) (d : D) : Rs := match d with
  | .ins c ks vs => if cs.contains c && decide (ks.length < 999) then .nx (put ds j (.ins c (putD ks vs f x).1 (putD ks vs f x).2)) else .stuck
  | _ => .stuck
@[simp] theorem sSetFld_eq {cs : List Nat} {f : Str} {fo fe : EF} {s0 : Sl} {ds : DS} : sSetFld cs f fo fe (s0 :: ds) = (fe (s0 :: ds)).toS fun p => (take p.2 p.1).toS fun z => (fo z.2).toS fun o => (asSlot o.1).toS fun j => (mineOf o.2 j).toS fun d => setE cs f z.1 j o.2 d := rfl
@[simp] theorem set_l1 {x : D} {j : Nat} {ds : DS} : setE [1, 2] "own_letters" x j ds (.ins 1 [] []) = .nx (put ds j (.ins 1 ["own_letters"] [x])) := rfl
@[simp] theorem set_s1 {x y : D} {j : Nat} {ds : DS} : setE [1, 2] "own_states" x j ds (.ins 1 ["own_letters"] [y]) = .nx (put ds j (.ins 1 ["own_letters", "own_states"] [y, x])) := rfl
@[simp] theorem set_l2 {x : D} {j : Nat} {ds : DS} : setE [1, 2] "own_letters" x j ds (.ins 2 [] []) = .nx (put ds j (.ins 2 ["own_letters"] [x])) := rfl
@[simp] theorem set_s2 {x y : D} {j : Nat} {ds : DS} : setE [1, 2] "own_states" x j ds (.ins 2 ["own_letters"] [y]) = .nx (put ds j (.ins 2 ["own_letters", "own_states"] [y, x])) := rfl
@[simp] theorem set_t2 {x : D} {j : Nat} {ds : DS} {L : List Nat} {rows : List MRow} : setE [2] "tails" x j ds (lan0 L rows) = .nx (put ds j (.ins 2 ["own_letters", "own_states", "tails"] [dS L, .tup (rows.map rowD), x])) := rfl
@[simp] theorem set_u1 {x : D} {j : Nat} {ds : DS} : setE [3] "own_old" x j ds (.ins 3 [] []) = .nx (put ds j (.ins 3 ["own_old"] [x])) := rfl
@[simp] theorem set_u2 {x y : D} {j : Nat} {ds : DS} : setE [3] "own_new" x j ds (.ins 3 ["own_old"] [y]) = .nx (put ds j (.ins 3 ["own_old", "own_new"] [y, x])) := rfl
@[simp] theorem set_u3 {x y z : D} {j : Nat} {ds : DS} : setE [3] "own_language" x j ds (.ins 3 ["own_old", "own_new"] [y, z]) = .nx (put ds j (.ins 3 ["own_old", "own_new", "own_language"] [y, z, x])) := rfl
theorem fold_col {L : List Nat} {rows : List MRow} : D.ins 1 ["own_letters", "own_states"] [dS L, .tup (rows.map rowD)] = colD L rows := rfl
theorem fold_lan0 {L : List Nat} {rows : List MRow} : D.ins 2 ["own_letters", "own_states"] [dS L, .tup (rows.map rowD)] = lan0 L rows := rfl
theorem lend_fros {ds : DS} : ∀ {xs : List D}, lend ds (xs.map Rv.fro) = .ok (xs.map Sl.fro)
  | [] => rfl
  | x :: xs => by rw [List.map_cons, lend_cons, lend1_fro, bind_ok', lend_fros (xs := xs)]; rfl
theorem lents_fros : ∀ {xs : List D}, lents (xs.map Rv.fro) = []
  | [] => rfl
  | x :: xs => by rw [List.map_cons, lents_fro, lents_fros]
theorem back_fros {ds : DS} : ∀ {xs : List D} {sl : DS}, back ds (xs.map Rv.fro) sl = ds
  | [], sl => by simp
  | x :: xs, [] => by simp
  | x :: xs, s :: sl => by rw [List.map_cons, back_cons, back1_fro, back_fros]
theorem frosOf_map : ∀ {xs : List D}, frosOf (xs.map Sl.fro) = .ok xs
  | [] => rfl
  | x :: xs => by
    show (frosOf (xs.map Sl.fro)).bind _ = _
    rw [frosOf_map]; rfl
theorem starF2 {fn : FnF} {a b : Sl} {xs : List D} (h : xs.length ≤ 1000) : starF 2 fn (a :: b :: xs.map Sl.fro) = fn [a, b, .fro (.tup xs)] := by
  show (if decide (2 ≤ (a :: b :: xs.map Sl.fro).length) && decide ((a :: b :: xs.map Sl.fro).length ≤ cap) then (frosOf (xs.map Sl.fro)).bind fun ds => fn ([a, b] ++ [Sl.fro (.tup ds)]) else .stuck) = _
  rw [if_pos (by rw [decide_eq_true (by simp), decide_eq_true (by simp; show _ ≤ 1000000; omega)]; rfl), frosOf_map]; rfl
theorem nums_mem : ∀ {xs : List D} {n : Nat} {x : D}, x ∈ numsGo n xs → ∃ (i : Nat) (d : D), x = .tup [.int (i : Nat), d] ∧ d ∈ xs
  | [], n, x, h => by cases h
  | d :: r, n, x, h => by
    rcases List.mem_cons.mp (show x ∈ D.tup [.int (n : Nat), d] :: numsGo (n + 1) r from h) with rfl | q
    · exact ⟨n, d, rfl, List.mem_cons_self ..⟩
    · obtain ⟨i, e, h1, h2⟩ := nums_mem q
      exact ⟨i, e, h1, List.mem_cons_of_mem _ h2⟩
section
variable {L : List Nat}
theorem init_loop {rows : List MRow} {o : D} {m : Nat} (hm : (m = 1 ∧ o = colD L rows) ∨ (m = 2 ∧ o = lan0 L rows)) (st : ∀ r ∈ rows, F_Machine_is_state [.bor o, .fro (rowD r)] = .ok (.fro (.bl true), [.bor o, .fro (rowD r)])) :
    ∃ z3 z4, forGo (gTupD 2 (gsCons (gN 3) (gsCons (gN 4) gsNil))) L1_Machine_init (numsD (rows.map rowD)) [.bor o, .fro (dS L), .fro (.tup (rows.map rowD)), .no, .no] = .nx [.bor o, .fro (dS L), .fro (.tup (rows.map rowD)), z3, z4] := by
  obtain ⟨ds', e, z3, z4, h, _⟩ := for_ind (g := gTupD 2 (gsCons (gN 3) (gsCons (gN 4) gsNil))) (body := L1_Machine_init)
    (J := fun rest ds => ∃ z3 z4, ds = [.bor o, .fro (dS L), .fro (.tup (rows.map rowD)), z3, z4] ∧ FreeS z3 ∧ FreeS z4 ∧ ∀ x ∈ rest, ∃ (i : Nat) (r : MRow), x = .tup [.int (i : Nat), rowD r] ∧ r ∈ rows)
    (fun d r ds ⟨z3, z4, e, f3, f4, h⟩ => by
      subst e
      obtain ⟨i, row, rfl, hr⟩ := h d (List.mem_cons_self ..)
      have s := st row hr
      refine ⟨_, ?_, .fro (.int (i : Nat)), .fro (rowD row), rfl, FreeS.fro, FreeS.fro, fun x hx => h x (List.mem_cons_of_mem _ hx)⟩
      rcases hm with ⟨_, rfl⟩ | ⟨_, rfl⟩ <;> simp [forT, L1_Machine_init, f3 _, f4 _, s])
    (xs := numsD (rows.map rowD)) (ds := [.bor o, .fro (dS L), .fro (.tup (rows.map rowD)), .no, .no])
    ⟨.no, .no, rfl, FreeS.no, FreeS.no, fun x hx => by
      obtain ⟨i, d, rfl, hd⟩ := nums_mem hx
      obtain ⟨r, hr, rfl⟩ := List.mem_map.mp hd
      exact ⟨i, r, rfl, hr⟩⟩
  subst h
  exact ⟨z3, z4, e⟩
theorem minit1 (l : Let L) {rows : List MRow} (h1 : 1 ≤ rows.length) (h6 : rows.length ≤ 6) (st : ∀ r ∈ rows, F_Machine_is_state [.bor (colD L rows), .fro (rowD r)] = .ok (.fro (.bl true), [.bor (colD L rows), .fro (rowD r)])) :
    F_Machine_init (.bor (.ins 1 [] []) :: .fro (dS L) :: (rows.map rowD).map Sl.fro) = .ok (.fro .non, [.bor (colD L rows), .fro (dS L), .fro (.tup (rows.map rowD))]) := by
  have il := is_letters_ok l
  obtain ⟨z3, z4, e⟩ := init_loop (L := L) (.inl ⟨rfl, rfl⟩) st
  have m1 : (1 : Int) ≤ (rows.length : Nat) := by omega
  have m2 : ((rows.length : Nat) : Int) ≤ 6 := by omega
  unfold F_Machine_init
  rw [starF2 (by simp; omega)]
  simp [m_Machine_init, il, m1, m2, fold_col, e]
theorem minit2 (l : Let L) {rows : List MRow} (h1 : 1 ≤ rows.length) (h6 : rows.length ≤ 6) (st : ∀ r ∈ rows, F_Machine_is_state [.bor (lan0 L rows), .fro (rowD r)] = .ok (.fro (.bl true), [.bor (lan0 L rows), .fro (rowD r)])) :
    F_Machine_init (.bor (.ins 2 [] []) :: .fro (dS L) :: (rows.map rowD).map Sl.fro) = .ok (.fro .non, [.bor (lan0 L rows), .fro (dS L), .fro (.tup (rows.map rowD))]) := by
  have il := is_letters_ok l
  obtain ⟨z3, z4, e⟩ := init_loop (L := L) (.inr ⟨rfl, rfl⟩) st
  have m1 : (1 : Int) ≤ (rows.length : Nat) := by omega
  have m2 : ((rows.length : Nat) : Int) ≤ 6 := by omega
  unfold F_Machine_init
  rw [starF2 (by simp; omega)]
  simp [m_Machine_init, il, m1, m2, fold_lan0, e]
theorem cinit (l : Let L) {rows : List MRow} (h1 : 1 ≤ rows.length) (h6 : rows.length ≤ 6) (st : ∀ r ∈ rows, F_Machine_is_state [.bor (colD L rows), .fro (rowD r)] = .ok (.fro (.bl true), [.bor (colD L rows), .fro (rowD r)])) :
    F_Collation_init (.bor (.ins 1 [] []) :: .fro (dS L) :: (rows.map rowD).map Sl.fro) = .ok (.fro .non, [.bor (colD L rows), .fro (dS L), .fro (.tup (rows.map rowD))]) := by
  have mi := minit1 l h1 h6 st
  have io : insOf [1] (.ins 1 [] []) = .ok ([], []) := rfl
  unfold F_Collation_init
  rw [starF2 (by simp; omega)]
  generalize rows.map rowD = rs at mi ⊢
  have sq : aStar.seqOf (.tup rs) = .ok rs := rfl
  simp [m_Collation_init, io, sq, lents_fros, lend_fros, mi, back_fros]
end
end K23
namespace K23
open PySem PySem.Spec PyProof.Rows L2 DL
open SX (S)
def slt (a b : List Nat) : Prop := a.length < b.length ∨ (a.length = b.length ∧ a < b)
instance : DecidableRel slt := fun a b => inferInstanceAs (Decidable (_ ∨ _))
theorem keyLt_S {a b : List Nat} : keyLt (S a) (S b) = decide (slt a b) := by
  unfold keyLt keyP
  rw [PySem.W.dataLt_pair (by simp only [PySem.W.alike]) (by simp only [PySem.W.alike]), PySem.W.dataLt_int, PySem.W.dataLt_str, SX.S_len, SX.S_len]
  by_cases h1 : a.length = b.length
  · have e1 : PyData.eqv (.int (a.length : Nat)) (.int (b.length : Nat)) = true := by simp [PyData.eqv, h1]
    rw [if_pos e1]
    by_cases h2 : a = b
    · have e2 : PyData.eqv (.str (S a)) (.str (S b)) = true := by simp [PyData.eqv, h2]
      rw [if_pos e2]
      subst h2
      symm
      rw [decide_eq_false_iff_not]
      rintro (z | ⟨_, z⟩)
      · omega
      · exact List.lt_irrefl _ z
    · have e2 : ¬ PyData.eqv (.str (S a)) (.str (S b)) = true := by
        rw [PyData.eqv, SX.S_beq_eq]; simpa using h2
      rw [if_neg e2, decide_eq_decide]
      exact ⟨fun z => .inr ⟨h1, z⟩, fun z => z.elim (fun q => absurd q (by omega)) fun q => q.2⟩
  · have e1 : ¬ PyData.eqv (.int (a.length : Nat)) (.int (b.length : Nat)) = true := by simp [PyData.eqv]; omega
    rw [if_neg e1, decide_eq_decide]
    constructor
    · intro z; exact .inl (by omega)
    · rintro (z | z)
      · omega
      · exact absurd z.1 h1
theorem slt_total {a b : List Nat} (h : a ≠ b) (h2 : ¬ slt a b) : slt b a := by
  unfold slt at *
  rcases Nat.lt_trichotomy a.length b.length with z | z | z
  · exact absurd (.inl z) h2
  · refine .inr ⟨z.symm, ?_⟩
    have h3 : ¬ a < b := fun q => h2 (.inr ⟨z, q⟩)
    rcases List.le_iff_lt_or_eq.mp (List.not_lt.mp h3) with q | q
    · exact q
    · exact absurd q.symm h
  · exact .inl z
theorem slt_trans {a b c : List Nat} (h1 : slt a b) (h2 : slt b c) : slt a c := by
  unfold slt at *
  rcases h1 with h1 | ⟨h1, h1'⟩
  · rcases h2 with h2 | ⟨h2, _⟩
    · exact .inl (by omega)
    · exact .inl (by omega)
  · rcases h2 with h2 | ⟨h2, h2'⟩
    · exact .inl (by omega)
    · exact .inr ⟨by omega, List.lt_trans h1' h2'⟩
theorem argBest_not {bt : Nat → Nat → Bool} (tr : ∀ i j k, bt i j = true → bt j k = true → bt i k = true) (ir : ∀ i, bt i i = false) : ∀ n j, j ≤ n → bt j (PySem.argBest bt n) = false
  | 0, j, h => by
    have : j = 0 := by omega
    subst this
    show bt 0 0 = false
    exact ir 0
  | n + 1, j, h => by
    have ih := argBest_not tr ir n
    unfold PySem.argBest
    by_cases hb : bt (n + 1) (PySem.argBest bt n) = true
    · rw [if_pos hb]
      rcases Nat.lt_or_ge j (n + 1) with z | z
      · cases q : bt j (n + 1) with
        | false => rfl
        | true => have := tr _ _ _ q hb; rw [ih j (by omega)] at this; cases this
      · have : j = n + 1 := by omega
        subst this; exact ir _
    · rw [if_neg hb]
      rcases Nat.lt_or_ge j (n + 1) with z | z
      · exact ih j (by omega)
      · have : j = n + 1 := by omega
        subst this
        simpa using hb
theorem minKey_S {ys : List (List Nat)} (h : ys ≠ []) : ∃ b, minKeyD (ys.map S) = dS b ∧ b ∈ ys ∧ ∀ y ∈ ys, ¬ slt y b := by
  obtain ⟨y0, r, rfl⟩ := List.exists_cons_of_ne_nil h
  obtain ⟨bt, hbt⟩ : ∃ bt, bt = keyLtAt ((y0 :: r).map S) := ⟨_, rfl⟩
  have hat : ∀ i, ((y0 :: r).map S).getD i "" = S ((y0 :: r).getD i []) := fun i => by
    rw [List.getD_eq_getElem?_getD, List.getD_eq_getElem?_getD, List.getElem?_map]
    cases (y0 :: r)[i]? <;> rfl
  have hb : ∀ i j, bt i j = decide (slt ((y0 :: r).getD i []) ((y0 :: r).getD j [])) := fun i j => by
    rw [hbt]; unfold keyLtAt; rw [hat, hat, keyLt_S]
  have tr : ∀ i j k, bt i j = true → bt j k = true → bt i k = true := fun i j k h1 h2 => by
    rw [hb, decide_eq_true_eq] at *; exact slt_trans h1 h2
  have ir : ∀ i, bt i i = false := fun i => by
    rw [hb, decide_eq_false_iff_not]; rintro (z | ⟨_, z⟩)
    · omega
    · exact List.lt_irrefl _ z
  have hn := argBest_not tr ir r.length
  have hl := argBest_lt bt r.length
  refine ⟨(y0 :: r).getD (PySem.argBest bt r.length) [], ?_, ?_, fun y hy => ?_⟩
  · show D.str (((y0 :: r).map S).getD (PySem.argBest (keyLtAt ((y0 :: r).map S)) (((y0 :: r).map S).length - 1)) "") = _
    rw [hat, ← hbt]
    simp
  · rw [List.getD_eq_getElem?_getD, List.getElem?_eq_getElem (by simp; omega)]
    exact List.getElem_mem _
  · obtain ⟨j, hj, e⟩ := List.mem_iff_getElem.mp hy
    have := hn j (by simp at hj; omega)
    rw [hb, decide_eq_false_iff_not] at this
    rw [List.getD_eq_getElem?_getD, List.getElem?_eq_getElem hj] at this
    subst e
    exact this
def code : List Nat → Nat
  | [] => 0
  | c :: w => (c - 96) * 27 ^ w.length + code w
def Rng (w : List Nat) : Prop := ∀ c ∈ w, 97 ≤ c ∧ c ≤ 122
theorem code_lt : ∀ {w : List Nat}, Rng w → code w < 27 ^ w.length
  | [], _ => by decide
  | c :: w, h => by
    have ih := code_lt (w := w) fun x hx => h x (List.mem_cons_of_mem _ hx)
    have hc := h c (List.mem_cons_self ..)
    have h1 : (c - 96) * 27 ^ w.length ≤ 26 * 27 ^ w.length := Nat.mul_le_mul_right _ (by omega)
    show (c - 96) * 27 ^ w.length + code w < 27 ^ (w.length + 1)
    rw [Nat.pow_succ]
    omega
theorem code_ge {c : Nat} {w : List Nat} (h : 97 ≤ c) : 27 ^ w.length ≤ code (c :: w) := by
  have h1 : 1 * 27 ^ w.length ≤ (c - 96) * 27 ^ w.length := Nat.mul_le_mul_right _ (by omega)
  show _ ≤ (c - 96) * 27 ^ w.length + code w
  omega
theorem code_lex : ∀ {a b : List Nat}, Rng a → Rng b → a.length = b.length → a < b → code a < code b
  | [], [], _, _, _, h => absurd h (List.lt_irrefl _)
  | [], _ :: _, _, _, e, _ => by cases e
  | _ :: _, [], _, _, e, _ => by cases e
  | c :: a, d :: b, ha, hb, e, h => by
    have el : a.length = b.length := by simpa using e
    have hc := ha c (List.mem_cons_self ..)
    have hd := hb d (List.mem_cons_self ..)
    have ra : Rng a := fun x hx => ha x (List.mem_cons_of_mem _ hx)
    have rb : Rng b := fun x hx => hb x (List.mem_cons_of_mem _ hx)
    show (c - 96) * 27 ^ a.length + code a < (d - 96) * 27 ^ b.length + code b
    rcases List.cons_lt_cons_iff.mp h with z | ⟨rfl, z⟩
    · have h1 := code_lt ra
      have h2 : (c - 96 + 1) * 27 ^ b.length ≤ (d - 96) * 27 ^ b.length := Nat.mul_le_mul_right _ (by omega)
      rw [Nat.add_mul] at h2
      rw [el] at h1 ⊢
      omega
    · have := code_lex ra rb el z
      rw [el]; omega
theorem code_slt {a b : List Nat} (ha : Rng a) (hb : Rng b) (h : slt a b) : code a < code b := by
  rcases h with h | ⟨h1, h2⟩
  · cases b with
    | nil => cases h
    | cons d b =>
      have h1 := code_lt ha
      have h2 : 27 ^ a.length ≤ 27 ^ b.length := Nat.pow_le_pow_right (by decide) (by simp at h; omega)
      have h3 := code_ge (c := d) (w := b) (hb d (List.mem_cons_self ..)).1
      omega
  · exact code_lex ha hb h1 h2
end K23
namespace K23
open PySem PySem.Spec PyProof.Rows L2 DL
open SX (S)
abbrev Tls := List (Option (List Nat))
def cnt (t : Tls) : Nat := t.countP (·.isSome)
def val : Option (List Nat) → Nat
  | none => 27 ^ 5
  | some w => code w
def mea (t : Tls) : Nat := (t.map val).sum
structure TInv (lr : List LRow) (t : Tls) : Prop where
  ln : t.length = lr.length
  rg : ∀ w, some w ∈ t → Rng w
  le : ∀ w, some w ∈ t → w.length < cnt t
  ac : ∀ i, accP lr i = true → ∃ w, t[i]? = some (some w)
theorem cnt_set {t : Tls} {i : Nat} {x : Option (List Nat)} (h : i < t.length) : cnt (t.set i x) + (if t[i].isSome then 1 else 0) = cnt t + (if x.isSome then 1 else 0) := by
  unfold cnt
  rw [List.countP_set h]
  have : (if t[i].isSome then 1 else 0) ≤ t.countP (·.isSome) := by
    split
    · rename_i q
      exact List.countP_pos_iff.mpr ⟨_, List.getElem_mem h, q⟩
    · exact Nat.zero_le _
  split <;> split <;> simp_all <;> omega
theorem sum_set : ∀ {l : List Nat} {i : Nat} {x : Nat} (h : i < l.length), (l.set i x).sum + l[i] = l.sum + x
  | y :: l, 0, x, _ => by simp; omega
  | y :: l, i + 1, x, h => by
    have := sum_set (l := l) (i := i) (x := x) (by simpa using h)
    simp at this ⊢
    omega
theorem mea_set {t : Tls} {i : Nat} {x : Option (List Nat)} (h : i < t.length) : mea (t.set i x) + val t[i] = mea t + val x := by
  unfold mea
  rw [List.map_set]
  have := sum_set (l := t.map val) (i := i) (x := val x) (by simpa using h)
  simpa using this
/-- the candidates for the tail of one state -/
def cand (L : List Nat) (lr : List LRow) (t : Tls) (i : Nat) : List (List Nat) := ((t[i]?).join).toList ++ L.filterMap fun c => (mvP L (lRows lr) i c).bind fun s => ((t[s]?).join).map (c :: ·)
theorem neR_t {a b : Option (List Nat)} (ha : ∀ w, a = some w → Rng w) (hb : ∀ w, b = some w → Rng w) : neR (tD a) (tD b) = .ok (.fro (.bl (!decide (a = b)))) := by
  have sh : ∀ w, Rng w → SeqAt.shaped (.str (S w)) = true := fun w h => by
    unfold SeqAt.shaped
    rw [show PyData.canLay0 (.str (S w)) = true by
      simp [PyData.canLay0, PyData.strOk]
      intro x hx; have := h x hx; omega, decide_eq_true (by simp [PyData.depth])]; rfl
  have sn : SeqAt.shaped .none = true := by unfold SeqAt.shaped; simp [PyData.canLay0, PyData.depth]
  cases a with
  | none =>
    cases b with
    | none => rfl
    | some w =>
      have e : eqD .non (dS w) = (if scal V.non (V.str (S w)) then .ok (decide (V.non = V.str (S w))) else (if SeqAt.shaped .none && SeqAt.shaped (.str (S w)) then .ok (PyData.eqv .none (.str (S w))) else .stuck)) := rfl
      show (eqD .non (dS w)).bind _ = _
      rw [e, sn, sh w (hb w rfl)]
      split <;> simp [PyData.eqv]
  | some v =>
    cases b with
    | none =>
      have e : eqD (dS v) .non = (if scal (V.str (S v)) V.non then .ok (decide (V.str (S v) = V.non)) else (if SeqAt.shaped (.str (S v)) && SeqAt.shaped .none then .ok (PyData.eqv (.str (S v)) .none) else .stuck)) := rfl
      show (eqD (dS v) .non).bind _ = _
      rw [e, sn, sh v (ha v rfl)]
      split <;> simp [PyData.eqv]
    | some w =>
      show neR (dS v) (dS w) = _
      rw [neR_str]
      by_cases h : v = w
      · simp [h]
      · have : ¬ S v = S w := fun e => h (SX.S_inj e)
        simp [h, this]
section
variable {L : List Nat} {lr : List LRow}
/-- the next tail of a state -/
theorem better_ok (l : Let L) (M : Mach L (lRows lr)) {t : Tls} (T : TInv lr t) {i : Nat} (hi : i < lr.length) :
    ∃ b : Option (List Nat), F_Language_better_tail [.bor (lan0 L (lRows lr)), .fro (.int (i : Nat)), .bor (.lst (t.map tD))] = .ok (.fro (tD b), [.bor (lan0 L (lRows lr)), .fro (.int (i : Nat)), .bor (.lst (t.map tD))]) ∧
      ((b = none ∧ cand L lr t i = []) ∨ ∃ w, b = some w ∧ w ∈ cand L lr t i ∧ ∀ y ∈ cand L lr t i, ¬ slt y w) := by
  have l6 := l.l6
  have r6 := M.r6
  rw [lRows_len] at r6
  have hit : i < t.length := by rw [T.ln]; exact hi
  have cle : cnt t ≤ 6 := by
    have : cnt t ≤ t.length := List.countP_le_length
    rw [T.ln] at this; omega
  have a1 : ixD (.lst (t.map tD)) (.int (i : Nat)) = .ok (.fro (tD t[i])) := ixD_ln (by rw [List.getElem?_map, List.getElem?_eq_getElem hit]; rfl)
  have wl : ∀ w, some w ∈ t → w.length ≤ 5 := fun w hw => by have := T.le w hw; omega
  -- the loop over the letters
  have turn : ∀ {c : Nat} {ys : List (List Nat)} {z4 z5 : Sl}, c ∈ L → ys.length ≤ 1000 → FreeS z4 → FreeS z5 → ∃ x5, FreeS x5 ∧
      forT (gN 4) L1_Language_better_tail (.str (S [c])) [.bor (lan0 L (lRows lr)), .fro (.int (i : Nat)), .bor (.lst (t.map tD)), .own (.lst (txD ys)), z4, z5] =
        .nx [.bor (lan0 L (lRows lr)), .fro (.int (i : Nat)), .bor (.lst (t.map tD)), .own (.lst (txD (ys ++ ((mvP L (lRows lr) i c).bind fun s => ((t[s]?).join).map (c :: ·)).toList))), .fro (dS [c]), x5] := fun {c ys z4 z5} hc hy h4 h5 => by
    have mo := move_ok M .lan0 (.bor) (s := some i) (c := c) (fun k hk => by cases hk; rw [lRows_len]; exact hi) hc
    have hb := mv_below M (s := i) (c := c)
    have apl : ys.length ≤ cap := by show _ ≤ 1000000; omega
    simp only [dO_some, stepP, Option.bind_some] at mo
    cases q : mvP L (lRows lr) i c with
    | none =>
      rw [q] at mo
      refine ⟨.fro .non, FreeS.fro, ?_⟩
      simp [forT, L1_Language_better_tail, h4 _, h5 _, mo]
    | some s =>
      have hs : s < t.length := by rw [T.ln]; have := hb s q; rwa [lRows_len] at this
      rw [q] at mo
      have a2 : ixD (.lst (t.map tD)) (.int (s : Nat)) = .ok (.fro (tD t[s])) := ixD_ln (by rw [List.getElem?_map, List.getElem?_eq_getElem hs]; rfl)
      refine ⟨.fro (.int (s : Nat)), FreeS.fro, ?_⟩
      cases q2 : t[s] with
      | none =>
        rw [q2] at a2
        simp [forT, L1_Language_better_tail, h4 _, h5 _, mo, a2, hs, q2]
      | some w =>
        rw [q2] at a2
        have wl2 := wl w (q2 ▸ List.getElem_mem hs)
        have ad : addD (.str (S [c])) (dS w) = .ok (.fro (dS (c :: w))) := addD_S (a := [c]) (by show _ ≤ 1000000; simp; omega)
        simp [forT, L1_Language_better_tail, h4 _, h5 _, mo, a2, hs, q2, ad, apl, txD_snoc]
  have loop : ∀ {cs : List Nat} {ys : List (List Nat)} {z4 z5 : Sl}, (∀ c ∈ cs, c ∈ L) → ys.length + cs.length ≤ 1000 → FreeS z4 → FreeS z5 → ∃ x4 x5,
      forGo (gN 4) L1_Language_better_tail (cs.map fun c => .str (S [c])) [.bor (lan0 L (lRows lr)), .fro (.int (i : Nat)), .bor (.lst (t.map tD)), .own (.lst (txD ys)), z4, z5] =
        .nx [.bor (lan0 L (lRows lr)), .fro (.int (i : Nat)), .bor (.lst (t.map tD)), .own (.lst (txD (ys ++ cs.filterMap fun c => (mvP L (lRows lr) i c).bind fun s => ((t[s]?).join).map (c :: ·)))), x4, x5] := by
    intro cs
    induction cs with
    | nil => intro ys z4 z5 _ _ _ _; exact ⟨z4, z5, by simp⟩
    | cons c cs ih =>
      intro ys z4 z5 hc hl h4 h5
      have hl : ys.length + (cs.length + 1) ≤ 1000 := hl
      obtain ⟨x5, f5, e⟩ := turn (ys := ys) (hc c (List.mem_cons_self ..)) (by omega) h4 h5
      obtain ⟨y4, y5, e2⟩ := ih (ys := ys ++ ((mvP L (lRows lr) i c).bind fun s => ((t[s]?).join).map (c :: ·)).toList) (fun x hx => hc x (List.mem_cons_of_mem _ hx)) (by
        have : (((mvP L (lRows lr) i c).bind fun s => ((t[s]?).join).map (c :: ·)).toList).length ≤ 1 := by cases ((mvP L (lRows lr) i c).bind fun s => ((t[s]?).join).map (c :: ·)) <;> simp
        simp; omega) (FreeS.fro (d := dS [c])) f5
      refine ⟨y4, y5, ?_⟩
      rw [List.map_cons, forGo_turn e, e2, List.append_assoc, List.filterMap_cons]
      cases ((mvP L (lRows lr) i c).bind fun s => ((t[s]?).join).map (c :: ·)) <;> simp
  obtain ⟨x4, x5, e⟩ := loop (cs := L) (ys := (t[i]).toList) (z4 := .no) (z5 := .no) (fun c h => h) (by cases t[i] <;> simp <;> omega) FreeS.no FreeS.no
  have ec : (t[i]).toList ++ (L.filterMap fun c => (mvP L (lRows lr) i c).bind fun s => ((t[s]?).join).map (c :: ·)) = cand L lr t i := by
    unfold cand; rw [List.getElem?_eq_getElem hit]; simp
  rw [ec] at e
  -- the least one
  have cl : ∀ y ∈ cand L lr t i, y.length ≤ 1000 := fun y hy => by
    rcases List.mem_append.mp hy with z | z
    · rw [List.getElem?_eq_getElem hit] at z
      have : t[i] = some y := by simpa using z
      have := wl y (this ▸ List.getElem_mem hit); omega
    · obtain ⟨c, _, z⟩ := List.mem_filterMap.mp z
      obtain ⟨s, _, z⟩ := Option.bind_eq_some_iff.mp z
      obtain ⟨w, hw, rfl⟩ := Option.map_eq_some_iff.mp z
      obtain ⟨o, ho, rfl⟩ := Option.join_eq_some_iff.mp hw |> fun h => (⟨some w, h, rfl⟩ : ∃ o, t[s]? = some o ∧ o = some w)
      have := wl w (List.mem_of_getElem? ho); simp; omega
  have mk : ∀ ds : DS, ds[3]? = some (.own (.lst (txD (cand L lr t i)))) → ∀ s0 r, ds = s0 :: r → eMinKey (eVar 3) ds = .ok (.fro (minKeyD ((cand L lr t i).map S)), ds) := fun ds hd s0 r e => by
    subst e
    have so : strsOf (txD (cand L lr t i)) = some ((cand L lr t i).map S) := strsOf_map _
    have al : ((cand L lr t i).map S).all (fun y => decide (y.length ≤ cap)) = true := by
      rw [List.all_eq_true]; intro y hy
      obtain ⟨w, hw, rfl⟩ := List.mem_map.mp hy
      rw [SX.S_len]
      exact decide_eq_true (Nat.le_trans (cl w hw) (by decide))
    have mo : minKeyOf (.lst (txD (cand L lr t i))) = .ok (minKeyD ((cand L lr t i).map S)) := by
      show (match strsOf (txD (cand L lr t i)) with | some ys => if ys.all (fun y => decide (y.length ≤ cap)) then R.ok (minKeyD ys) else .stuck | none => .stuck) = _
      rw [so]
      show (if _ then _ else _) = _
      rw [if_pos al]
    unfold eMinKey
    rw [eVar_own hd]
    simp only [bind_ok']
    rw [peek_sown hd]
    simp only [bind_ok', mo]
  have st : ∀ b : D, minKeyD ((cand L lr t i).map S) = b → F_Language_better_tail [.bor (lan0 L (lRows lr)), .fro (.int (i : Nat)), .bor (.lst (t.map tD))] = .ok (.fro b, [.bor (lan0 L (lRows lr)), .fro (.int (i : Nat)), .bor (.lst (t.map tD))]) := fun b hb => by
    have mk' := mk [.bor (lan0 L (lRows lr)), .fro (.int (i : Nat)), .bor (.lst (t.map tD)), .own (.lst (txD (cand L lr t i))), x4, x5] rfl _ _ rfl
    rw [hb] at mk'
    cases q : t[i] with
    | none =>
      rw [q] at a1 e
      have e : forGo (gN 4) L1_Language_better_tail (L.map fun c => .str (S [c])) [.bor (lan0 L (lRows lr)), .fro (.int (i : Nat)), .bor (.lst (t.map tD)), .own (.lst []), .no, .no] = _ := e
      simp [F_Language_better_tail, m_Language_better_tail, a1, e, mk']
    | some w =>
      rw [q] at a1 e
      have e : forGo (gN 4) L1_Language_better_tail (L.map fun c => .str (S [c])) [.bor (lan0 L (lRows lr)), .fro (.int (i : Nat)), .bor (.lst (t.map tD)), .own (.lst [dS w]), .no, .no] = _ := e
      simp [F_Language_better_tail, m_Language_better_tail, a1, e, mk']
  by_cases h0 : cand L lr t i = []
  · exact ⟨none, st _ (by rw [h0]; rfl), .inl ⟨rfl, h0⟩⟩
  · obtain ⟨b, hb, hm, hn⟩ := minKey_S h0
    exact ⟨some b, st _ hb, .inr ⟨b, rfl, hm, hn⟩⟩
end
end K23
namespace K23
open PySem PySem.Spec PyProof.Rows L2 DL
open SX (S)
section
variable {L : List Nat} {lr : List LRow}
theorem cand_rng (l : Let L) {t : Tls} (T : TInv lr t) {i : Nat} {w : List Nat} (h : w ∈ cand L lr t i) : (∃ v, t[i]? = some (some v) ∧ w = v) ∨ ∃ c v, w = c :: v ∧ c ∈ L ∧ some v ∈ t := by
  rcases List.mem_append.mp h with z | z
  · left
    cases q : t[i]? with
    | none => rw [q] at z; simp at z
    | some o =>
      rw [q] at z
      cases o with
      | none => simp at z
      | some v => simp at z; exact ⟨v, rfl, z⟩
  · right
    obtain ⟨c, hc, z⟩ := List.mem_filterMap.mp z
    obtain ⟨s, _, z⟩ := Option.bind_eq_some_iff.mp z
    obtain ⟨v, hv, rfl⟩ := Option.map_eq_some_iff.mp z
    refine ⟨c, v, rfl, hc, ?_⟩
    cases q : t[s]? with
    | none => rw [q] at hv; simp at hv
    | some o =>
      rw [q] at hv
      simp at hv
      subst hv
      exact List.mem_of_getElem? q
theorem tail_step (l : Let L) (M : Mach L (lRows lr)) {t : Tls} (T : TInv lr t) {i : Nat} (hi : i < lr.length) {b : Option (List Nat)}
    (hb : (b = none ∧ cand L lr t i = []) ∨ ∃ w, b = some w ∧ w ∈ cand L lr t i ∧ ∀ y ∈ cand L lr t i, ¬ slt y w) (hne : ∀ h : i < t.length, b ≠ t[i]) : TInv lr (t.set i b) ∧ mea (t.set i b) < mea t := by
  have hit : i < t.length := by rw [T.ln]; exact hi
  have hne := hne hit
  have r6 := M.r6
  rw [lRows_len] at r6
  have own : ∀ v, t[i] = some v → v ∈ cand L lr t i := fun v hv => List.mem_append_left _ (by rw [List.getElem?_eq_getElem hit, hv]; simp)
  have hc := cnt_set (t := t) (x := b) hit
  have hm := mea_set (t := t) (x := b) hit
  rcases hb with ⟨rfl, h0⟩ | ⟨w, rfl, hw, hmin⟩
  · cases q : t[i] with
    | none => exact absurd q.symm hne
    | some v => have := own v q; rw [h0] at this; cases this
  · have cle : cnt (t.set i (some w)) ≤ 6 := by
      have h1 : cnt (t.set i (some w)) ≤ (t.set i (some w)).length := List.countP_le_length
      rw [List.length_set, T.ln] at h1; omega
    have pos : ∀ v, some v ∈ t → 0 < cnt t := fun v hv => List.countP_pos_iff.mpr ⟨_, hv, rfl⟩
    cases q : t[i] with
    | none =>
      rw [q] at hc hm
      simp at hc
      rcases cand_rng l T hw with ⟨v, hv, _⟩ | ⟨c, v, rfl, hcL, hv⟩
      · rw [List.getElem?_eq_getElem hit, q] at hv; cases hv
      · have lv := T.le v hv
        have rw' : Rng (c :: v) := fun x hx => by
          rcases List.mem_cons.mp hx with rfl | z
          · exact l.rng _ hcL
          · exact T.rg v hv x z
        refine ⟨⟨by rw [List.length_set]; exact T.ln, fun x hx => ?_, fun x hx => ?_, fun j hj => ?_⟩, ?_⟩
        · rcases List.mem_or_eq_of_mem_set hx with z | z
          · exact T.rg x z
          · cases z; exact rw'
        · rcases List.mem_or_eq_of_mem_set hx with z | z
          · have := T.le x z; omega
          · cases z; simp; omega
        · obtain ⟨x, hx⟩ := T.ac j hj
          have : i ≠ j := by rintro rfl; rw [List.getElem?_eq_getElem hit, q] at hx; cases hx
          exact ⟨x, by rw [List.getElem?_set_ne this]; exact hx⟩
        · have h1 := code_lt rw'
          have h2 : 27 ^ (c :: v).length ≤ 27 ^ 5 := Nat.pow_le_pow_right (by decide) (by simp; omega)
          simp only [val] at hm
          omega
    | some v =>
      rw [q] at hc hm
      simp at hc
      have vne : v ≠ w := fun e => hne (by rw [q, e])
      have hlt := slt_total vne (hmin v (own v q))
      have hv : some v ∈ t := q ▸ List.getElem_mem hit
      have rv := T.rg v hv
      have wle : w.length ≤ v.length := by rcases hlt with z | z; · omega
                                           · omega
      rcases cand_rng l T hw with ⟨u, hu, rfl⟩ | ⟨c, u, rfl, hcL, hu⟩
      · rw [List.getElem?_eq_getElem hit, q] at hu; cases hu; exact absurd rfl vne
      · have rw' : Rng (c :: u) := fun x hx => by
          rcases List.mem_cons.mp hx with rfl | z
          · exact l.rng _ hcL
          · exact T.rg u hu x z
        refine ⟨⟨by rw [List.length_set]; exact T.ln, fun x hx => ?_, fun x hx => ?_, fun j hj => ?_⟩, ?_⟩
        · rcases List.mem_or_eq_of_mem_set hx with z | z
          · exact T.rg x z
          · cases z; exact rw'
        · rcases List.mem_or_eq_of_mem_set hx with z | z
          · have := T.le x z; omega
          · cases z; have := T.le v hv; omega
        · by_cases e : i = j
          · subst e; exact ⟨_, List.getElem?_set_self hit⟩
          · obtain ⟨x, hx⟩ := T.ac j hj
            exact ⟨x, by rw [List.getElem?_set_ne e]; exact hx⟩
        · have h1 := code_slt rw' rv hlt
          simp only [val] at hm
          omega
theorem turn3 (l : Let L) (M : Mach L (lRows lr)) {t : Tls} (T : TInv lr t) {i : Nat} (hi : i < lr.length) {fl : Bool} {z3 z4 : Sl} (h3 : FreeS z3) (h4 : FreeS z4) :
    ∃ (t' : Tls) (fl' : Bool) (x4 : Sl), FreeS x4 ∧ forT (gN 3) L3_Language_shortest_tails (.int (i : Nat)) [.bor (lan0 L (lRows lr)), .own (.lst (t.map tD)), .fro (.bl fl), z3, z4, .no, .no] =
      .nx [.bor (lan0 L (lRows lr)), .own (.lst (t'.map tD)), .fro (.bl fl'), .fro (.int (i : Nat)), x4, .no, .no] ∧ TInv lr t' ∧ ((t' = t ∧ fl' = fl) ∨ (fl' = true ∧ mea t' < mea t)) := by
  have hit : i < t.length := by rw [T.ln]; exact hi
  obtain ⟨b, e, hb⟩ := better_ok l M T hi
  have a1 : ixD (.lst (t.map tD)) (.int (i : Nat)) = .ok (.fro (tD t[i])) := ixD_ln (by rw [List.getElem?_map, List.getElem?_eq_getElem hit]; rfl)
  have rb : ∀ w, b = some w → Rng w := fun w hw => by
    rcases hb with ⟨rfl, _⟩ | ⟨u, rfl, hu, _⟩
    · cases hw
    · cases hw
      rcases cand_rng l T hu with ⟨v, hv, rfl⟩ | ⟨c, v, rfl, hc, hv⟩
      · exact T.rg _ (List.mem_of_getElem? hv)
      · intro x hx
        rcases List.mem_cons.mp hx with rfl | z
        · exact l.rng _ hc
        · exact T.rg v hv x z
  have ne := neR_t (a := b) (b := t[i]) rb (fun w hw => T.rg w (hw ▸ List.getElem_mem hit))
  by_cases h : b = t[i]
  · refine ⟨t, fl, .fro (tD b), FreeS.fro, ?_, T, .inl ⟨rfl, rfl⟩⟩
    rw [decide_eq_true h] at ne
    simp [forT, L3_Language_shortest_tails, h3 _, h4 _, e, a1, ne]
  · obtain ⟨T', hm⟩ := tail_step l M T hi hb (fun _ => h)
    refine ⟨t.set i b, true, .fro (tD b), FreeS.fro, ?_, T', .inr ⟨rfl, hm⟩⟩
    rw [decide_eq_false h] at ne
    have sx : setIx (t.map tD) (i : Int) (tD b) = .ok ((t.set i b).map tD) := by
      unfold setIx
      rw [show ixN (t.map tD).length (i : Int) = some i by unfold ixN; rw [if_pos (by omega), if_pos (by simp; omega)]; rfl]
      rw [List.map_set]
    simp [forT, L3_Language_shortest_tails, h3 _, h4 _, e, a1, ne, sx]
theorem pass_ok (l : Let L) (M : Mach L (lRows lr)) {t : Tls} (T : TInv lr t) {z3 z4 : Sl} (h3 : FreeS z3) (h4 : FreeS z4) :
    ∃ (t' : Tls) (fl' : Bool) (x3 x4 : Sl), FreeS x3 ∧ FreeS x4 ∧ L2_Language_shortest_tails [.bor (lan0 L (lRows lr)), .own (.lst (t.map tD)), .fro (.bl true), z3, z4, .no, .no] =
      .nx [.bor (lan0 L (lRows lr)), .own (.lst (t'.map tD)), .fro (.bl fl'), x3, x4, .no, .no] ∧ TInv lr t' ∧ mea t' ≤ mea t ∧ (fl' = true → mea t' < mea t) := by
  have r6 := M.r6
  rw [lRows_len] at r6
  obtain ⟨ds', e, t', fl', x3, x4, rfl, f3, f4, T', hle, hlt, _⟩ := for_ind (g := gN 3) (body := L3_Language_shortest_tails)
    (J := fun rest ds => ∃ (t' : Tls) (fl' : Bool) (x3 x4 : Sl), ds = [.bor (lan0 L (lRows lr)), .own (.lst (t'.map tD)), .fro (.bl fl'), x3, x4, .no, .no] ∧ FreeS x3 ∧ FreeS x4 ∧ TInv lr t' ∧ mea t' ≤ mea t ∧ (fl' = true → mea t' < mea t) ∧ ∀ x ∈ rest, ∃ i : Nat, x = .int (i : Nat) ∧ i < lr.length)
    (fun d r ds ⟨t1, fl, x3, x4, e, f3, f4, T1, hle, hlt, hr⟩ => by
      subst e
      obtain ⟨i, rfl, hi⟩ := hr d (List.mem_cons_self ..)
      obtain ⟨t2, fl2, y4, g4, e, T2, hh⟩ := turn3 l M T1 hi (fl := fl) f3 f4
      refine ⟨_, e, t2, fl2, _, y4, rfl, FreeS.fro, g4, T2, ?_, ?_, fun x hx => hr x (List.mem_cons_of_mem _ hx)⟩
      · rcases hh with ⟨rfl, _⟩ | ⟨_, h⟩
        · exact hle
        · omega
      · rcases hh with ⟨rfl, rfl⟩ | ⟨_, h⟩
        · exact hlt
        · intro _; omega)
    (xs := rangeD 0 (lr.length : Int).toNat) (ds := [.bor (lan0 L (lRows lr)), .own (.lst (t.map tD)), .fro (.bl false), z3, z4, .no, .no])
    ⟨t, false, z3, z4, rfl, h3, h4, T, Nat.le_refl _, by simp, fun x hx => by
      obtain ⟨i, hi, rfl⟩ := List.mem_map.mp hx
      exact ⟨i, by simp, by simpa using hi⟩⟩
  refine ⟨t', fl', x3, x4, f3, f4, ?_, T', hle, hlt⟩
  have e : forGo (gN 3) L3_Language_shortest_tails (rangeD 0 lr.length) [.bor (lan0 L (lRows lr)), .own (.lst (t.map tD)), .fro (.bl false), z3, z4, .no, .no] = .nx [.bor (lan0 L (lRows lr)), .own (.lst (t'.map tD)), .fro (.bl fl'), x3, x4, .no, .no] := e
  simp [L2_Language_shortest_tails, small_of (n := lr.length) (by omega), e]
theorem mea_le {t : Tls} (h : t.length ≤ 6) (hw : ∀ w, some w ∈ t → Rng w ∧ w.length ≤ 5) : mea t ≤ 6 * 27 ^ 5 := by
  have : ∀ {t : Tls}, (∀ w, some w ∈ t → Rng w ∧ w.length ≤ 5) → mea t ≤ t.length * 27 ^ 5 := by
    intro t
    induction t with
    | nil => intro _; simp [mea]
    | cons o t ih =>
      intro hw
      have h2 := ih fun w h => hw w (List.mem_cons_of_mem _ h)
      have h1 : val o ≤ 27 ^ 5 := by
        cases o with
        | none => exact Nat.le_refl _
        | some w =>
          obtain ⟨a, b⟩ := hw w (List.mem_cons_self ..)
          have h1 := code_lt a
          have h2 : 27 ^ w.length ≤ 27 ^ 5 := Nat.pow_le_pow_right (by decide) b
          show code w ≤ _
          omega
      unfold mea at h2 ⊢
      rw [List.map_cons, List.sum_cons, List.length_cons, Nat.add_mul]
      omega
  exact Nat.le_trans (this hw) (Nat.mul_le_mul_right _ h)
theorem tails_ok (l : Let L) (M : Mach L (lRows lr)) : ∃ t : Tls, F_Language_shortest_tails [.bor (lan0 L (lRows lr))] = .ok (.own (.lst (t.map tD)), [.bor (lan0 L (lRows lr))]) ∧ TInv lr t := by
  have r6 := M.r6
  rw [lRows_len] at r6
  have c1 : lr.length ≤ cap := by show _ ≤ 1000000; omega
  obtain ⟨t0, ht0⟩ : ∃ t0 : Tls, t0 = lr.map fun r => if r.1 then some [] else none := ⟨_, rfl⟩
  have T0 : TInv lr t0 := by
    subst ht0
    refine ⟨by simp, fun w hw => ?_, fun w hw => ?_, fun i hi => ?_⟩
    · obtain ⟨r, _, e⟩ := List.mem_map.mp hw
      cases q : r.1 <;> rw [q] at e <;> simp at e
      subst e; intro c hc; cases hc
    · have := List.countP_pos_iff (p := fun o : Option (List Nat) => o.isSome) (l := lr.map fun r => if r.1 then some [] else none) |>.mpr ⟨_, hw, rfl⟩
      obtain ⟨r, _, e⟩ := List.mem_map.mp hw
      cases q : r.1 <;> rw [q] at e <;> simp at e
      subst e
      exact this
    · unfold accP at hi
      cases q : lr[i]? with
      | none => rw [q] at hi; simp at hi
      | some r => rw [q] at hi; simp at hi; exact ⟨[], by rw [List.getElem?_map, q]; simp [hi]⟩
  have e1 : ∀ a b c d : Sl, lcGo [5, 6] (gTupD 2 (gsCons (gN 5) (gsCons (gN 6) gsNil))) tTrue E1_Language_shortest_tails (lr.map fun r => rowD (.bl r.1, r.2)) [.bor (lan0 L (lRows lr)), a, b, c, d, .no, .no] [] = .ok (lr.map fun r => tD (if r.1 then some [] else none), [.bor (lan0 L (lRows lr)), a, b, c, d, .no, .no]) := fun a b c d =>
    lc_maps (fun r hr => by
      cases q : r.1 <;> simp [lcTurn, E1_Language_shortest_tails, rowD, q, emptyS]) c1
  have e1' : ∀ a b c d : Sl, lcGo [5, 6] (gTupD 2 (gsCons (gN 5) (gsCons (gN 6) gsNil))) tTrue E1_Language_shortest_tails ((lRows lr).map rowD) [.bor (lan0 L (lRows lr)), a, b, c, d, .no, .no] [] = .ok (t0.map tD, [.bor (lan0 L (lRows lr)), a, b, c, d, .no, .no]) := fun a b c d => by
    rw [show (lRows lr).map rowD = lr.map fun r => rowD (.bl r.1, r.2) by simp [lRows], e1 a b c d, ht0]
    simp
  obtain ⟨ds', e2, t, x3, x4, rfl, T⟩ := while_ind (t := tVal (eVar 2)) (body := L2_Language_shortest_tails)
    (J := fun ds => ∃ (t : Tls) (fl : Bool) (x3 x4 : Sl), ds = [.bor (lan0 L (lRows lr)), .own (.lst (t.map tD)), .fro (.bl fl), x3, x4, .no, .no] ∧ FreeS x3 ∧ FreeS x4 ∧ TInv lr t)
    (m := fun ds => match ds with | [_, .own (.lst t), .fro (.bl fl), _, _, _, _] => (t.map fun d => match d with | .str s => code s.cps.toList | _ => 27 ^ 5).sum + (if fl then 1 else 0) | _ => 0)
    (Q := fun ds => ∃ (t : Tls) (x3 x4 : Sl), ds = [.bor (lan0 L (lRows lr)), .own (.lst (t.map tD)), .fro (.bl false), x3, x4, .no, .no] ∧ TInv lr t)
    (fun ds ⟨t, fl, x3, x4, e, f3, f4, T⟩ => by
      subst e
      cases fl with
      | false => exact .inl ⟨_, by simp, t, x3, x4, rfl, T⟩
      | true =>
        obtain ⟨t', fl', y3, y4, g3, g4, e, T', hle, hlt⟩ := pass_ok l M T f3 f4
        refine .inr ⟨[.bor (lan0 L (lRows lr)), .own (.lst (t.map tD)), .fro (.bl true), x3, x4, .no, .no], _, by simp, e, ⟨t', fl', y3, y4, rfl, g3, g4, T'⟩, ?_⟩
        have mm : ∀ t : Tls, ((t.map tD).map fun d => match d with | D.str s => code s.cps.toList | _ => 27 ^ 5).sum = mea t := fun t => by
          unfold mea
          rw [List.map_map]
          refine congrArg List.sum (List.map_congr_left fun o _ => ?_)
          cases o <;> rfl
        show ((t'.map tD).map fun d => match d with | D.str s => code s.cps.toList | _ => 27 ^ 5).sum + (if fl' then 1 else 0) < ((t.map tD).map fun d => match d with | D.str s => code s.cps.toList | _ => 27 ^ 5).sum + 1
        rw [mm, mm]
        cases fl' with
        | false => simp; omega
        | true => have := hlt rfl; simp; omega)
    (n := turns) (ds := [.bor (lan0 L (lRows lr)), .own (.lst (t0.map tD)), .fro (.bl true), .no, .no, .no, .no]) ⟨t0, true, .no, .no, rfl, FreeS.no, FreeS.no, T0⟩ (by
      have mm : ((t0.map tD).map fun d => match d with | D.str s => code s.cps.toList | _ => 27 ^ 5).sum = mea t0 := by
        unfold mea
        rw [List.map_map]
        refine congrArg List.sum (List.map_congr_left fun o _ => ?_)
        cases o <;> rfl
      show ((t0.map tD).map fun d => match d with | D.str s => code s.cps.toList | _ => 27 ^ 5).sum + 1 < 100000000
      rw [mm]
      have c6 : cnt t0 ≤ 6 := by
        have : cnt t0 ≤ t0.length := List.countP_le_length
        rw [T0.ln] at this; omega
      have := mea_le (t := t0) (by rw [T0.ln]; exact r6) (fun w hw => ⟨T0.rg w hw, by have := T0.le w hw; omega⟩)
      omega)
  refine ⟨t, ?_, T⟩
  have e2' : sWhile (tVal (eVar 2)) L2_Language_shortest_tails [.bor (lan0 L (lRows lr)), .own (.lst (t0.map tD)), .fro (.bl true), .no, .no, .no, .no] = .nx [.bor (lan0 L (lRows lr)), .own (.lst (t.map tD)), .fro (.bl false), x3, x4, .no, .no] := e2
  simp [F_Language_shortest_tails, m_Language_shortest_tails, e1', e2']
end
end K23
namespace K23
open PySem PySem.Spec PyProof.Rows L2 DL
open SX (S)
@[simp] theorem eMake_eq {c : Nat} {fn : FnF} {fa : AF} {s0 : Sl} {ds : DS} : eMake c fn fa (s0 :: ds) = (fa (s0 :: ds)).bind fun (p : List Rv × DS) => mkEnd p.2.length (callF fn (.slot p.2.length :: p.1) (p.2 ++ [Sl.own (.ins c [] [])])) := by
  unfold eMake
  cases fa (s0 :: ds) with
  | ok p =>
    simp only [R.bind]
    cases callF fn (.slot p.2.length :: p.1) (p.2 ++ [Sl.own (.ins c [] [])]) with
    | ok q =>
      obtain ⟨rv, ds'⟩ := q
      cases rv with
      | fro d => cases d <;> rfl
      | own d => rfl
      | slot i => rfl
    | err _ _ _ _ => rfl
    | stuck => rfl
  | err _ _ _ _ => rfl
  | stuck => rfl
theorem mkEnd_ok {n : Nat} {ds : DS} {d : D} (h : ds[n]? = some (Sl.own d)) : mkEnd n (.ok (.fro .non, ds)) = .ok (.own d, ds.take n) := by
  unfold mkEnd; simp only [h]
section
variable {L : List Nat} {lr : List LRow}
theorem fold_lan {rows : List MRow} {tl : List D} : D.ins 2 ["own_letters", "own_states", "tails"] [dS L, .tup (rows.map rowD), .lst tl] = lanD L rows tl := rfl
theorem linit (l : Let L) (M : Mach L (lRows lr)) {t : Tls} (ht : F_Language_shortest_tails [.bor (lan0 L (lRows lr))] = .ok (.own (.lst (t.map tD)), [.bor (lan0 L (lRows lr))])) (st : ∀ r ∈ lRows lr, F_Machine_is_state [.bor (lan0 L (lRows lr)), .fro (rowD r)] = .ok (.fro (.bl true), [.bor (lan0 L (lRows lr)), .fro (rowD r)])) :
    F_Language_init (.bor (.ins 2 [] []) :: .fro (dS L) :: ((lRows lr).map rowD).map Sl.fro) = .ok (.fro .non, [.bor (lanT L lr t), .fro (dS L), .fro (.tup ((lRows lr).map rowD))]) := by
  have r6 := M.r6
  have mi := minit2 l M.r1 M.r6 st
  have io : insOf [2] (.ins 2 [] []) = .ok ([], []) := rfl
  have sq : aStar.seqOf (.tup ((lRows lr).map rowD)) = .ok ((lRows lr).map rowD) := rfl
  unfold F_Language_init
  rw [starF2 (by simp at r6 ⊢; omega)]
  simp only [m_Language_init]
  obtain ⟨rs, hrs⟩ : ∃ rs, rs = (lRows lr).map rowD := ⟨_, rfl⟩
  rw [← hrs] at mi sq
  simp only [← hrs]
  simp [io, sq, lents_fros, lend_fros, mi, back_fros, ht]
  rfl
theorem star_21 {gs : List D → DS → R DS} {x : D} {xs : List D} {ds : DS} (h : xs.length ≤ 1000) : gStarD 2 1 gs (.lst (x :: xs)) ds = gs [x, .lst xs] ds := by
  show (if decide (2 ≤ (x :: xs).length + 1) && decide ((x :: xs).length ≤ 16384) then _ else _) = _
  rw [if_pos (by rw [decide_eq_true (by simp), decide_eq_true (by simp; omega)]; rfl)]
  simp
theorem fmoves {a b : Sl} : F_moves_in [a, b] = dfE 2 (FK_moves_in [a, b, .fro (.bl false)]) := by
  simp [F_moves_in, FK_moves_in]
/-- the rows of words are read -/
theorem readO_loop (l : Let L) {t : D} {rs : D} : ∀ {cr : List ORow} {n : Nat} {acc : List ORow} {z4 z5 z6 z7 : Sl}, (∀ r ∈ cr, r.1.Perm (L ++ [46]) ∧ r.2.length = L.length ∧ Small r.2 ∧ ∀ k ∈ r.2, k ≠ none) → acc.length + cr.length ≤ 100 → FreeS z4 → FreeS z5 → FreeS z6 → FreeS z7 →
    ∃ x4 x5 x6 x7, forGo (gTupD 2 (gsCons (gN 4) (gsCons (gStarD 2 1 (gsCons (gN 6) (gsCons (gN 7) gsNil))) gsNil))) L1_read_collation (numsGo n (cr.map wrowD)) [.fro t, .own (.lst ((oRows acc).map rowD)), .fro (dS L), .fro rs, z4, z5, z6, z7] =
      .nx [.fro t, .own (.lst ((oRows (acc ++ cr)).map rowD)), .fro (dS L), .fro rs, x4, x5, x6, x7]
  | [], n, acc, z4, z5, z6, z7, _, _, _, _, _, _ => ⟨z4, z5, z6, z7, by simp [numsGo]⟩
  | r :: cr, n, acc, z4, z5, z6, z7, h, hl, h4, h5, h6, h7 => by
    have hl : acc.length + (cr.length + 1) ≤ 100 := hl
    have l6 := l.l6
    obtain ⟨hp, hlen, hs, hn⟩ := h r (List.mem_cons_self ..)
    have mo := moves_ok (b := false) hs hlen l6 (fun _ => hn)
    have rl := rk_len hp
    have c1 : r.1.length ≤ cap := by show _ ≤ 1000000; omega
    have c2 : L.length + 1 ≤ cap := by show _ ≤ 1000000; omega
    have ad : addD (dS L) (.str (S [46])) = .ok (.fro (dS (L ++ [46]))) := addD_S (by simpa using c2)
    have s1 := sortedD_S c1
    have s2 := sortedD_S (a := L ++ [46]) (by simpa using c2)
    have se := sort_ne l hp
    have apl : acc.length ≤ cap := by show _ ≤ 1000000; omega
    have tx : txD (r.1 :: r.2.map wO) = dS r.1 :: txD (r.2.map wO) := rfl
    have ap2 : (oRows acc).map rowD ++ [D.tup [dS r.1, .tup (r.2.map dO)]] = (oRows (acc ++ [r])).map rowD := by simp [oRows, rowD]
    have sl : (txD (r.2.map wO)).length ≤ 1000 := by simp; omega
    have s21 : ∀ (gs : List D → DS → R DS) (ds : DS), gStarD 2 1 gs (.lst (dS r.1 :: txD (r.2.map wO))) ds = gs [dS r.1, .lst (txD (r.2.map wO))] ds := fun gs ds => star_21 sl
    have e : forT (gTupD 2 (gsCons (gN 4) (gsCons (gStarD 2 1 (gsCons (gN 6) (gsCons (gN 7) gsNil))) gsNil))) L1_read_collation (.tup [.int (n : Nat), wrowD r]) [.fro t, .own (.lst ((oRows acc).map rowD)), .fro (dS L), .fro rs, z4, z5, z6, z7] =
        .nx [.fro t, .own (.lst ((oRows (acc ++ [r])).map rowD)), .fro (dS L), .fro rs, .fro (.int (n : Nat)), .fro (.tup (r.2.map dO)), .fro (dS r.1), .fro (.lst (txD (r.2.map wO)))] := by
      rw [← ap2]
      simp only [wrowD, tx]
      generalize txD (r.2.map wO) = ws at mo s21
      simp [forT, L1_read_collation, h4 _, h5 _, h6 _, h7 _, s21, fmoves, mo, s1, dotS, ad, s2, se, apl]
    obtain ⟨x4, x5, x6, x7, e2⟩ := readO_loop l (t := t) (rs := rs) (cr := cr) (n := n + 1) (acc := acc ++ [r]) (fun q hq => h q (List.mem_cons_of_mem _ hq)) (by simp; omega) FreeS.fro FreeS.fro FreeS.fro FreeS.fro
    refine ⟨x4, x5, x6, x7, ?_⟩
    show forGo _ _ (D.tup [.int (n : Nat), wrowD r] :: numsGo (n + 1) (cr.map wrowD)) _ = _
    rw [forGo_turn e, e2]
    simp
theorem rk_clean (l : Let L) {rk : List Nat} (hp : rk.Perm (L ++ [46])) : Clean rk := fun c hc => by
  rcases List.mem_append.mp (hp.mem_iff.mp hc) with z | z
  · have := l.rng c z; omega
  · simp at z; omega
theorem Ord.sm {cr : List ORow} (O : Ord L cr) : ∀ r ∈ cr, r.1.Perm (L ++ [46]) ∧ r.2.length = L.length ∧ Small r.2 ∧ ∀ k ∈ r.2, k ≠ none := fun r hr => by
  have r6 := O.m.r6
  have hm : (dS r.1, r.2) ∈ oRows cr := List.mem_map.mpr ⟨r, hr, rfl⟩
  exact ⟨O.pm r hr, O.m.len _ hm, fun k hk j hj => by subst hj; have := O.m.mv _ hm j hk; omega, O.al r hr⟩
theorem read_collation_ok (l : Let L) {cr : List ORow} (O : Ord L cr) : F_read_collation [.fro (dS (textP [111, 114, 100, 101, 114] L cr))] = .ok (.own (colD L (oRows cr)), [.fro (dS (textP [111, 114, 100, 101, 114] L cr))]) := by
  have l6 := l.l6
  have r6 := O.m.r6
  have r1 := O.m.r1
  have sm := O.sm
  rw [oRows_len] at r6 r1
  have q1 : Str.ofString "order" = S [111, 114, 100, 101, 114] := by decide
  have li := lines_in_ok (word := [111, 114, 100, 101, 114]) (rs := cr) (fun c hc => by simp at hc; omega) l (fun r hr => rk_clean l (sm r hr).1) (by decide) (by omega) (fun r hr => by
    obtain ⟨hp, hl, _, _⟩ := sm r hr
    have := rk_len hp
    omega)
  obtain ⟨x4, x5, x6, x7, e⟩ := readO_loop l (t := dS (textP [111, 114, 100, 101, 114] L cr)) (rs := .lst (cr.map wrowD)) (cr := cr) (n := 0) (acc := []) (z4 := .no) (z5 := .no) (z6 := .no) (z7 := .no) sm (by simp; omega) FreeS.no FreeS.no FreeS.no FreeS.no
  have ci := cinit l O.m.r1 O.m.r6 (fun r hr => by
    obtain ⟨q, hq, rfl⟩ := List.mem_map.mp hr
    obtain ⟨hp, hl, _, hn⟩ := sm q hq
    exact is_state1 l (by rw [oRows_len]; exact r6) hp hl (fun k hk => by
      cases k with
      | none => exact absurd rfl (hn _ hk)
      | some j => exact ⟨j, O.m.mv _ hr j hk, rfl⟩))
  have sq : aStar.seqOf (.lst ((oRows cr).map rowD)) = .ok ((oRows cr).map rowD) := rfl
  have e : forGo (gTupD 2 (gsCons (gN 4) (gsCons (gStarD 2 1 (gsCons (gN 6) (gsCons (gN 7) gsNil))) gsNil))) L1_read_collation (numsD (cr.map wrowD)) [.fro (dS (textP [111, 114, 100, 101, 114] L cr)), .own (.lst []), .fro (dS L), .fro (.lst (cr.map wrowD)), .no, .no, .no, .no] = .nx [.fro (dS (textP [111, 114, 100, 101, 114] L cr)), .own (.lst ((oRows cr).map rowD)), .fro (dS L), .fro (.lst (cr.map wrowD)), x4, x5, x6, x7] := e
  simp only [F_read_collation, m_read_collation, fnN_eq, fnB_eq]
  generalize (oRows cr).map rowD = rs at e sq ci
  simp [q1, li, e, sq, lents_fros, lend_fros, ci, back_fros, mkEnd_ok]
theorem readL_loop (l : Let L) {t : D} {rs : D} : ∀ {lr : List LRow} {n : Nat} {acc : List LRow} {z4 z5 z6 z7 : Sl}, (∀ r ∈ lr, r.2.length = L.length ∧ Small r.2) → acc.length + lr.length ≤ 100 → FreeS z4 → FreeS z5 → FreeS z6 → FreeS z7 →
    ∃ x4 x5 x6 x7, forGo (gTupD 2 (gsCons (gN 4) (gsCons (gStarD 2 1 (gsCons (gN 6) (gsCons (gN 7) gsNil))) gsNil))) L1_read_language (numsGo n (lr.map fun r => wrowD (yesNo r.1, r.2))) [.fro t, .own (.lst ((lRows acc).map rowD)), .fro (dS L), .fro rs, z4, z5, z6, z7] =
      .nx [.fro t, .own (.lst ((lRows (acc ++ lr)).map rowD)), .fro (dS L), .fro rs, x4, x5, x6, x7]
  | [], n, acc, z4, z5, z6, z7, _, _, _, _, _, _ => ⟨z4, z5, z6, z7, by simp [numsGo]⟩
  | r :: lr, n, acc, z4, z5, z6, z7, h, hl, h4, h5, h6, h7 => by
    have hl : acc.length + (lr.length + 1) ≤ 100 := hl
    have l6 := l.l6
    obtain ⟨hlen, hs⟩ := h r (List.mem_cons_self ..)
    have mo := moves_ok (b := true) hs hlen l6 (fun e => by cases e)
    have apl : acc.length ≤ cap := by show _ ≤ 1000000; omega
    have tx : txD (yesNo r.1 :: r.2.map wO) = dS (yesNo r.1) :: txD (r.2.map wO) := rfl
    have ap2 : (lRows acc).map rowD ++ [D.tup [.bl r.1, .tup (r.2.map dO)]] = (lRows (acc ++ [r])).map rowD := by simp [lRows, rowD]
    have s21 : ∀ (gs : List D → DS → R DS) (ds : DS), gStarD 2 1 gs (.lst (dS (yesNo r.1) :: txD (r.2.map wO))) ds = gs [dS (yesNo r.1), .lst (txD (r.2.map wO))] ds := fun gs ds => star_21 (by simp; omega)
    have i1 : DL.inR true (dS (yesNo r.1)) (.tup [.str "yes", .str "no"]) = .ok (.fro (.bl false)) := by cases r.1 <;> rfl
    have q2 : eqR (dS (yesNo r.1)) (.str "yes") = .ok (.fro (.bl r.1)) := by cases r.1 <;> rfl
    have e : forT (gTupD 2 (gsCons (gN 4) (gsCons (gStarD 2 1 (gsCons (gN 6) (gsCons (gN 7) gsNil))) gsNil))) L1_read_language (.tup [.int (n : Nat), wrowD (yesNo r.1, r.2)]) [.fro t, .own (.lst ((lRows acc).map rowD)), .fro (dS L), .fro rs, z4, z5, z6, z7] =
        .nx [.fro t, .own (.lst ((lRows (acc ++ [r])).map rowD)), .fro (dS L), .fro rs, .fro (.int (n : Nat)), .fro (.tup (r.2.map dO)), .fro (dS (yesNo r.1)), .fro (.lst (txD (r.2.map wO)))] := by
      rw [← ap2]
      simp only [wrowD, tx]
      generalize txD (r.2.map wO) = ws at mo s21
      simp [forT, L1_read_language, h4 _, h5 _, h6 _, h7 _, s21, mo, i1, q2, apl, -eqR_str]
    obtain ⟨x4, x5, x6, x7, e2⟩ := readL_loop l (t := t) (rs := rs) (lr := lr) (n := n + 1) (acc := acc ++ [r]) (fun q hq => h q (List.mem_cons_of_mem _ hq)) (by simp; omega) FreeS.fro FreeS.fro FreeS.fro FreeS.fro
    refine ⟨x4, x5, x6, x7, ?_⟩
    show forGo _ _ (D.tup [.int (n : Nat), wrowD (yesNo r.1, r.2)] :: numsGo (n + 1) (lr.map fun r => wrowD (yesNo r.1, r.2))) _ = _
    rw [forGo_turn e, e2]
    simp
abbrev langW : List Nat := [108, 97, 110, 103, 117, 97, 103, 101]
abbrev yn (lr : List LRow) : List RW := lr.map fun r => (yesNo r.1, r.2)
theorem read_language_ok (l : Let L) (W : LanW L lr) : ∃ t : Tls, TInv lr t ∧ F_read_language [.fro (dS (textP langW L (yn lr)))] = .ok (.own (lanT L lr t), [.fro (dS (textP langW L (yn lr)))]) := by
  have l6 := l.l6
  have r6 := W.h6
  have r1 := W.h1
  have M : Mach L (lRows lr) := W.o.mach l r1 r6
  have sm : ∀ r ∈ lr, r.2.length = L.length ∧ Small r.2 := fun r hr => ⟨W.o.len r hr, fun k hk j hj => by have := W.o.mv r hr k hk j hj; omega⟩
  have q1 : Str.ofString "language" = S langW := by decide
  have yc : ∀ b, Clean (yesNo b) := fun b c hc => by
    cases b <;> simp [yesNo] at hc <;> omega
  have yl : ∀ b, (yesNo b).length ≤ 7 := fun b => by cases b <;> decide
  have li := lines_in_ok (word := langW) (rs := yn lr) (fun c hc => by simp at hc; omega) l (fun r hr => by
    obtain ⟨q, hq, rfl⟩ := List.mem_map.mp hr; exact yc q.1) (by decide) (by simp; omega) (fun r hr => by
    obtain ⟨q, hq, rfl⟩ := List.mem_map.mp hr
    have := yl q.1
    have := (sm q hq).1
    exact ⟨by show (yesNo q.1).length ≤ 100; omega, by show q.2.length ≤ 100; omega⟩)
  obtain ⟨x4, x5, x6, x7, e⟩ := readL_loop l (t := dS (textP langW L (yn lr))) (rs := .lst ((yn lr).map wrowD)) (lr := lr) (n := 0) (acc := []) (z4 := .no) (z5 := .no) (z6 := .no) (z7 := .no) sm (by simp; omega) FreeS.no FreeS.no FreeS.no FreeS.no
  obtain ⟨t, ht, T⟩ := tails_ok l M
  have ci := linit l M ht (fun r hr => by
    obtain ⟨q, hq, rfl⟩ := List.mem_map.mp hr
    exact is_state2 l (by rw [lRows_len]; exact r6) (sm q hq).1 (fun k hk j hj => by rw [lRows_len]; exact W.o.mv q hq k hk j hj))
  have sq : aStar.seqOf (.lst ((lRows lr).map rowD)) = .ok ((lRows lr).map rowD) := rfl
  have e : forGo (gTupD 2 (gsCons (gN 4) (gsCons (gStarD 2 1 (gsCons (gN 6) (gsCons (gN 7) gsNil))) gsNil))) L1_read_language (numsD ((yn lr).map wrowD)) [.fro (dS (textP langW L (yn lr))), .own (.lst []), .fro (dS L), .fro (.lst ((yn lr).map wrowD)), .no, .no, .no, .no] = .nx [.fro (dS (textP langW L (yn lr))), .own (.lst ((lRows lr).map rowD)), .fro (dS L), .fro (.lst ((yn lr).map wrowD)), x4, x5, x6, x7] := by
    have : (yn lr).map wrowD = lr.map fun r => wrowD (yesNo r.1, r.2) := by simp
    rw [this] at e ⊢
    exact e
  refine ⟨t, T, ?_⟩
  simp only [F_read_language, m_read_language, fnN_eq, fnB_eq]
  generalize (lRows lr).map rowD = rs at e sq ci
  generalize (yn lr).map wrowD = ws at li e
  simp [q1, li, e, sq, lents_fros, lend_fros, ci, back_fros, mkEnd_ok]
end
end K23
namespace K23
open PySem PySem.Spec PyProof.Rows L2 DL
open SX (S)
section
variable {L : List Nat} {od nw : List ORow} {lr : List LRow} {t : Tls}
theorem fold_up {a b c : D} : D.ins 3 ["own_old", "own_new", "own_language"] [a, b, c] = upD a b c := rfl
theorem uinit : F_Upgrade_init [.bor (.ins 3 [] []), .fro (colD L (oRows od)), .fro (colD L (oRows nw)), .own (lanT L lr t)] = .ok (.fro .non, [.bor (upD (colD L (oRows od)) (colD L (oRows nw)) (lanT L lr t)), .fro (colD L (oRows od)), .fro (colD L (oRows nw)), .fro (lanT L lr t)]) := by
  have ne : ∀ a : Str, neR (.str a) (.str a) = .ok (.fro (.bl false)) := fun a => by rw [neR_str]; simp
  simp [F_Upgrade_init, m_Upgrade_init, forGo_cons, L1_Upgrade_init, ne]
  rfl
theorem made_ok (l : Let L) (O : Ord L od) (W : Ord L nw) (Ln : LanW L lr) : ∃ t : Tls, TInv lr t ∧ F__law_made [.fro (plainD L od nw lr)] = .ok (.own (upD (colD L (oRows od)) (colD L (oRows nw)) (lanT L lr t)), [.fro (plainD L od nw lr)]) := by
  have l6 := l.l6
  have ord : ∀ {cr : List ORow}, Ord L cr → F__law_machine_lines [.fro (.str "order"), .fro (dS L), .fro (.lst ((oRows cr).map rowD))] = .ok (.fro (dS (textP [111, 114, 100, 101, 114] L cr)), [.fro (.str "order"), .fro (dS L), .fro (.lst ((oRows cr).map rowD))]) := fun {cr} O =>
    linesO_ok l6 (by have := O.m.r6; rwa [oRows_len] at this) (fun r hr => by
      obtain ⟨hp, hl, hs, _⟩ := O.sm r hr
      have := rk_len hp
      exact ⟨by omega, by omega, hs⟩)
  have lan : F__law_machine_lines [.fro (.str "language"), .fro (dS L), .fro (.lst ((lRows lr).map rowD))] = .ok (.fro (dS (textP langW L (yn lr))), [.fro (.str "language"), .fro (dS L), .fro (.lst ((lRows lr).map rowD))]) :=
    linesL_ok l6 Ln.h6 (fun r hr => ⟨by rw [Ln.o.len r hr]; exact l6, fun k hk j hj => by have := Ln.o.mv r hr k hk j hj; have := Ln.h6; omega⟩)
  obtain ⟨t, T, rl⟩ := read_language_ok l Ln
  have ro := read_collation_ok l O
  have rw' := read_collation_ok l W
  have lo := ord O
  have lw := ord W
  have ui := uinit (L := L) (od := od) (nw := nw) (lr := lr) (t := t)
  refine ⟨t, T, ?_⟩
  have e1 : lcGo [6] (gN 6) tTrue E1__law_made [.lst ((oRows od).map rowD), .lst ((oRows nw).map rowD)] [.fro (plainD L od nw lr), .no, .fro (dS L), .fro (.lst ((oRows od).map rowD)), .fro (.lst ((oRows nw).map rowD)), .fro (.lst ((lRows lr).map rowD)), .no] [] = .ok ([colD L (oRows od), colD L (oRows nw)], [.fro (plainD L od nw lr), .no, .fro (dS L), .fro (.lst ((oRows od).map rowD)), .fro (.lst ((oRows nw).map rowD)), .fro (.lst ((lRows lr).map rowD)), .no]) := by
    have := lc_maps (vs := [6]) (g := gN 6) (t := tTrue) (elt := E1__law_made) (h := fun cr => D.lst ((oRows cr).map rowD)) (f := fun cr => colD L (oRows cr)) (ds := [.fro (plainD L od nw lr), .no, .fro (dS L), .fro (.lst ((oRows od).map rowD)), .fro (.lst ((oRows nw).map rowD)), .fro (.lst ((lRows lr).map rowD)), .no]) (xs := [od, nw]) (fun cr hc => by
      simp at hc
      rcases hc with rfl | rfl
      · simp [lcTurn, E1__law_made, lo, ro]
      · simp [lcTurn, E1__law_made, lw, rw']) cap_2
    exact this
  have pl : plainD L od nw lr = .tup [dS L, .lst ((oRows od).map rowD), .lst ((oRows nw).map rowD), .lst ((lRows lr).map rowD)] := rfl
  simp only [F__law_made, m__law_made, fnN_eq, fnB_eq]
  rw [pl] at e1 ⊢
  generalize (oRows od).map rowD = r1 at e1
  generalize (oRows nw).map rowD = r2 at e1
  generalize (lRows lr).map rowD = r3 at e1 lan
  simp [e1, lan, rl, ui, mkEnd_ok]
end
def CF (z : Sl) : Prop := z = .no ∨ ∃ d, z = .fro d
theorem CF.free {z : Sl} (h : CF z) : FreeS z := by
  rcases h with rfl | ⟨d, rfl⟩
  · exact FreeS.no
  · exact FreeS.fro
theorem CF.comp {z : Sl} (h : CF z) (r : DS) : compF (z :: r) 0 = true := by
  rcases h with rfl | ⟨d, rfl⟩ <;> rfl
theorem CF.fro {d : D} : CF (.fro d) := .inr ⟨d, rfl⟩
theorem CF.no : CF .no := .inl rfl
def layD (p : List Nat × Nat) : D := .tup [dS p.1, .int (p.2 : Nat)]
structure Good (L : List Nat) (lr : List LRow) (k : Nat) (p : List Nat × Nat) : Prop where
  w : ∀ c ∈ p.1, c ∈ L
  r : runP L (lRows lr) (some 0) p.1 = some p.2
  s : p.2 < lr.length
  l : p.1.length ≤ k
def pairD (p : Nat × Option Nat) : D := .tup [.str (S [p.1]), dO p.2]
theorem pairs_mv {l : List Nat} {m : List (Option Nat)} : pairsD (l.map fun c => D.str (S [c])) (m.map dO) = (l.zip m).map pairD := by
  unfold pairsD
  rw [List.zip, List.map_zipWith, List.zipWith_map]; rfl
theorem zip_mv {L : List Nat} {lr : List LRow} (M : Mach L (lRows lr)) {s : Nat} (hs : s < lr.length) {c : Nat} {k : Option Nat} (h : (c, k) ∈ L.zip lr[s].2) : c ∈ L ∧ mvP L (lRows lr) s c = k := by
  obtain ⟨i, hi, e⟩ := List.mem_iff_getElem.mp h
  rw [List.getElem_zip] at e
  rw [List.length_zip] at hi
  have h1 : i < L.length := by omega
  have h2 : i < lr[s].2.length := by omega
  have e1 : L[i] = c := (Prod.mk.inj e).1
  have e2 : lr[s].2[i] = k := (Prod.mk.inj e).2
  refine ⟨e1 ▸ List.getElem_mem h1, ?_⟩
  have hi : L.idxOf c = i := by rw [← e1]; exact List.Nodup.idxOf_getElem M.nd i h1
  unfold mvP lRows
  rw [List.getElem?_map, List.getElem?_eq_getElem hs]
  simp [hi, List.getElem?_eq_getElem h2, e2]
section
variable {L : List Nat} {lr : List LRow} {a0 a1 a2 a4 a5 a7 a8 : Sl}
theorem run_snoc {rows : List MRow} {s : Option Nat} {w : List Nat} {c : Nat} : runP L rows s (w ++ [c]) = stepP L rows (runP L rows s w) c := by simp [runP]
theorem l4_loop (M : Mach L (lRows lr)) {k : Nat} (hk : k ≤ 10) {p : List Nat × Nat} (G : Good L lr k p) :
    ∀ {ps : List (Nat × Option Nat)} {lat : List (List Nat × Nat)} {z12 z13 : Sl}, (∀ q ∈ ps, q.1 ∈ L ∧ mvP L (lRows lr) p.2 q.1 = q.2) → lat.length + ps.length ≤ 500000 → (∀ q ∈ lat, Good L lr (k + 1) q) → FreeS z12 → FreeS z13 →
      ∃ (lat' : List (List Nat × Nat)) (x12 x13 : Sl), forGo (gTupD 2 (gsCons (gN 12) (gsCons (gN 13) gsNil))) L4__law_texts (ps.map pairD) [a0, a1, a2, .fro (dS L), a4, a5, .fro (.lst ((lRows lr).map rowD)), a7, a8, .own (.lst (lat.map layD)), .fro (dS p.1), .fro (.int (p.2 : Nat)), z12, z13] =
        .nx [a0, a1, a2, .fro (dS L), a4, a5, .fro (.lst ((lRows lr).map rowD)), a7, a8, .own (.lst (lat'.map layD)), .fro (dS p.1), .fro (.int (p.2 : Nat)), x12, x13] ∧ FreeS x12 ∧ FreeS x13 ∧ (∀ q ∈ lat', Good L lr (k + 1) q) ∧ lat'.length ≤ lat.length + ps.length
  | [], lat, z12, z13, _, _, hg, h12, h13 => ⟨lat, z12, z13, rfl, h12, h13, hg, by simp⟩
  | (c, j) :: ps, lat, z12, z13, hp, hl, hg, h12, h13 => by
    have hl : lat.length + (ps.length + 1) ≤ 500000 := hl
    obtain ⟨hc, hm⟩ := hp (c, j) (List.mem_cons_self ..)
    have gl := G.l
    have ad : addD (dS p.1) (.str (S [c])) = .ok (.fro (dS (p.1 ++ [c]))) := addD_S (b := [c]) (by show _ ≤ 1000000; simp; omega)
    have apl : lat.length ≤ cap := by show _ ≤ 1000000; omega
    cases j with
    | none =>
      obtain ⟨lat', x12, x13, e, f12, f13, hg', hl'⟩ := l4_loop M hk G (ps := ps) (lat := lat) (fun q hq => hp q (List.mem_cons_of_mem _ hq)) (by omega) hg (FreeS.fro (d := .str (S [c]))) (FreeS.fro (d := .non))
      refine ⟨lat', x12, x13, ?_, f12, f13, hg', by simp; omega⟩
      rw [List.map_cons, forGo_turn, e]
      simp [forT, L4__law_texts, pairD, h12 _, h13 _]
    | some j =>
      have gq : Good L lr (k + 1) (p.1 ++ [c], j) := ⟨fun x hx => by
        rcases List.mem_append.mp hx with z | z
        · exact G.w x z
        · simp at z; rw [z]; exact hc, by
        show runP L (lRows lr) (some 0) (p.1 ++ [c]) = some j
        rw [run_snoc, G.r]; exact hm, by have := mv_below M j hm; rwa [lRows_len] at this, by simp; omega⟩
      obtain ⟨lat', x12, x13, e, f12, f13, hg', hl'⟩ := l4_loop M hk G (ps := ps) (lat := lat ++ [(p.1 ++ [c], j)]) (fun q hq => hp q (List.mem_cons_of_mem _ hq)) (by simp; omega) (fun q hq => by
        rcases List.mem_append.mp hq with z | z
        · exact hg q z
        · simp at z; rw [z]; exact gq) (FreeS.fro (d := .str (S [c]))) (FreeS.fro (d := .int (j : Nat)))
      refine ⟨lat', x12, x13, ?_, f12, f13, hg', by simp at hl' ⊢; omega⟩
      have ap2 : (lat ++ [(p.1 ++ [c], j)]).map layD = lat.map layD ++ [.tup [dS (p.1 ++ [c]), .int (j : Nat)]] := by simp [layD]
      rw [ap2] at e
      rw [List.map_cons, forGo_turn, e]
      simp [forT, L4__law_texts, pairD, h12 _, h13 _, ad, apl]
theorem row_at {lr : List LRow} {s : Nat} (hs : s < lr.length) : ixD (.lst ((lRows lr).map rowD)) (.int (s : Nat)) = .ok (.fro (rowD (.bl lr[s].1, lr[s].2))) := ixD_ln (by rw [List.getElem?_map, lRows, List.getElem?_map, List.getElem?_eq_getElem hs]; rfl)
theorem l3_loop (M : Mach L (lRows lr)) {k : Nat} (hk : k ≤ 10) :
    ∀ {lay lat : List (List Nat × Nat)} {z10 z11 z12 z13 : Sl}, (∀ q ∈ lay, Good L lr k q) → lat.length + lay.length * 6 ≤ 500000 → (∀ q ∈ lat, Good L lr (k + 1) q) → CF z10 → CF z11 → FreeS z12 → FreeS z13 →
      ∃ (lat' : List (List Nat × Nat)) (x10 x11 x12 x13 : Sl), forGo (gTupD 2 (gsCons (gN 10) (gsCons (gN 11) gsNil))) L3__law_texts (lay.map layD) [a0, a1, a2, .fro (dS L), a4, a5, .fro (.lst ((lRows lr).map rowD)), a7, a8, .own (.lst (lat.map layD)), z10, z11, z12, z13] =
        .nx [a0, a1, a2, .fro (dS L), a4, a5, .fro (.lst ((lRows lr).map rowD)), a7, a8, .own (.lst (lat'.map layD)), x10, x11, x12, x13] ∧ CF x10 ∧ CF x11 ∧ FreeS x12 ∧ FreeS x13 ∧ (∀ q ∈ lat', Good L lr (k + 1) q) ∧ lat'.length ≤ lat.length + lay.length * 6
  | [], lat, z10, z11, z12, z13, _, _, hg, h10, h11, h12, h13 => ⟨lat, z10, z11, z12, z13, rfl, h10, h11, h12, h13, hg, by simp⟩
  | p :: lay, lat, z10, z11, z12, z13, hp, hl, hg, h10, h11, h12, h13 => by
    have hl : lat.length + (lay.length + 1) * 6 ≤ 500000 := hl
    have G := hp p (List.mem_cons_self ..)
    have l6 := M.l6
    have hs := G.s
    have a1' := row_at G.s
    have hz : (L.zip lr[p.2].2).length ≤ 6 := by rw [List.length_zip]; omega
    obtain ⟨lat1, x12, x13, e, f12, f13, hg1, hl1⟩ := l4_loop (a0 := a0) (a1 := a1) (a2 := a2) (a4 := a4) (a5 := a5) (a7 := a7) (a8 := a8) M hk G (ps := L.zip lr[p.2].2) (lat := lat) (fun q hq => zip_mv M G.s hq) (by omega) hg h12 h13
    obtain ⟨lat', x10, x11, y12, y13, e2, f10, f11, g12, g13, hg', hl'⟩ := l3_loop M hk (lay := lay) (lat := lat1) (fun q hq => hp q (List.mem_cons_of_mem _ hq)) (by omega) hg1 (CF.fro (d := dS p.1)) (CF.fro (d := .int (p.2 : Nat))) f12 f13
    refine ⟨lat', x10, x11, y12, y13, ?_, f10, f11, g12, g13, hg', by simp; omega⟩
    have pm := pairs_mv (l := L) (m := lr[p.2].2)
    rw [List.map_cons, forGo_turn, e2]
    simp [forT, L3__law_texts, layD, h10.free _, h11.free _, a1', rowD, pm, e]
theorem found_comp {lay : List (List Nat × Nat)} {b0 b1 b2 b3 b4 b5 b7 b8 b9 : Sl} (hs : ∀ p ∈ lay, p.2 < lr.length) (hl : lay.length ≤ 100000) {x12 x13 : Sl} {z10 z11 : Sl} :
    lcGo [10, 11] (gTupD 2 (gsCons (gN 10) (gsCons (gN 11) gsNil))) T2__law_texts E2__law_texts (lay.map layD) [b0, b1, b2, b3, b4, b5, .fro (.lst ((lRows lr).map rowD)), b7, b8, b9, z10, z11, x12, x13] [] =
      .ok (txD ((lay.filter fun p => accP lr p.2).map (·.1)), [b0, b1, b2, b3, b4, b5, .fro (.lst ((lRows lr).map rowD)), b7, b8, b9, z10, z11, x12, x13]) := by
  have := lc_filt (vs := [10, 11]) (g := gTupD 2 (gsCons (gN 10) (gsCons (gN 11) gsNil))) (t := T2__law_texts) (elt := E2__law_texts) (h := layD) (f := fun p => if accP lr p.2 then some (dS p.1) else none) (ds := [b0, b1, b2, b3, b4, b5, .fro (.lst ((lRows lr).map rowD)), b7, b8, b9, z10, z11, x12, x13]) (xs := lay) (fun p hp => by
    have a1 := row_at (hs p hp)
    have ha : accP lr p.2 = (lr[p.2]'(hs p hp)).1 := by unfold accP; rw [List.getElem?_eq_getElem (hs p hp)]; rfl
    cases q : (lr[p.2]'(hs p hp)).1 with
    | true => rw [q] at a1 ha; simp [lcTurn, T2__law_texts, E2__law_texts, layD, a1, rowD, ha]
    | false => rw [q] at a1 ha; simp [lcTurn, T2__law_texts, E2__law_texts, layD, a1, rowD, ha]) (by show _ ≤ 1000000; omega)
  rw [this, filterMap_if]
  simp [txD]
/-- a text of the language, found -/
structure Fnd (L : List Nat) (lr : List LRow) (w : List Nat) : Prop where
  lets : ∀ c ∈ w, c ∈ L
  len : w.length ≤ 10
  acc : ∃ s, runP L (lRows lr) (some 0) w = some s ∧ accP lr s = true
theorem l1_turn (M : Mach L (lRows lr)) {k : Nat} (hk : k ≤ 4) {lay : List (List Nat × Nat)} {fnd : List (List Nat)} {d : D} {z2 z7 z9 z10 z11 z12 z13 : Sl} (h7 : z7 = .own (.lst (lay.map layD)) ∨ z7 = .fro (.lst (lay.map layD)))
    (hg : ∀ q ∈ lay, Good L lr k q) (hl : lay.length ≤ 6 ^ k) (hf : ∀ w ∈ fnd, Fnd L lr w) (hfl : fnd.length ≤ k * 7776) (h2 : FreeS z2) (h9 : FreeS z9) (h10 : CF z10) (h11 : CF z11) (h12 : FreeS z12) (h13 : FreeS z13) :
    ∃ (lay' : List (List Nat × Nat)) (fnd' : List (List Nat)) (x10 x11 x12 x13 : Sl), forT (gN 2) L1__law_texts d [a0, a1, z2, .fro (dS L), a4, a5, .fro (.lst ((lRows lr).map rowD)), z7, .own (.lst (txD fnd)), z9, z10, z11, z12, z13] =
      .nx [a0, a1, .fro d, .fro (dS L), a4, a5, .fro (.lst ((lRows lr).map rowD)), .fro (.lst (lay'.map layD)), .own (.lst (txD fnd')), .fro (.lst (lay'.map layD)), x10, x11, x12, x13] ∧
      (∀ q ∈ lay', Good L lr (k + 1) q) ∧ lay'.length ≤ 6 ^ (k + 1) ∧ (∀ w ∈ fnd', Fnd L lr w) ∧ fnd'.length ≤ (k + 1) * 7776 ∧ CF x10 ∧ CF x11 ∧ FreeS x12 ∧ FreeS x13 := by
  have h6 : 6 ^ k ≤ 6 ^ 4 := Nat.pow_le_pow_right (by decide) hk
  have h64 : (6 : Nat) ^ 4 = 1296 := by decide
  obtain ⟨lay', x10, x11, x12, x13, e, f10, f11, f12, f13, hg', hl'⟩ := l3_loop (a0 := a0) (a1 := a1) (a2 := .fro d) (a4 := a4) (a5 := a5) (a7 := .fro (.lst (lay.map layD))) (a8 := .own (.lst (txD (fnd ++ (lay.filter fun p => accP lr p.2).map (·.1))))) M (k := k) (by omega) (lay := lay) (lat := []) hg (by simp; omega) (by simp) h10 h11 h12 h13
  have fl : (lay.filter fun p => accP lr p.2).length ≤ lay.length := List.length_filter_le _ _
  refine ⟨lay', fnd ++ (lay.filter fun p => accP lr p.2).map (·.1), x10, x11, x12, x13, ?_, hg', ?_, ?_, ?_, f10, f11, f12, f13⟩
  · have fc := fun b7 => found_comp (lr := lr) (lay := lay) (b0 := a0) (b1 := a1) (b2 := .fro d) (b3 := .fro (dS L)) (b4 := a4) (b5 := a5) (b7 := b7) (b8 := .own (.lst (txD fnd))) (b9 := z9) (x12 := z12) (x13 := z13) (z10 := z10) (z11 := z11) (fun p hp => (hg p hp).s) (by omega)
    have fc := fc (.fro (.lst (lay.map layD)))
    have ad : addD (.lst (txD fnd)) (.lst (txD ((lay.filter fun p => accP lr p.2).map (·.1)))) = .ok (.own (.lst (txD (fnd ++ (lay.filter fun p => accP lr p.2).map (·.1))))) := by
      rw [addD_lst (by simp; show _ ≤ 1000000; omega)]
      simp [txD]
    have e : forGo (gTupD 2 (gsCons (gN 10) (gsCons (gN 11) gsNil))) L3__law_texts (lay.map layD) [a0, a1, .fro d, .fro (dS L), a4, a5, .fro (.lst ((lRows lr).map rowD)), .fro (.lst (lay.map layD)), .own (.lst (txD (fnd ++ (lay.filter fun p => accP lr p.2).map (·.1)))), .own (.lst []), z10, z11, z12, z13] = _ := e
    generalize (lay.filter fun p => accP lr p.2).map (·.1) = F1 at fc ad e
    generalize lay.map layD = LM at fc e h7
    rcases h7 with rfl | rfl <;> simp [forT, L1__law_texts, h2 _, h9 _, h10.comp, h11.comp, fc, ad, e]
  · rw [Nat.pow_succ]; simp at hl'; omega
  · intro w hw
    rcases List.mem_append.mp hw with z | z
    · exact hf w z
    · obtain ⟨p, hp, rfl⟩ := List.mem_map.mp z
      obtain ⟨hp, ha⟩ := List.mem_filter.mp hp
      have G := hg p hp
      exact ⟨G.w, by have := G.l; omega, p.2, G.r, ha⟩
  · simp only [List.length_append, List.length_map]; omega
theorem texts_ok (l : Let L) {od nw : List ORow} (M : Mach L (lRows lr)) : ∃ fnd : List (List Nat), F__law_texts [.fro (plainD L od nw lr), .fro (.int 4)] = .ok (.own (.lst (txD fnd)), [.fro (plainD L od nw lr), .fro (.int 4)]) ∧ (∀ w ∈ fnd, Fnd L lr w) ∧ fnd.length ≤ 38880 := by
  have l6 := l.l6
  have c1 : L.length ≤ cap := by show _ ≤ 1000000; omega
  have r1 := M.r1
  rw [lRows_len] at r1
  obtain ⟨n, hn, hn5⟩ : ∃ n : Nat, n = (if L.length = 6 then 4 else 5) ∧ n ≤ 5 := ⟨_, rfl, by split <;> decide⟩
  obtain ⟨ds', e, k, lay, fnd, z2, z7, z9, x10, x11, x12, x13, rfl, hk, h7, hg, hl, hf, hfl, f2, f9, f10, f11, f12, f13⟩ := for_ind (g := gN 2) (body := L1__law_texts)
    (J := fun rest ds => ∃ (k : Nat) (lay : List (List Nat × Nat)) (fnd : List (List Nat)) (z2 z7 z9 x10 x11 x12 x13 : Sl), ds = [.fro (plainD L od nw lr), .fro (.int 4), z2, .fro (dS L), .fro (.lst ((oRows od).map rowD)), .fro (.lst ((oRows nw).map rowD)), .fro (.lst ((lRows lr).map rowD)), z7, .own (.lst (txD fnd)), z9, x10, x11, x12, x13] ∧ k + rest.length = n ∧
      (z7 = .own (.lst (lay.map layD)) ∨ z7 = .fro (.lst (lay.map layD))) ∧ (∀ q ∈ lay, Good L lr k q) ∧ lay.length ≤ 6 ^ k ∧ (∀ w ∈ fnd, Fnd L lr w) ∧ fnd.length ≤ k * 7776 ∧ FreeS z2 ∧ FreeS z9 ∧ CF x10 ∧ CF x11 ∧ FreeS x12 ∧ FreeS x13)
    (fun d r ds ⟨k, lay, fnd, z2, z7, z9, x10, x11, x12, x13, e, hk, h7, hg, hl, hf, hfl, f2, f9, f10, f11, f12, f13⟩ => by
      subst e
      have hk : k + (r.length + 1) = n := hk
      obtain ⟨lay', fnd', y10, y11, y12, y13, e, hg', hl', hf', hfl', g10, g11, g12, g13⟩ := l1_turn (a0 := .fro (plainD L od nw lr)) (a1 := .fro (.int 4)) (a4 := .fro (.lst ((oRows od).map rowD))) (a5 := .fro (.lst ((oRows nw).map rowD))) M (k := k) (by omega) (d := d) h7 hg hl hf hfl f2 f9 f10 f11 f12 f13
      exact ⟨_, e, k + 1, lay', fnd', _, _, _, y10, y11, y12, y13, rfl, by omega, .inr rfl, hg', hl', hf', hfl', FreeS.fro, FreeS.fro, g10, g11, g12, g13⟩)
    (xs := rangeD 0 (n : Int).toNat) (ds := [.fro (plainD L od nw lr), .fro (.int 4), .no, .fro (dS L), .fro (.lst ((oRows od).map rowD)), .fro (.lst ((oRows nw).map rowD)), .fro (.lst ((lRows lr).map rowD)), .own (.lst [.tup [dS [], .int 0]]), .own (.lst (txD [])), .no, .no, .no, .no, .no])
    ⟨0, [([], 0)], [], .no, _, .no, .no, .no, .no, .no, rfl, by rw [rangeD_len]; simp, .inl rfl, fun q hq => by
      simp at hq; subst hq
      exact ⟨by simp, rfl, by show 0 < lr.length; omega, by simp⟩, by simp, by simp, by simp, FreeS.no, FreeS.no, CF.no, CF.no, FreeS.no, FreeS.no⟩
  refine ⟨fnd, ?_, hf, by simp at hk; omega⟩
  have e : forGo (gN 2) L1__law_texts (rangeD 0 n) [.fro (plainD L od nw lr), .fro (.int 4), .no, .fro (dS L), .fro (.lst ((oRows od).map rowD)), .fro (.lst ((oRows nw).map rowD)), .fro (.lst ((lRows lr).map rowD)), .own (.lst [.tup [dS [], .int 0]]), .own (.lst []), .no, .no, .no, .no, .no] = .nx [.fro (plainD L od nw lr), .fro (.int 4), z2, .fro (dS L), .fro (.lst ((oRows od).map rowD)), .fro (.lst ((oRows nw).map rowD)), .fro (.lst ((lRows lr).map rowD)), z7, .own (.lst (txD fnd)), z9, x10, x11, x12, x13] := e
  have pl : plainD L od nw lr = .tup [dS L, .lst ((oRows od).map rowD), .lst ((oRows nw).map rowD), .lst ((lRows lr).map rowD)] := rfl
  have mn : minD [.int 3, .int 4] = .ok (.fro (.int 3)) := rfl
  simp only [F__law_texts, m__law_texts, fnN_eq, fnB_eq]
  rw [pl] at e ⊢
  generalize (oRows od).map rowD = r1 at e
  generalize (oRows nw).map rowD = r2 at e
  generalize (lRows lr).map rowD = r3 at e
  by_cases h : L.length = 6
  · rw [if_pos h] at hn
    subst hn
    have s4 : small 4 = true := rfl
    simp [c1, h, mn, s4, emptyS, e]
  · rw [if_neg h] at hn
    subst hn
    have s5 : small 5 = true := rfl
    have h' : ¬ ((L.length : Nat) : Int) = 6 := by omega
    simp [c1, h, h', s5, emptyS, e]
end
end K23
namespace K23
open PySem PySem.Spec PyProof.Rows L2 DL
open SX (S)
theorem bag_ok {ns : List Int} {k : Nat} (hk : k ≤ 10) : ∃ bag : D, F__law_bag [.fro (.scr ns), .fro (.int (k : Nat))] = .ok (.own bag, [.fro (.scr ns), .fro (.int (k : Nat))]) ∧ Bag 0 bag := by
  obtain ⟨cell, hcell⟩ : ∃ cell : Int, eIf (tVal (e2 ltR (eVar 1) (eCB lenD (aCons (eVar 0) aNil)))) (e2 ixD (eVar 0) (eVar 1)) (eC (.int 0)) [.fro (.scr ns), .fro (.int (k : Nat)), .no, .no] = .ok (.fro (.int cell), [.fro (.scr ns), .fro (.int (k : Nat)), .no, .no]) := by
    by_cases h : k < ns.length
    · have a1 : ixD (.scr ns) (.int (k : Nat)) = .ok (.fro (.int ns[k])) := by
        have : atI ns (k : Nat) = some ns[k] := at_get (List.getElem?_eq_getElem h)
        show (match atI ns (k : Nat) with | some n => R.ok (Rv.fro (D.int n)) | none => .stuck) = _
        rw [this]
      exact ⟨ns[k], by simp [h, a1]⟩
    · exact ⟨0, by simp [h]⟩
  have p1 : powD (.int 10) (.int 18) = .ok (.fro (.int 1000000000000000000)) := rfl
  obtain ⟨dg, hdg⟩ : ∃ dg : Int, eIf (tVal (e2 geR (eCB absD (aCons (eVar 2) aNil)) (e2 powD (eC (.int 10)) (eC (.int 18))))) (eCB absD (aCons (eVar 2) aNil)) (eC (.int 0)) [.fro (.scr ns), .fro (.int (k : Nat)), .fro (.int cell), .no] = .ok (.fro (.int dg), [.fro (.scr ns), .fro (.int (k : Nat)), .fro (.int cell), .no]) := by
    by_cases h : (1000000000000000000 : Int) ≤ (if cell < 0 then -cell else cell)
    · exact ⟨if cell < 0 then -cell else cell, by simp [p1, h]⟩
    · exact ⟨0, by simp [p1, h]⟩
  have m0 := Int.emod_nonneg cell (b := 2305843009213693951) (by decide)
  have m1 := Int.emod_lt_of_pos cell (b := 2305843009213693951) (by decide)
  have f3 : ∀ x : Int, modD (.int x) (.int 2305843009213693951) = .ok (.fro (.int (x % 2305843009213693951))) := fun x => modD_eq (by decide)
  have w1 : wideOk 6007 = true := wide_of (by decide)
  have w2 : wideOk (k : Nat) = true := wide_of (by omega)
  have w3 : wideOk 6364137 = true := wide_of (by decide)
  have w4 : wideOk (cell % 2305843009213693951 + 6007 * (k : Nat) + 94) = true := wide_of (by omega)
  refine ⟨.lst [.int dg, .int ((cell % 2305843009213693951 + 6007 * (k : Nat) + 94) * 6364137 % 2305843009213693951), .int 0], ?_, ⟨_, _, _, rfl, Int.emod_nonneg _ (by decide), Int.emod_lt_of_pos _ (by decide), by decide, by decide⟩⟩
  simp [F__law_bag, m__law_bag, -eIf_eq, hcell, hdg, f3, w1, w2, w3, w4]
section
variable {L : List Nat} {od nw : List ORow} {lr : List LRow} {t : Tls}
theorem has_of (l : Let L) (N : Lan L lr t) (T : TInv lr t) {w : List Nat} (F : Fnd L lr w) : hasP L lr t w = true := by
  obtain ⟨s, hr, ha⟩ := F.acc
  obtain ⟨v, hv⟩ := T.ac s ha
  unfold hasP
  rw [hr]
  have lv : liveP t (some s) = true := by unfold liveP; simp [hv]
  unfold optP
  rw [if_pos lv]
  have : ((some s).any (accP lr)) = true := by simpa using ha
  rw [if_pos this]
  exact decide_eq_true (by simp)
theorem mm_min {i j : Int} : minD [.int i, .int j] = .ok (.fro (.int (if j < i then j else i))) := rfl
theorem mm_max {i j : Int} : maxD [.int i, .int j] = .ok (.fro (.int (if j > i then j else i))) := rfl
/-- one pair of texts -/
theorem l5_turn (l : Let L) (O : Ord L od) (W : Ord L nw) (N : Lan L lr t) (T : TInv lr t) {w v : List Nat} (fw : Fnd L lr w) (fv : Fnd L lr v) {b0 b1 b2 b3 b6 b7 z9 z10 z11 : Sl} (h9 : FreeS z9) (h11 : FreeS z11) :
    forT (gN 9) L5_law (dS v) [b0, b1, b2, b3, .fro (plainD L od nw lr), .own (upD (colD L (oRows od)) (colD L (oRows nw)) (lanT L lr t)), b6, b7, .fro (dS w), z9, z10, z11] =
      .nx [b0, b1, b2, b3, .fro (plainD L od nw lr), .own (upD (colD L (oRows od)) (colD L (oRows nw)) (lanT L lr t)), b6, b7, .fro (dS w), .fro (dS v), z10, .fro (.bl (flipP L od nw w v))] := by
  have lw : w.length ≤ 400 := by have := fw.len; omega
  have lv : v.length ≤ 400 := by have := fv.len; omega
  have hw := has_of l N T fw
  have hv := has_of l N T fv
  have lf := lawflips_ok (lr := lr) O W fw.lets fv.lets lw lv
  have f1 := flips_ok O W N (.bor) fw.lets fv.lets lw lv hw hv
  have f2 := flips_ok O W N (.bor) fv.lets fw.lets lv lw hv hw
  rw [flipP_comm O W fw.lets fv.lets] at f2
  simp [forT, L5_law, h9 _, h11 _, lf, f1, f2]
theorem l45_loop (l : Let L) (O : Ord L od) (W : Ord L nw) (N : Lan L lr t) (T : TInv lr t) {w : List Nat} (fw : Fnd L lr w) {b0 b1 b2 b3 b6 b7 z10 : Sl} :
    ∀ {vs : List (List Nat)} {z9 z11 : Sl}, (∀ v ∈ vs, Fnd L lr v) → FreeS z9 → FreeS z11 →
    ∃ x9 x11, FreeS x9 ∧ FreeS x11 ∧ forGo (gN 9) L5_law (txD vs) [b0, b1, b2, b3, .fro (plainD L od nw lr), .own (upD (colD L (oRows od)) (colD L (oRows nw)) (lanT L lr t)), b6, b7, .fro (dS w), z9, z10, z11] =
      .nx [b0, b1, b2, b3, .fro (plainD L od nw lr), .own (upD (colD L (oRows od)) (colD L (oRows nw)) (lanT L lr t)), b6, b7, .fro (dS w), x9, z10, x11]
  | [], z9, z11, _, h9, h11 => ⟨z9, z11, h9, h11, rfl⟩
  | v :: vs, z9, z11, h, h9, h11 => by
    obtain ⟨x9, x11, f9, f11, e⟩ := l45_loop l O W N T fw (b0 := b0) (b1 := b1) (b2 := b2) (b3 := b3) (b6 := b6) (b7 := b7) (z10 := z10) (vs := vs) (fun x hx => h x (List.mem_cons_of_mem _ hx)) (FreeS.fro (d := dS v)) (FreeS.fro (d := .bl (flipP L od nw w v)))
    refine ⟨x9, x11, f9, f11, ?_⟩
    show forGo _ _ (dS v :: txD vs) _ = _
    rw [forGo_turn (l5_turn l O W N T fw (h v (List.mem_cons_self ..)) h9 h11), e]
theorem l8_loop (l : Let L) (O : Ord L od) (W : Ord L nw) (N : Lan L lr t) (T : TInv lr t) {us : List (List Nat)} (hu : ∀ v ∈ us, Fnd L lr v) {b0 b1 b2 b3 b6 z10 : Sl} :
    ∀ {vs : List (List Nat)} {z8 z9 z11 : Sl}, (∀ v ∈ vs, Fnd L lr v) → FreeS z8 → FreeS z9 → FreeS z11 →
    ∃ x8 x9 x11, FreeS x8 ∧ FreeS x9 ∧ FreeS x11 ∧ forGo (gN 8) L4_law (txD vs) [b0, b1, b2, b3, .fro (plainD L od nw lr), .own (upD (colD L (oRows od)) (colD L (oRows nw)) (lanT L lr t)), b6, .fro (.lst (txD us)), z8, z9, z10, z11] =
      .nx [b0, b1, b2, b3, .fro (plainD L od nw lr), .own (upD (colD L (oRows od)) (colD L (oRows nw)) (lanT L lr t)), b6, .fro (.lst (txD us)), x8, x9, z10, x11]
  | [], z8, z9, z11, _, h8, h9, h11 => ⟨z8, z9, z11, h8, h9, h11, rfl⟩
  | w :: vs, z8, z9, z11, h, h8, h9, h11 => by
    obtain ⟨y9, y11, g9, g11, e1⟩ := l45_loop l O W N T (h w (List.mem_cons_self ..)) (b0 := b0) (b1 := b1) (b2 := b2) (b3 := b3) (b6 := b6) (b7 := .fro (.lst (txD us))) (z10 := z10) (vs := us) hu h9 h11
    obtain ⟨x8, x9, x11, f8, f9, f11, e⟩ := l8_loop l O W N T hu (b0 := b0) (b1 := b1) (b2 := b2) (b3 := b3) (b6 := b6) (z10 := z10) (vs := vs) (fun x hx => h x (List.mem_cons_of_mem _ hx)) (FreeS.fro (d := dS w)) g9 g11
    refine ⟨x8, x9, x11, f8, f9, f11, ?_⟩
    show forGo _ _ (dS w :: txD vs) _ = _
    rw [forGo_turn, e]
    simp [forT, L4_law, h8 _, e1]
end
/-- some of the texts -/
theorem pops_ok {P : List Nat → Prop} {n : Nat} {bag : D} {fnd : List (List Nat)} {m : Nat} (B : Bag n bag) (hn : n ≤ 50000) (hm : m ≤ fnd.length) (hm9 : m ≤ 9) (hf : fnd.length ≤ 100000) (hp : ∀ w ∈ fnd, P w) {b0 b1 b3 b4 b5 b7 b8 b9 b11 : Sl} :
    ∃ (some left : List (List Nat)) (bag' : D), lcGo [10] (gN 10) tTrue E3_law (rangeD 0 m) [b0, b1, .own bag, b3, b4, b5, .own (.lst (txD fnd)), b7, b8, b9, .no, b11] [] = .ok (txD some, [b0, b1, .own bag', b3, b4, b5, .own (.lst (txD left)), b7, b8, b9, .no, b11]) ∧ (∀ w ∈ some, P w) ∧ Bag (n + 9) bag' := by
  obtain ⟨out, ds', e, got, left, bag', hds, ha, h1, h2, hB, _, hr⟩ := lc_ind (vs := [10]) (g := gN 10) (t := tTrue) (elt := E3_law)
    (J := fun rest ds acc => ∃ (got left : List (List Nat)) (bag' : D), ds = [b0, b1, .own bag', b3, b4, b5, .own (.lst (txD left)), b7, b8, b9, .no, b11] ∧ acc = txD got ∧ (∀ w ∈ got, P w) ∧ (∀ w ∈ left, P w) ∧ Bag (n + got.length) bag' ∧ left.length + got.length = fnd.length ∧ got.length + rest.length = m)
    (fun d r ds acc ⟨got, left, bag', e, ea, h1, h2, hB, hl, hr⟩ => by
      subst e; subst ea
      have hr : got.length + (r.length + 1) = m := hr
      obtain ⟨v, bag2, ev, hv, hB2⟩ := take_ok hB (many := left.length) (by omega) (by omega) (by omega)
      have pp := popD_at (xs := txD left) (v := v) (by simpa using hv) (by omega)
      have er : (txD left).eraseIdx v = txD (left.eraseIdx v) := erase_map
      have gt : (txD left)[v]'(by simpa using hv) = dS left[v] := by simp [txD]
      rw [er, gt] at pp
      refine ⟨some (dS left[v]), [b0, b1, .own bag2, b3, b4, b5, .own (.lst (txD (left.eraseIdx v))), b7, b8, b9, .no, b11], ?_, by simp; show _ ≤ 1000000; omega, got ++ [left[v]], left.eraseIdx v, bag2, rfl, by simp [txD], fun w hw => ?_, fun w hw => h2 w (List.mem_of_mem_eraseIdx hw), hB2.mono (by simp; omega), ?_, by simp; omega⟩
      · simp [lcTurn, E3_law, ev, pp]
      · rcases List.mem_append.mp hw with z | z
        · exact h1 w z
        · simp at z; rw [z]; exact h2 _ (List.getElem_mem hv)
      · rw [List.length_eraseIdx_of_lt hv]; simp; omega)
    (xs := rangeD 0 m) (ds := [b0, b1, .own bag, b3, b4, b5, .own (.lst (txD fnd)), b7, b8, b9, .no, b11]) (acc := []) ⟨[], fnd, bag, rfl, rfl, by simp, hp, by simpa using B, by simp, by rw [rangeD_len]; simp⟩
  subst hds; subst ha
  exact ⟨got, left, bag', e, h1, hB.mono (by simp at hr; omega)⟩
theorem l2_turn {n : Nat} {bag d : D} (B : Bag n bag) (hn : n ≤ 40000) {b0 b1 z3 z4 z5 z6 z7 z8 z9 z11 : Sl} (h3 : FreeS z3) (h4 : FreeS z4) (h5 : FreeS z5) (h6 : FreeS z6) (h7 : FreeS z7) (h8 : FreeS z8) (h9 : FreeS z9) (h11 : FreeS z11) :
    ∃ (bag' : D) (x4 x5 x6 x7 x8 x9 x11 : Sl), forT (gN 3) L2_law d [b0, b1, .own bag, z3, z4, z5, z6, z7, z8, z9, .no, z11] = .nx [b0, b1, .own bag', .fro d, x4, x5, x6, x7, x8, x9, .no, x11] ∧ Bag (n + 309) bag' ∧ FreeS x4 ∧ FreeS x5 ∧ FreeS x6 ∧ FreeS x7 ∧ FreeS x8 ∧ FreeS x9 ∧ FreeS x11 := by
  obtain ⟨L, od, nw, lr, bag1, e1, l, O, W, Ln, B1⟩ := drawn_ok B (by omega)
  obtain ⟨t, T, e2'⟩ := made_ok l O W Ln
  have M := Ln.o.mach l Ln.h1 Ln.h6
  have N : Lan L lr t := ⟨M, T.ln⟩
  obtain ⟨fnd, e3, hf, hfl⟩ := texts_ok l (od := od) (nw := nw) M
  obtain ⟨m, hm⟩ : ∃ m : Nat, m = min 9 fnd.length := ⟨_, rfl⟩
  obtain ⟨some, left, bag2, e4, hs, B2⟩ := pops_ok (P := Fnd L lr) (b0 := b0) (b1 := b1) (b3 := .fro d) (b4 := .fro (plainD L od nw lr)) (b5 := .own (upD (colD L (oRows od)) (colD L (oRows nw)) (lanT L lr t))) (b7 := z7) (b8 := z8) (b9 := z9) (b11 := z11) B1 (by omega) (m := m) (by omega) (by omega) (by omega) hf
  obtain ⟨x8, x9, x11, f8, f9, f11, e5⟩ := l8_loop l O W N T hs (b0 := b0) (b1 := b1) (b2 := .own bag2) (b3 := .fro d) (b6 := .own (.lst (txD left))) (z10 := .no) (vs := some) hs h8 h9 h11
  have mn : (if ((fnd.length : Nat) : Int) < 9 then ((fnd.length : Nat) : Int) else 9) = (m : Nat) := by split <;> omega
  refine ⟨bag2, .fro (plainD L od nw lr), .own (upD (colD L (oRows od)) (colD L (oRows nw)) (lanT L lr t)), .own (.lst (txD left)), .fro (.lst (txD some)), x8, x9, x11, ?_, B2.mono (by omega), FreeS.fro, FreeS.own, FreeS.own, FreeS.fro, f8, f9, f11⟩
  have sm := small_of (n := m) (by omega)
  simp [forT, L2_law, h3 _, h4 _, h5 _, h6 _, h7 _, e1, e2', e3, mm_min, mn, sm, e4, e5]
theorem l1law_turn {ns : List Int} {k : Nat} (hk : k ≤ 10) {z1 z2 z3 z4 z5 z6 z7 z8 z9 z11 : Sl} (h1 : FreeS z1) (h2 : FreeS z2) (h3 : FreeS z3) (h4 : FreeS z4) (h5 : FreeS z5) (h6 : FreeS z6) (h7 : FreeS z7) (h8 : FreeS z8) (h9 : FreeS z9) (h11 : FreeS z11) :
    ∃ (x2 x3 x4 x5 x6 x7 x8 x9 x11 : Sl), forT (gN 1) L1_law (.int (k : Nat)) [.fro (.scr ns), z1, z2, z3, z4, z5, z6, z7, z8, z9, .no, z11] = .nx [.fro (.scr ns), .fro (.int (k : Nat)), x2, x3, x4, x5, x6, x7, x8, x9, .no, x11] ∧ FreeS x2 ∧ FreeS x3 ∧ FreeS x4 ∧ FreeS x5 ∧ FreeS x6 ∧ FreeS x7 ∧ FreeS x8 ∧ FreeS x9 ∧ FreeS x11 := by
  obtain ⟨bag, eb, B⟩ := bag_ok (ns := ns) hk
  obtain ⟨ds', e, j, bag', x3, x4, x5, x6, x7, x8, x9, x11, rfl, _, _, f3, f4, f5, f6, f7, f8, f9, f11⟩ := for_ind (g := gN 3) (body := L2_law)
    (J := fun rest ds => ∃ (j : Nat) (bag' : D) (x3 x4 x5 x6 x7 x8 x9 x11 : Sl), ds = [.fro (.scr ns), .fro (.int (k : Nat)), .own bag', x3, x4, x5, x6, x7, x8, x9, .no, x11] ∧ j + rest.length = 2 ∧ Bag (j * 309) bag' ∧ FreeS x3 ∧ FreeS x4 ∧ FreeS x5 ∧ FreeS x6 ∧ FreeS x7 ∧ FreeS x8 ∧ FreeS x9 ∧ FreeS x11)
    (fun d r ds ⟨j, bag', x3, x4, x5, x6, x7, x8, x9, x11, e, hj, hB, f3, f4, f5, f6, f7, f8, f9, f11⟩ => by
      subst e
      have hj : j + (r.length + 1) = 2 := hj
      obtain ⟨bag2, y4, y5, y6, y7, y8, y9, y11, e, hB2, g4, g5, g6, g7, g8, g9, g11⟩ := l2_turn (d := d) (b0 := .fro (.scr ns)) (b1 := .fro (.int (k : Nat))) hB (by omega) f3 f4 f5 f6 f7 f8 f9 f11
      exact ⟨_, e, j + 1, bag2, _, y4, y5, y6, y7, y8, y9, y11, rfl, by omega, hB2.mono (by omega), FreeS.fro, g4, g5, g6, g7, g8, g9, g11⟩)
    (xs := rangeD 0 (2 : Int).toNat) (ds := [.fro (.scr ns), .fro (.int (k : Nat)), .own bag, z3, z4, z5, z6, z7, z8, z9, .no, z11])
    ⟨0, bag, z3, z4, z5, z6, z7, z8, z9, z11, rfl, rfl, by simpa using B, h3, h4, h5, h6, h7, h8, h9, h11⟩
  refine ⟨.own bag', x3, x4, x5, x6, x7, x8, x9, x11, ?_, FreeS.own, f3, f4, f5, f6, f7, f8, f9, f11⟩
  have s2 : small 2 = true := rfl
  simp [forT, L1_law, h1 _, h2 _, eb, s2]
  exact e
theorem law_true : ∀ ns : List Int, ns.length ≤ 63 → (∀ z ∈ ns, Builtin.Int.intBits z ≤ 1048576) → ∃ ds, G_law [Sl.fro (.scr ns)] = .ok (.fro (.bl true), ds) := by
  intro ns hl _
  obtain ⟨m, hm, hm2⟩ : ∃ m : Nat, ((if (if ((ns.length : Nat) : Int) < 2 then ((ns.length : Nat) : Int) else 2) > 1 then (if ((ns.length : Nat) : Int) < 2 then ((ns.length : Nat) : Int) else 2) else 1) = (m : Nat)) ∧ m ≤ 2 := by
    by_cases h : ns.length < 2
    · exact ⟨1, by split <;> (try split) <;> omega, by decide⟩
    · exact ⟨2, by split <;> (try split) <;> omega, by decide⟩
  obtain ⟨ds', e, x1, x2, x3, x4, x5, x6, x7, x8, x9, x11, rfl, _⟩ := for_ind (g := gN 1) (body := L1_law)
    (J := fun rest ds => ∃ (x1 x2 x3 x4 x5 x6 x7 x8 x9 x11 : Sl), ds = [.fro (.scr ns), x1, x2, x3, x4, x5, x6, x7, x8, x9, .no, x11] ∧ FreeS x1 ∧ FreeS x2 ∧ FreeS x3 ∧ FreeS x4 ∧ FreeS x5 ∧ FreeS x6 ∧ FreeS x7 ∧ FreeS x8 ∧ FreeS x9 ∧ FreeS x11 ∧ ∀ x ∈ rest, ∃ k : Nat, x = .int (k : Nat) ∧ k ≤ 10)
    (fun d r ds ⟨x1, x2, x3, x4, x5, x6, x7, x8, x9, x11, e, f1, f2, f3, f4, f5, f6, f7, f8, f9, f11, hx⟩ => by
      subst e
      obtain ⟨k, rfl, hk⟩ := hx d (List.mem_cons_self ..)
      obtain ⟨y2, y3, y4, y5, y6, y7, y8, y9, y11, e, g2, g3, g4, g5, g6, g7, g8, g9, g11⟩ := l1law_turn (ns := ns) hk f1 f2 f3 f4 f5 f6 f7 f8 f9 f11
      exact ⟨_, e, _, y2, y3, y4, y5, y6, y7, y8, y9, y11, rfl, FreeS.fro, g2, g3, g4, g5, g6, g7, g8, g9, g11, fun x h => hx x (List.mem_cons_of_mem _ h)⟩)
    (xs := rangeD 0 (m : Int).toNat) (ds := [.fro (.scr ns), .no, .no, .no, .no, .no, .no, .no, .no, .no, .no, .no])
    ⟨_, _, _, _, _, _, _, _, _, _, rfl, FreeS.no, FreeS.no, FreeS.no, FreeS.no, FreeS.no, FreeS.no, FreeS.no, FreeS.no, FreeS.no, FreeS.no, fun x hx => by
      obtain ⟨i, hi, rfl⟩ := List.mem_map.mp hx
      exact ⟨i, by simp, by simp at hi; omega⟩⟩
  have sm := small_of (n := m) (by omega)
  have e : forGo (gN 1) L1_law (rangeD 0 m) [.fro (.scr ns), .no, .no, .no, .no, .no, .no, .no, .no, .no, .no, .no] = .nx [.fro (.scr ns), x1, x2, x3, x4, x5, x6, x7, x8, x9, .no, x11] := e
  exact ⟨_, by simp only [G_law, fnB_eq, m_law]; simp [mm_min, mm_max, hm, sm, e]; rfl⟩
end K23
set_option maxHeartbeats 0
namespace K23
open PySem PySem.Spec PyProof.Rows L2 DL
def loose0 : List Str := ["_wall", "BadLetters", "BadState", "BadText", "BadLine", "NoText", "Full", "END", "NO_STATE", "MOST_LETTERS", "MOST_STATES", "LONGEST_TEXT", "DIGITS", "is_integer", "is_letters", "is_text", "may_be_passed", "Machine", "Collation", "Language", "number_in", "lines_in", "moves_in", "read_collation", "read_language", "Upgrade", "_law_bag", "_law_take", "_law_of", "_law_shuffled"]
def loose1 : List Str := ["_law_order", "_law_near", "_law_language", "_law_drawn", "_law_machine_lines", "_law_made", "_law_key", "_law_flips", "_law_texts"]
abbrev loose : List Str := loose0 ++ loose1
abbrev R : PySem.W.OpenRow := PySem.W.OpenLaw.row PySem.Challenge.rw_elderorder_k23_flips_by_both_orders
abbrev hk : PySem.W.Hook := hookY 5 hd
def ob (s : PySem.W.SharedT) : AlY := hd.obs 5 (HandSHeadRun.getT s)
theorem ob_eq (s : PySem.W.SharedT) : ob s = hk.obs s.abs := obsY_eq (HandSHeadRun.getT_eq s)
theorem run (w : World) : HandSHeadRun.RunEq R (PySem.W.view R.prog [43]) hk ob 20000 loose w := by
  intro os
  kernel_rfl
theorem law_w {w : World} {K : PySem.W.Frag} {mg : Str → Option Value} {fa : Addr} {h : Heap} (X : K.In h) (G : h.Ns mainGlobals mg) (c : hd.Says h K) (hfa : mg ("law" : Str) = some (.ref fa))
    (lw : ∀ ns : List Int, ns.length ≤ 63 → (∀ z ∈ ns, Builtin.Int.intBits z ≤ 1048576) → ∃ ds, G_law [Sl.fro (.scr ns)] = .ok (.fro (.bl true), ds)) : LamX.LawAtS PySem.Challenge.rw_elderorder_k23_flips_by_both_orders w K (L2.CX PySem.Challenge.rw_elderorder_k23_flips_by_both_orders.prog w) 11 63 "_law_script" mg fa h := by
  obtain ⟨fd, F⟩ := c.sx.def_ 43 (d := d_law) rfl
  have hx : FxG hd K mg h → mg ("law" : Str) = some (.ref (He.fAd K ("law", none))) := fun z => (Fx.glo_law (P := prog) (w := w) (base := h) ⟨z, rfl⟩)
  have e := hfa.symm.trans (He.glo_ok X G (c.sx.facts (f := .glo "law") (List.mem_append_left _ (by simp [fb]))))
  cases e
  exact law_at (cm := cmK K) X c rfl (fun s u => F.bindsA (ps := ["_law_script"]) (fun _ _ _ _ _ _ us hl => match us, hl with | [_], _ => rfl) s [u] rfl) (fun base hx => g_law ⟨hx, rfl⟩ (fun_of F)) lw
end K23
open PySem PySem.W PySem.Calls PyProof.Rows
theorem PySem.Challenge.cw_elderorder_k23_flips_by_both_orders_holds : PySem.Challenge.rw_elderorder_k23_flips_by_both_orders.Holds := by
  w_on; o_law
  refine HandSHeadRun.head_any (r := OpenLaw.row PySem.Challenge.rw_elderorder_k23_flips_by_both_orders) (q := view (OpenLaw.row PySem.Challenge.rw_elderorder_k23_flips_by_both_orders).prog [43]) (H := K23.hk) (ob := K23.ob) (M := 20000) (loose := K23.loose) (d := HandSHeadRun.topDef (OpenLaw.row PySem.Challenge.rw_elderorder_k23_flips_by_both_orders).prog 43) (kwd := []) K23.ob_eq
    (by kernel_rfl) (fun s => by kernel_rfl) K23.run (by kernel_rfl) (by kernel_rfl) (by kernel_rfl) (by rfl) (by first | assumption | decide +kernel) (by decide +kernel) ⟨rfl, rfl, rfl, rfl, rfl, by decide +kernel⟩ ?hw ?hc
  case hw => w_witness2
  case hc =>
    refine LamX.walk_ofTsE (l := PySem.Challenge.rw_elderorder_k23_flips_by_both_orders) (n := 63) (k := 11) (x := "_law_script") (CX := fun w => L2.CX PySem.Challenge.rw_elderorder_k23_flips_by_both_orders.prog w) rfl (by decide) (by kernel_rfl) ⟨rfl, by decide, by decide⟩ ?F (fun _ _ _ _ _ z => by obtain ⟨a, B, H', cls, d, _, _, _, _, _, _, _, z⟩ := z; exact z)
    intro w mg fa h Y G hmg0
    obtain ⟨K, KX, c⟩ := Y
    have hmg : mg ("law" : PySem.Str) = some (.ref fa) := by
      have e : (HandSHeadRun.topDef (OpenLaw.row PySem.Challenge.rw_elderorder_k23_flips_by_both_orders).prog 43).name = ("law" : PySem.Str) := by kernel_rfl
      rw [← e]
      exact hmg0
    exact ⟨K, KX, K23.law_w KX G c hmg K23.law_true⟩
