import PyProof.Rows.All
import Wide.All
import OpenK.AllK
import Wide.FinOn
import HandS.ForMost
import HandS.ForExc
import HandS.Defaults
import HandS.Wide
import HandS.Lambda
import HandS.Walk
import HandS.Zip
import HandS.IsInst
import HandS.More
import HandS.HeadHook2
import HandS.Codes
import KE.KExcInit
import HandS.Head0
import HandS.Head1
import HandS.Head2
import HandS.HeadEnd
import HandS.HeadHook1
import HandS.HeadHook3
import HandS.HeadHook4
import HandS.Deep
import HandS.Style
import KE.DataMinMax
import PyProof.ReprRoads
import HandS.SortKw
import HandS.Dict
import HandS.ForSpec
import KE.KExcIs
import HandS.ExcIs
import HandS.RaiseMore
import PyProof.FitsInt
import KE.SortKeyHeap
import HandS.Keys
import HandS.EndTab
import PySem.Challenge.RW_outleap_k26_whole_orbits_that_end_at_bot
set_option Elab.async false
set_option Elab.async false
set_option linter.all false
set_option maxRecDepth 100000
set_option maxHeartbeats 4000000
namespace O26
open PySem PySem.Spec PyProof.Rows L2
/-! plain data, and where it stands -/
inductive Da where
  | non | bl (b : Bool) | int (i : Int) | str (s : Str)
  | tup (l : List Da) | lst (l : List Da) | ins (C : Addr) (fs : List (Str × Da)) | fn (a : Addr)
mutual
inductive Dr (H : Hp) : V → Da → Prop
  | non : Dr H .non .non
  | bl (b : Bool) : Dr H (.bl b) (.bl b)
  | int (i : Int) : Dr H (.int i) (.int i)
  | str (x : Str) : Dr H (.str x) (.str x)
  | tup {a : Addr} {xs : List V} {ds : List Da} : H a = some (.tup xs) → DrL H xs ds → Dr H (.ref a) (.tup ds)
  | lst {a : Addr} {xs : List V} {ds : List Da} : H a = some (.lst xs) → DrL H xs ds → Dr H (.ref a) (.lst ds)
  | ins {a C dx : Addr} {fs : List (Str × V)} {ds : List (Str × Da)} : H a = some (.ins C dx fs) → DrF H fs ds → Dr H (.ref a) (.ins C ds)
  | fn (a : Addr) : Dr H (.ref a) (.fn a)
inductive DrL (H : Hp) : List V → List Da → Prop
  | nil : DrL H [] []
  | cons {v : V} {vs : List V} {d : Da} {ds : List Da} : Dr H v d → DrL H vs ds → DrL H (v :: vs) (d :: ds)
inductive DrF (H : Hp) : List (Str × V) → List (Str × Da) → Prop
  | nil : DrF H [] []
  | cons {f : Str} {v : V} {vs : List (Str × V)} {d : Da} {ds : List (Str × Da)} : Dr H v d → DrF H vs ds → DrF H ((f, v) :: vs) ((f, d) :: ds)
end
section
variable {H H' : Hp}
mutual
theorem Dr.mono (e : Same H H') : ∀ {v : V} {d : Da}, Dr H v d → Dr H' v d
  | _, _, .non => .non
  | _, _, .bl b => .bl b
  | _, _, .int i => .int i
  | _, _, .str x => .str x
  | _, _, .tup h r => .tup (e _ _ h) (DrL.mono e r)
  | _, _, .lst h r => .lst (e _ _ h) (DrL.mono e r)
  | _, _, .ins h r => .ins (e _ _ h) (DrF.mono e r)
  | _, _, .fn a => .fn a
theorem DrL.mono (e : Same H H') : ∀ {v : List V} {d : List Da}, DrL H v d → DrL H' v d
  | _, _, .nil => .nil
  | _, _, .cons a r => .cons (Dr.mono e a) (DrL.mono e r)
theorem DrF.mono (e : Same H H') : ∀ {v : List (Str × V)} {d : List (Str × Da)}, DrF H v d → DrF H' v d
  | _, _, .nil => .nil
  | _, _, .cons a r => .cons (Dr.mono e a) (DrF.mono e r)
end
theorem DrL.length : ∀ {xs : List V} {ds : List Da}, DrL H xs ds → xs.length = ds.length
  | _, _, .nil => rfl
  | _, _, .cons _ r => by rw [List.length_cons, List.length_cons, DrL.length r]
theorem DrL.get : ∀ {xs : List V} {ds : List Da} {i : Nat} {d : Da}, DrL H xs ds → ds[i]? = some d → ∃ v, xs[i]? = some v ∧ Dr H v d
  | _, _, _, _, .nil, e => by simp at e
  | _, _, 0, _, .cons r _, e => by simp at e; subst e; exact ⟨_, rfl, r⟩
  | _, _, i + 1, d, .cons _ t, e => by
    obtain ⟨v, h1, h2⟩ := DrL.get (i := i) (d := d) t (by simpa using e)
    exact ⟨v, by simpa using h1, h2⟩
theorem DrL.getV : ∀ {xs : List V} {ds : List Da} {i : Nat} {v : V}, DrL H xs ds → xs[i]? = some v → ∃ d, ds[i]? = some d ∧ Dr H v d
  | _, _, _, _, .nil, e => by simp at e
  | _, _, 0, _, .cons r _, e => by simp at e; subst e; exact ⟨_, rfl, r⟩
  | _, _, i + 1, v, .cons _ t, e => by
    obtain ⟨d, h1, h2⟩ := DrL.getV (i := i) (v := v) t (by simpa using e)
    exact ⟨d, by simpa using h1, h2⟩
theorem DrL.append : ∀ {xs ys : List V} {ds es : List Da}, DrL H xs ds → DrL H ys es → DrL H (xs ++ ys) (ds ++ es)
  | _, _, _, _, .nil, s => s
  | _, _, _, _, .cons r t, s => .cons r (DrL.append t s)
theorem DrL.take : ∀ {xs : List V} {ds : List Da} (n : Nat), DrL H xs ds → DrL H (xs.take n) (ds.take n)
  | _, _, 0, _ => .nil
  | _, _, _ + 1, .nil => .nil
  | _, _, n + 1, .cons r t => .cons r (DrL.take n t)
theorem DrL.drop : ∀ {xs : List V} {ds : List Da} (n : Nat), DrL H xs ds → DrL H (xs.drop n) (ds.drop n)
  | _, _, 0, r => r
  | _, _, _ + 1, .nil => .nil
  | _, _, n + 1, .cons _ t => DrL.drop n t
theorem DrF.look : ∀ {fs : List (Str × V)} {ds : List (Str × Da)} {f : Str}, DrF H fs ds → (∀ d, ds.lookup f = some d → ∃ v, fs.lookup f = some v ∧ Dr H v d) ∧ (ds.lookup f = none → fs.lookup f = none)
  | _, _, _, .nil => ⟨fun d h => by simp at h, fun _ => rfl⟩
  | (g, v) :: fs, (_, d) :: ds, f, .cons r t => by
    have ih := DrF.look (f := f) t
    refine ⟨fun e h => ?_, fun h => ?_⟩
    · rw [List.lookup_cons] at h ⊢
      cases q : f == g with
      | true => rw [q] at h; simp at h; subst h; exact ⟨v, rfl, r⟩
      | false => rw [q] at h; exact ih.1 e h
    · rw [List.lookup_cons] at h ⊢
      cases q : f == g with
      | true => rw [q] at h; simp at h
      | false => rw [q] at h; exact ih.2 h
theorem DrL.ints : ∀ {xs : List V} {ns : List Int}, DrL H xs (ns.map Da.int) → xs = ns.map V.int
  | _, [], h => by cases h; rfl
  | _, n :: ns, h => by
    rw [List.map_cons] at h
    cases h with
    | cons a r => cases a; rw [DrL.ints r, List.map_cons]
theorem DrL.of_ints : ∀ (ns : List Int), DrL H (ns.map V.int) (ns.map Da.int)
  | [] => .nil
  | n :: ns => .cons (.int n) (DrL.of_ints ns)
theorem DrL.bls : ∀ {xs : List V} {ns : List Bool}, DrL H xs (ns.map Da.bl) → xs = ns.map V.bl
  | _, [], h => by cases h; rfl
  | _, n :: ns, h => by
    rw [List.map_cons] at h
    cases h with
    | cons a r => cases a; rw [DrL.bls r, List.map_cons]
theorem DrL.of_bls : ∀ (ns : List Bool), DrL H (ns.map V.bl) (ns.map Da.bl)
  | [] => .nil
  | n :: ns => .cons (.bl n) (DrL.of_bls ns)
end
/-! data that == and the like read -/
mutual
def Da.py : Da → PyData
  | .non => .none
  | .bl b => .bool b
  | .int i => .int i
  | .str x => .str x
  | .tup l => .tuple (Da.pys l)
  | .lst l => .list (Da.pys l)
  | .ins _ _ => .none
  | .fn _ => .none
def Da.pys : List Da → List PyData
  | [] => []
  | d :: l => Da.py d :: Da.pys l
end
mutual
def Da.plain : Da → Bool
  | .tup l => Da.plains l
  | .lst l => Da.plains l
  | .ins _ _ => false
  | .fn _ => false
  | _ => true
def Da.plains : List Da → Bool
  | [] => true
  | d :: l => Da.plain d && Da.plains l
end
mutual
theorem Dr.dp {K : PySem.W.Frag} {H : Hp} : ∀ {v : V} {d : Da}, Dr H v d → d.plain = true → Dp K H v d.py
  | _, _, .non, _ => .non
  | _, _, .bl b, _ => .bl b
  | _, _, .int i, _ => .int i
  | _, _, .str x, _ => .str x
  | _, _, .tup h r, p => .tup (SqT.of h) (DrL.dp r p)
  | _, _, .lst h r, p => .lst (SqL.of h) (DrL.dp r p)
  | _, _, .ins _ _, p => by cases p
  | _, _, .fn _, p => by cases p
theorem DrL.dp {K : PySem.W.Frag} {H : Hp} : ∀ {v : List V} {d : List Da}, DrL H v d → Da.plains d = true → DpAll K H v (Da.pys d)
  | _, _, .nil, _ => .nil
  | _, _, .cons a r, p => by
    have q : (Da.plain _ && Da.plains _) = true := p
    rw [Bool.and_eq_true] at q
    exact .cons (Dr.dp a q.1) (DrL.dp r q.2)
end
/-! states: F, what is fixed for ever, within H; S, what is one's own and may be written -/
abbrev Tb := List (Addr × Str)
inductive Oc where
  | lst (l : List Da) | ins (C : Addr) (fs : List (Str × Da)) | dic (kvs : List (Key × Da))
abbrev Os := List (Addr × Oc)
inductive DrK (H : Hp) : List (Key × V) → List (Key × Da) → Prop
  | nil : DrK H [] []
  | cons {k : Key} {v : V} {vs : List (Key × V)} {d : Da} {ds : List (Key × Da)} : Dr H v d → DrK H vs ds → DrK H ((k, v) :: vs) ((k, d) :: ds)
theorem DrK.mono {H H' : Hp} (e : Same H H') : ∀ {v : List (Key × V)} {d : List (Key × Da)}, DrK H v d → DrK H' v d
  | _, _, .nil => .nil
  | _, _, .cons a r => .cons (a.mono e) (DrK.mono e r)
def OcR (F : Hp) (o : HO) : Oc → Prop
  | .lst l => ∃ xs, o = .lst xs ∧ DrL F xs l
  | .ins C ds => ∃ dx fs, o = .ins C dx fs ∧ DrF F fs ds
  | .dic kvs => ∃ ks, o = .dK ks ∧ DrK F ks kvs
theorem OcR.mono {F F' : Hp} {o : HO} (e : Same F F') : ∀ {c : Oc}, OcR F o c → OcR F' o c
  | .lst _, ⟨xs, h, r⟩ => ⟨xs, h, r.mono e⟩
  | .ins _ _, ⟨dx, fs, h, r⟩ => ⟨dx, fs, h, r.mono e⟩
  | .dic _, ⟨ks, h, r⟩ => ⟨ks, h, r.mono e⟩
theorem OcR.nt {F : Hp} {o : HO} : ∀ {c : Oc}, OcR F o c → (∀ ps, o ≠ .tbl ps) ∧ ∀ φ, o ≠ .ext φ
  | .lst _, ⟨_, h, _⟩ => by subst h; exact ⟨nofun, nofun⟩
  | .ins _ _, ⟨_, _, h, _⟩ => by subst h; exact ⟨nofun, nofun⟩
  | .dic _, ⟨_, h, _⟩ => by subst h; exact ⟨nofun, nofun⟩
structure Sg (T : Tb) (S : Os) (F H : Hp) : Prop where
  ex : Same F H
  tab : LamX.Tabs T H
  nt : ∀ a ps, F a ≠ some (.tbl ps)
  own : ∀ p c, S.lookup p = some c → ∃ o, H p = some o ∧ F p = none ∧ OcR F o c
structure Gr (T : Tb) (S : Os) (F H F' H' : Hp) : Prop where
  hh : LamX.ExtN H H'
  ff : Same F F'
  sg : Sg T S F' H'
  ow : ∀ a o, H a = some o → (∀ ps, o ≠ .tbl ps) → F a = none → F' a = none
section
variable {T : Tb} {S S' : Os} {F H F1 H1 F2 H2 : Hp}
theorem Sg.weak (s : Sg T S F H) (h : ∀ p c, S'.lookup p = some c → S.lookup p = some c) : Sg T S' F H := ⟨s.ex, s.tab, s.nt, fun p c e => s.own p c (h p c e)⟩
theorem Sg.bare (s : Sg T S F H) : Sg T [] F H := s.weak fun p c e => by cases e
theorem Gr.refl (s : Sg T S F H) : Gr T S F H F H := ⟨LamX.ExtN.refl H, Same.refl F, s, fun _ _ _ _ h => h⟩
theorem Gr.trans (a : Gr T S F H F1 H1) (b : Gr T S F1 H1 F2 H2) : Gr T S F H F2 H2 :=
  ⟨a.hh.trans b.hh, a.ff.trans b.ff, b.sg, fun x o h t n => b.ow x o (a.hh x o h t) t (a.ow x o h t n)⟩
/-- what is one's own is kept by what changes nothing old -/
theorem Gr.with (g : Gr T S' F H F1 H1) (s : Sg T S F H) : Gr T S F H F1 H1 :=
  ⟨g.hh, g.ff, ⟨g.sg.ex, g.sg.tab, g.sg.nt, fun p c e => by
    obtain ⟨o, h1, h2, h3⟩ := s.own p c e
    exact ⟨o, g.hh p o h1 h3.nt.1, g.ow p o h1 h3.nt.1 h2, h3.mono g.ff⟩⟩, g.ow⟩
theorem Gr.new {p : Addr} {o : HO} (s : Sg T S F H) (hp : H p = none) (ho : ∀ ps, o ≠ .tbl ps) : Gr T S F H (upd F p o) (upd H p o) := by
  have fp : F p = none := s.ex.free hp
  have g : Gr T [] F H (upd F p o) (upd H p o) := by
    refine ⟨fun b u e _ => by rw [upd_ne (ne_of_none e hp)]; exact e, fun b u e => by rw [upd_ne (ne_of_none e fp)]; exact e, ⟨fun b u e => ?_, LamX.Tabs.ext s.tab fun b u e => by rw [upd_ne (ne_of_none e hp)]; exact e, fun b ps e => ?_, fun p c e => by cases e⟩, fun b u e _ n => by rw [upd_ne (ne_of_none e hp)]; exact n⟩
    · by_cases hb : b = p
      · subst hb; rw [upd_same] at e ⊢; exact e
      · rw [upd_ne hb] at e ⊢; exact s.ex _ _ e
    · by_cases hb : b = p
      · subst hb; rw [upd_same] at e; exact ho ps (Option.some.inj e)
      · rw [upd_ne hb] at e; exact s.nt _ _ e
  exact g.with s
theorem Dr.newT {p : Addr} {xs : List V} {ds : List Da} (hp : F p = none) (r : DrL F xs ds) : Dr (upd F p (.tup xs)) (.ref p) (.tup ds) :=
  .tup upd_same (r.mono fun b u e => by rw [upd_ne (ne_of_none e hp)]; exact e)
theorem Dr.newL {p : Addr} {xs : List V} {ds : List Da} (hp : F p = none) (r : DrL F xs ds) : Dr (upd F p (.lst xs)) (.ref p) (.lst ds) :=
  .lst upd_same (r.mono fun b u e => by rw [upd_ne (ne_of_none e hp)]; exact e)
theorem Gr.newT {p : Addr} {xs : List V} (s : Sg T S F H) (hp : H p = none) : Gr T S F H (upd F p (.tup xs)) (upd H p (.tup xs)) := Gr.new s hp fun _ e => by cases e
theorem Gr.newL {p : Addr} {xs : List V} (s : Sg T S F H) (hp : H p = none) : Gr T S F H (upd F p (.lst xs)) (upd H p (.lst xs)) := Gr.new s hp fun _ e => by cases e
end
/-! names' values -/
inductive EnvR (F : Hp) : L2.St → List (Option Da) → Prop
  | nil : EnvR F [] []
  | skip {o : Option V} {σ : L2.St} {δ : List (Option Da)} : EnvR F σ δ → EnvR F (o :: σ) (none :: δ)
  | cons {v : V} {d : Da} {σ : L2.St} {δ : List (Option Da)} : Dr F v d → EnvR F σ δ → EnvR F (some v :: σ) (some d :: δ)
section
variable {F F' : Hp}
theorem EnvR.mono (e : Same F F') : ∀ {σ : L2.St} {δ : List (Option Da)}, EnvR F σ δ → EnvR F' σ δ
  | _, _, .nil => .nil
  | _, _, .skip r => .skip (EnvR.mono e r)
  | _, _, .cons a r => .cons (a.mono e) (EnvR.mono e r)
theorem EnvR.get : ∀ {σ : L2.St} {δ : List (Option Da)} {i : Nat} {d : Da}, EnvR F σ δ → δ[i]? = some (some d) → ∃ v, σ[i]? = some (some v) ∧ Dr F v d
  | _, _, _, _, .nil, e => by simp at e
  | _, _, 0, _, .skip r, e => by simp at e
  | _, _, 0, _, .cons a r, e => by simp at e; subst e; exact ⟨_, rfl, a⟩
  | _, _, i + 1, d, .skip r, e => by
    obtain ⟨v, h1, h2⟩ := EnvR.get (i := i) (d := d) r (by simpa using e)
    exact ⟨v, by simpa using h1, h2⟩
  | _, _, i + 1, d, .cons a r, e => by
    obtain ⟨v, h1, h2⟩ := EnvR.get (i := i) (d := d) r (by simpa using e)
    exact ⟨v, by simpa using h1, h2⟩
theorem EnvR.set {v : V} {d : Da} (a : Dr F v d) : ∀ {σ : L2.St} {δ : List (Option Da)} (i : Nat), EnvR F σ δ → EnvR F (σ.set i (some v)) (δ.set i (some d))
  | _, _, _, .nil => .nil
  | _, _, 0, .skip r => .cons a r
  | _, _, 0, .cons _ r => .cons a r
  | _, _, i + 1, .skip r => .skip (EnvR.set a i r)
  | _, _, i + 1, .cons b r => .cons b (EnvR.set a i r)
theorem EnvR.setN {o : Option V} : ∀ {σ : L2.St} {δ : List (Option Da)} (i : Nat), EnvR F σ δ → EnvR F (σ.set i o) (δ.set i none)
  | _, _, _, .nil => .nil
  | _, _, 0, .skip r => .skip r
  | _, _, 0, .cons _ r => .skip r
  | _, _, i + 1, .skip r => .skip (EnvR.setN i r)
  | _, _, i + 1, .cons b r => .cons b (EnvR.setN i r)
def wipeD (δ : List (Option Da)) : List Nat → List (Option Da)
  | [] => δ
  | v :: vs => (wipeD δ vs).set v none
theorem EnvR.wipe {σ : L2.St} {δ : List (Option Da)} (r : EnvR F σ δ) : ∀ vs : List Nat, EnvR F (L2.wipe σ vs) (wipeD δ vs)
  | [] => r
  | v :: vs => EnvR.setN v (EnvR.wipe r vs)
theorem EnvR.len : ∀ {σ : L2.St} {δ : List (Option Da)}, EnvR F σ δ → σ.length = δ.length
  | _, _, .nil => rfl
  | _, _, .skip r => by rw [List.length_cons, List.length_cons, EnvR.len r]
  | _, _, .cons _ r => by rw [List.length_cons, List.length_cons, EnvR.len r]
def startD (n : Nat) (ds : List Da) : List (Option Da) := ds.map some ++ List.replicate (n - ds.length) none
theorem EnvR.nones {o : Option V} : ∀ n : Nat, EnvR F (List.replicate n o) (List.replicate n none)
  | 0 => .nil
  | n + 1 => .skip (EnvR.nones n)
theorem EnvR.args {σ : L2.St} {δ : List (Option Da)} (t : EnvR F σ δ) : ∀ {vs : List V} {ds : List Da}, DrL F vs ds → EnvR F (vs.map some ++ σ) (ds.map some ++ δ)
  | _, _, .nil => t
  | _, _, .cons a r => .cons a (EnvR.args t r)
theorem EnvR.start {N : List Str} {vs : List V} {ds : List Da} (r : DrL F vs ds) : EnvR F (L2.start N vs) (startD N.length ds) := by
  unfold L2.start startD
  rw [r.length]
  exact EnvR.args (EnvR.nones _) r
end
/-! what an expression is worth -/
section
variable (T : Tb) (S : Os)
def EvD (te : TE) (δ : List (Option Da)) (d : Da) : Prop := ∀ (F H : Hp) (σ : L2.St) (Q : VK), Sg T S F H → EnvR F σ δ → (∀ v F' H', Gr T S F H F' H' → Dr F' v d → Q v H') → te σ H Q
def EvT (tt : TT) (δ : List (Option Da)) (b : Bool) : Prop := ∀ (F H : Hp) (σ : L2.St) (Q : Bool → Hp → Prop), Sg T S F H → EnvR F σ δ → (∀ F' H', Gr T S F H F' H' → Q b H') → tt σ H Q
def EvA (ta : TA) (δ : List (Option Da)) (ds : List Da) : Prop := ∀ (F H : Hp) (σ : L2.St) (Q : List V → Hp → Prop), Sg T S F H → EnvR F σ δ → (∀ vs F' H', Gr T S F H F' H' → DrL F' vs ds → Q vs H') → ta σ H Q
def EvO (to : TO) (δ : List (Option Da)) (o : Option Int) : Prop := ∀ (F H : Hp) (σ : L2.St) (Q : Option Int → Hp → Prop), Sg T S F H → EnvR F σ δ → (∀ F' H', Gr T S F H F' H' → Q o H') → to σ H Q
/-- operations on values -/
def OpD (r : R2) (x y z : Da) : Prop := ∀ (F H : Hp) (v u : V) (Q : VK), Sg T S F H → Dr F v x → Dr F u y → (∀ w F' H', Gr T S F H F' H' → Dr F' w z → Q w H') → r v u H Q
def UnD (r : V → Hp → VK → Prop) (x z : Da) : Prop := ∀ (F H : Hp) (v : V) (Q : VK), Sg T S F H → Dr F v x → (∀ w F' H', Gr T S F H F' H' → Dr F' w z → Q w H') → r v H Q
def CaD (r : List V → Hp → VK → Prop) (xs : List Da) (z : Da) : Prop := ∀ (F H : Hp) (vs : List V) (Q : VK), Sg T S F H → DrL F vs xs → (∀ w F' H', Gr T S F H F' H' → Dr F' w z → Q w H') → r vs H Q
/-- a def's promise, told of data -/
def Prm (R : List Da → Da → Prop) : Sp := fun vs H Q _ => ∃ (F : Hp) (ds : List Da) (d : Da), Sg T [] F H ∧ DrL F vs ds ∧ R ds d ∧ ∀ v F' H', Gr T [] F H F' H' → Dr F' v d → Q v H'
end
section
variable {T : Tb} {S : Os} {K : PySem.W.Frag} {δ : List (Option Da)} {ta tb tc te : TE} {tt tu : TT} {d x y z : Da} {r : R2}
theorem ev_var {i : Nat} (h : δ[i]? = some (some d)) : EvD T S (tVar i) δ d := fun F H σ Q s e q => by
  obtain ⟨v, h1, h2⟩ := e.get h
  exact ⟨v, h1, q v F H (Gr.refl s) h2⟩
theorem ev_c {v : V} (h : ∀ F, Dr F v d) : EvD T S (tC v) δ d := fun F H σ Q s e q => q v F H (Gr.refl s) (h F)
theorem ev_int {i : Int} : EvD T S (tC (.int i)) δ (.int i) := ev_c fun _ => .int i
theorem ev_bl {i : Bool} : EvD T S (tC (.bl i)) δ (.bl i) := ev_c fun _ => .bl i
theorem ev_non : EvD T S (tC .non) δ .non := ev_c fun _ => .non
theorem ev_str {i : Str} : EvD T S (tC (.str i)) δ (.str i) := ev_c fun _ => .str i
theorem ev_fn {a : Addr} : EvD T S (tC (.ref a)) δ (.fn a) := ev_c fun _ => .fn a
theorem ev_op (ha : EvD T S ta δ x) (hb : EvD T S tb δ y) (hr : OpD T S r x y z) : EvD T S (tOp r ta tb) δ z := fun F H σ Q s e q =>
  ha F H σ _ s e fun v F1 H1 g1 r1 => hb F1 H1 σ _ g1.sg (e.mono g1.ff) fun u F2 H2 g2 r2 => hr F2 H2 v u _ g2.sg (r1.mono g2.ff) r2 fun w F3 H3 g3 r3 => q w F3 H3 ((g1.trans g2).trans g3) r3
theorem ev_un {r : V → Hp → VK → Prop} (ha : EvD T S ta δ x) (hr : UnD T S r x z) : EvD T S (tUn r ta) δ z := fun F H σ Q s e q =>
  ha F H σ _ s e fun v F1 H1 g1 r1 => hr F1 H1 v _ g1.sg r1 fun w F3 H3 g3 r3 => q w F3 H3 (g1.trans g3) r3
theorem ea_nil : EvA T S tNil δ [] := fun F H σ Q s e q => q [] F H (Gr.refl s) .nil
theorem ea_cons {ts : TA} {ds : List Da} (ha : EvD T S ta δ d) (hr : EvA T S ts δ ds) : EvA T S (tCons ta ts) δ (d :: ds) := fun F H σ Q s e q =>
  ha F H σ _ s e fun v F1 H1 g1 r1 => hr F1 H1 σ _ g1.sg (e.mono g1.ff) fun vs F2 H2 g2 r2 => q (v :: vs) F2 H2 (g1.trans g2) (.cons (r1.mono g2.ff) r2)
theorem ev_tup {ts : TA} {ds : List Da} (h : EvA T S ts δ ds) (hl : ds.length ≤ 1000 := by exact Nat.le_of_ble_eq_true rfl) : EvD T S (tTup ts) δ (.tup ds) := fun F H σ Q s e q =>
  h F H σ _ s e fun vs F1 H1 g1 r1 => ⟨by rw [r1.length]; exact Nat.le_of_lt (small1000 hl), fun p hp => q (.ref p) _ _ (g1.trans (Gr.newT g1.sg hp)) (Dr.newT (g1.sg.ex.free hp) r1)⟩
theorem ev_lst {ts : TA} {ds : List Da} (h : EvA T S ts δ ds) (hl : ds.length ≤ 1000 := by exact Nat.le_of_ble_eq_true rfl) : EvD T S (tLst ts) δ (.lst ds) := fun F H σ Q s e q =>
  h F H σ _ s e fun vs F1 H1 g1 r1 => ⟨by rw [r1.length]; exact Nat.le_of_lt (small1000 hl), fun p hp => q (.ref p) _ _ (g1.trans (Gr.newL g1.sg hp)) (Dr.newL (g1.sg.ex.free hp) r1)⟩
theorem ev_call {R : List Da → Da → Prop} {E : XK} {ts : TA} {ds : List Da} (h : EvA T S ts δ ds) (hR : R ds d) : EvD T S (tCall (Prm T R) [] E ts) δ d := fun F H σ Q s e q =>
  h F H σ _ s e fun vs F1 H1 g1 r1 => ⟨F1, ds, d, g1.sg.bare, by rw [List.append_nil]; exact r1, hR, fun v F2 H2 g2 r2 => q v F2 H2 (g1.trans (g2.with g1.sg)) r2⟩
/-- a call where values fill up -/
theorem ev_callD {R : List Da → Da → Prop} {E : XK} {ts : TA} {ds es : List Da} {dvs : List V} (h : EvA T S ts δ ds) (hd : ∀ F, DrL F dvs es) (hR : R (ds ++ es) d) : EvD T S (tCall (Prm T R) dvs E ts) δ d := fun F H σ Q s e q =>
  h F H σ _ s e fun vs F1 H1 g1 r1 => ⟨F1, ds ++ es, d, g1.sg.bare, r1.append (hd _), hR, fun v F2 H2 g2 r2 => q v F2 H2 (g1.trans (g2.with g1.sg)) r2⟩
theorem ev_meth {R : List Da → Da → Prop} {E : XK} {C : Addr} {m : Str} {fs : List (Str × Da)} {ts : TA} {ds : List Da} (ho : EvD T S ta δ (.ins C fs)) (h : EvA T S ts δ ds) (hR : R (.ins C fs :: ds) d) (hm : fs.lookup m = none := by first | rfl | kernel_rfl) : EvD T S (tMeth C m (Prm T R) [] E ta ts) δ d := fun F H σ Q s e q =>
  ho F H σ _ s e fun v F1 H1 g1 r1 => by
    cases r1 with
    | ins h1 h2 =>
      rename_i a dx fs'
      refine ⟨a, dx, fs', rfl, g1.sg.ex _ _ h1, (h2.look (f := m)).2 hm, ?_⟩
      refine h F1 H1 σ _ g1.sg (e.mono g1.ff) fun vs F2 H2 g2 r2 => ?_
      exact ⟨F2, .ins C fs :: ds, d, g2.sg.bare, .cons (.ins (g2.ff _ _ h1) (h2.mono g2.ff)) (by rw [List.append_nil]; exact r2), hR, fun v F3 H3 g3 r3 => q v F3 H3 ((g1.trans g2).trans (g3.with g2.sg)) r3⟩
theorem ev_fld {C : Addr} {fs : List (Str × Da)} {f : Str} (ho : EvD T S ta δ (.ins C fs)) (hc : Cls K C) (hn : NoAttr K C f) (hl : fs.lookup f = some d) : EvD T S (tFld K ta f) δ d := fun F H σ Q s e q =>
  ho F H σ _ s e fun v F1 H1 g1 r1 => by
    cases r1 with
    | ins h1 h2 =>
      rename_i a dx fs'
      obtain ⟨u, k1, k2⟩ := (h2.look (f := f)).1 d hl
      exact ⟨a, C, dx, fs', u, rfl, g1.sg.ex _ _ h1, hc, hn, k1, q u F1 H1 g1 k2⟩
theorem ev_cb {r : List V → Hp → VK → Prop} {ts : TA} {ds : List Da} (h : EvA T S ts δ ds) (hr : CaD T S r ds z) : EvD T S (tCB r ts) δ z := fun F H σ Q s e q =>
  h F H σ _ s e fun vs F1 H1 g1 r1 => hr F1 H1 vs _ g1.sg r1 fun w F2 H2 g2 r2 => q w F2 H2 (g1.trans g2) r2
theorem ev_bm {K : PySem.W.Frag} {r : V → List V → Hp → VK → Prop} {ty : String} {ts : TA} {ds : List Da} (ho : EvD T S ta δ x) (h : EvA T S ts δ ds) (hT : ∀ F H v, Sg T S F H → Dr F v x → tyV K ty v H)
    (hr : ∀ (F H : Hp) (v : V) (vs : List V) (Q : VK), Sg T S F H → Dr F v x → DrL F vs ds → (∀ w F' H', Gr T S F H F' H' → Dr F' w z → Q w H') → r v vs H Q) : EvD T S (tBM K ty r ta ts) δ z := fun F H σ Q s e q =>
  ho F H σ _ s e fun v F1 H1 g1 r1 => ⟨hT F1 H1 v g1.sg r1, h F1 H1 σ _ g1.sg (e.mono g1.ff) fun vs F2 H2 g2 r2 => hr F2 H2 v vs _ g2.sg (r1.mono g2.ff) r2 fun w F3 H3 g3 r3 => q w F3 H3 ((g1.trans g2).trans g3) r3⟩
theorem ev_is (h : EvD T S te δ x) (e : x = y) : EvD T S te δ y := e ▸ h
theorem ev_if {b : Bool} (h : EvT T S tt δ b) (h1 : b = true → EvD T S ta δ d) (h2 : b = false → EvD T S tb δ d) : EvD T S (tIf tt ta tb) δ d := fun F H σ Q s e q =>
  h F H σ _ s e fun F1 H1 g1 => by
    cases b with
    | true => exact iteT (h1 rfl F1 H1 σ Q g1.sg (e.mono g1.ff) fun v F2 H2 g2 r2 => q v F2 H2 (g1.trans g2) r2)
    | false => exact iteF (h2 rfl F1 H1 σ Q g1.sg (e.mono g1.ff) fun v F2 H2 g2 r2 => q v F2 H2 (g1.trans g2) r2)
/-! tests -/
theorem et_test {b : Bool} (h : EvD T S te δ (.bl b)) : EvT T S (tTest te) δ b := fun F H σ Q s e q => h F H σ _ s e fun v F1 H1 g1 r1 => by
  cases r1
  exact ⟨b, rfl, q F1 H1 g1⟩
theorem et_B {b : Bool} (h : EvD T S te δ (.bl b)) : EvT T S (tB te) δ b := fun F H σ Q s e q => h F H σ _ s e fun v F1 H1 g1 r1 => by
  cases r1
  exact ⟨b, rfl, q F1 H1 g1⟩
theorem et_and {a b : Bool} (h1 : EvT T S tt δ a) (h2 : a = true → EvT T S tu δ b) : EvT T S (tAnd tt tu) δ (a && b) := fun F H σ Q s e q => h1 F H σ _ s e fun F1 H1 g1 => by
  cases a with
  | true => exact iteT (h2 rfl F1 H1 σ Q g1.sg (e.mono g1.ff) fun F2 H2 g2 => q F2 H2 (g1.trans g2))
  | false => exact iteF (q F1 H1 g1)
theorem et_or {a b : Bool} (h1 : EvT T S tt δ a) (h2 : a = false → EvT T S tu δ b) : EvT T S (tOr tt tu) δ (a || b) := fun F H σ Q s e q => h1 F H σ _ s e fun F1 H1 g1 => by
  cases a with
  | false => exact iteF (h2 rfl F1 H1 σ Q g1.sg (e.mono g1.ff) fun F2 H2 g2 => q F2 H2 (g1.trans g2))
  | true => exact iteT (q F1 H1 g1)
theorem et_not {a : Bool} (h : EvT T S tt δ a) : EvT T S (tNot tt) δ (!a) := fun F H σ Q s e q => h F H σ _ s e fun F1 H1 g1 => q F1 H1 g1
theorem et_is {a b : Bool} (h : EvT T S tt δ a) (e : a = b) : EvT T S tt δ b := e ▸ h
theorem ev_andV {a b : Bool} (h1 : EvD T S ta δ (.bl a)) (h2 : a = true → EvD T S tb δ (.bl b)) : EvD T S (tAndV ta tb) δ (.bl (a && b)) := fun F H σ Q s e q => h1 F H σ _ s e fun v F1 H1 g1 r1 => by
  cases r1
  refine ⟨a, rfl, ?_⟩
  cases a with
  | true => exact iteT (h2 rfl F1 H1 σ Q g1.sg (e.mono g1.ff) fun v F2 H2 g2 r2 => q v F2 H2 (g1.trans g2) r2)
  | false => exact iteF (q _ F1 H1 g1 (.bl false))
theorem ev_notV {a : Bool} (h : EvD T S ta δ (.bl a)) : EvD T S (tNotV ta) δ (.bl (!a)) := fun F H σ Q s e q => h F H σ _ s e fun v F1 H1 g1 r1 => by
  cases r1
  exact ⟨a, rfl, q _ F1 H1 g1 (.bl _)⟩
theorem eo_none : EvO T S tNoPart δ none := fun F H σ Q s e q => q F H (Gr.refl s)
theorem eo_some {i : Int} (h : EvD T S te δ (.int i)) : EvO T S (tPart te) δ (some i) := fun F H σ Q s e q => h F H σ _ s e fun v F1 H1 g1 r1 => by
  cases r1
  exact ⟨i, rfl, q F1 H1 g1⟩
/-! operations -/
theorem od_I {C : Int → Int → Prop} {g : Int → Int → V} {i j : Int} (hg : ∀ F, Dr F (g i j) z) (hc : C i j) : OpD T S (rI C g) (.int i) (.int j) z := fun F H v u Q s a b q => by
  cases a; cases b
  exact ⟨i, j, rfl, rfl, hc, q _ F H (Gr.refl s) (hg F)⟩
theorem od_I0 {g : Int → Int → V} {i j : Int} (hg : ∀ F, Dr F (g i j) z) : OpD T S (rI0 g) (.int i) (.int j) z := fun F H v u Q s a b q => by
  cases a; cases b
  exact ⟨i, j, rfl, rfl, q _ F H (Gr.refl s) (hg F)⟩
theorem ev_add {i j : Int} (ha : EvD T S ta δ (.int i)) (hb : EvD T S tb δ (.int j)) : EvD T S (tOp (rI0 fun i j => .int (i + j)) ta tb) δ (.int (i + j)) := ev_op ha hb (od_I0 fun _ => .int _)
theorem ev_sub {i j : Int} (ha : EvD T S ta δ (.int i)) (hb : EvD T S tb δ (.int j)) : EvD T S (tOp (rI0 fun i j => .int (i - j)) ta tb) δ (.int (i - j)) := ev_op ha hb (od_I0 fun _ => .int _)
theorem ev_mul {i j : Int} (ha : EvD T S ta δ (.int i)) (hb : EvD T S tb δ (.int j)) (hc : CMulW i j) : EvD T S (tOp (rI CMulW fun i j => .int (i * j)) ta tb) δ (.int (i * j)) := ev_op ha hb (od_I (fun _ => .int _) hc)
theorem ev_fdiv {i j : Int} (ha : EvD T S ta δ (.int i)) (hb : EvD T S tb δ (.int j)) (hc : CDivW i j) : EvD T S (tOp (rI CDivW fun i j => .int (i / j)) ta tb) δ (.int (i / j)) := ev_op ha hb (od_I (fun _ => .int _) hc)
theorem ev_fdivN {i j : Int} (ha : EvD T S ta δ (.int i)) (hb : EvD T S tb δ (.int j)) (hc : CDivN i j) : EvD T S (tOp (rI CDivN fun i j => .int (i.fdiv j)) ta tb) δ (.int (i.fdiv j)) := ev_op ha hb (od_I (fun _ => .int _) hc)
theorem ev_mod {i j : Int} (ha : EvD T S ta δ (.int i)) (hb : EvD T S tb δ (.int j)) (hc : 0 < j) : EvD T S (tOp (rI (fun _ j => 0 < j) fun i j => .int (i % j)) ta tb) δ (.int (i % j)) := ev_op ha hb (od_I (fun _ => .int _) hc)
theorem ev_pow {i j : Int} (ha : EvD T S ta δ (.int i)) (hb : EvD T S tb δ (.int j)) (hc : CPow i j) : EvD T S (tOp (rI CPow fun i j => .int (i ^ j.toNat)) ta tb) δ (.int (i ^ j.toNat)) := ev_op ha hb (od_I (fun _ => .int _) hc)
theorem ev_neg {i : Int} (ha : EvD T S ta δ (.int i)) : EvD T S (tUn (rU fun i => .int (-i)) ta) δ (.int (-i)) := ev_un ha fun F H v Q s a q => by
  cases a
  exact ⟨i, rfl, q _ F H (Gr.refl s) (.int _)⟩
theorem ev_cmp {g : Int → Int → Bool} {i j : Int} (ha : EvD T S ta δ (.int i)) (hb : EvD T S tb δ (.int j)) : EvD T S (tOp (rI0 fun i j => .bl (g i j)) ta tb) δ (.bl (g i j)) := ev_op ha hb (od_I0 fun _ => .bl _)
theorem ev_eqI {i j : Int} (ha : EvD T S ta δ (.int i)) (hb : EvD T S tb δ (.int j)) : EvD T S (tOp rEq ta tb) δ (.bl (decide (i = j))) := ev_op ha hb fun F H v u Q s a b q => by
  cases a; cases b
  refine ⟨rfl, q _ F H (Gr.refl s) ?_⟩
  have e : decide (V.int i = V.int j) = decide (i = j) := by rw [dec_int, Bool.beq_eq_decide_eq]
  rw [e]
  exact .bl _
theorem ev_neI {i j : Int} (ha : EvD T S ta δ (.int i)) (hb : EvD T S tb δ (.int j)) : EvD T S (tOp rNe ta tb) δ (.bl (!decide (i = j))) := ev_op ha hb fun F H v u Q s a b q => by
  cases a; cases b
  refine ⟨rfl, q _ F H (Gr.refl s) ?_⟩
  have e : decide (V.int i = V.int j) = decide (i = j) := by rw [dec_int, Bool.beq_eq_decide_eq]
  rw [e]
  exact .bl _
def Da.isN : Da → Bool
  | .non => true
  | _ => false
theorem Dr.isN {F : Hp} {v : V} (r : Dr F v d) : decide (v = V.non) = d.isN := by
  cases r <;> rfl
theorem ev_isN (ha : EvD T S ta δ x) : EvD T S (tOp (fun x y H Q => y = .non ∧ Q (.bl (decide (x = .non))) H) ta (tC .non)) δ (.bl x.isN) := ev_op ha ev_non fun F H v u Q s a b q => by
  cases b
  refine ⟨rfl, q _ F H (Gr.refl s) ?_⟩
  rw [a.isN]
  exact .bl _
theorem ev_notN (ha : EvD T S ta δ x) : EvD T S (tOp (fun x y H Q => y = .non ∧ Q (.bl (!decide (x = .non))) H) ta (tC .non)) δ (.bl (!x.isN)) := ev_op ha ev_non fun F H v u Q s a b q => by
  cases b
  refine ⟨rfl, q _ F H (Gr.refl s) ?_⟩
  rw [a.isN]
  exact .bl _
theorem ev_eqD (ha : EvD T S ta δ x) (hb : EvD T S tb δ y) (h1 : x.plain = true) (h2 : y.plain = true) (h3 : SeqAt.shaped x.py = true) (h4 : SeqAt.shaped y.py = true) : EvD T S (tOp (rEqD K) ta tb) δ (.bl (PyData.eqv x.py y.py)) := ev_op ha hb fun F H v u Q s a b q =>
  ⟨x.py, y.py, (a.mono s.ex).dp h1, (b.mono s.ex).dp h2, h3, h4, q _ F H (Gr.refl s) (.bl _)⟩
theorem ev_neD (ha : EvD T S ta δ x) (hb : EvD T S tb δ y) (h1 : x.plain = true) (h2 : y.plain = true) (h3 : SeqAt.shaped x.py = true) (h4 : SeqAt.shaped y.py = true) : EvD T S (tOp (rNeD K) ta tb) δ (.bl (!PyData.eqv x.py y.py)) := ev_op ha hb fun F H v u Q s a b q =>
  ⟨x.py, y.py, (a.mono s.ex).dp h1, (b.mono s.ex).dp h2, h3, h4, q _ F H (Gr.refl s) (.bl _)⟩
theorem atI_dr {F : Hp} {xs : List V} {ds : List Da} {i : Int} (r : DrL F xs ds) (h : atI ds i = some d) : ∃ v, atI xs i = some v ∧ Dr F v d := by
  unfold atI at h ⊢
  rw [r.length]
  cases e : ixN ds.length i with
  | none => rw [e] at h; cases h
  | some j =>
    rw [e] at h
    exact r.get h
theorem ev_ixT {l : List Da} {i : Int} (ha : EvD T S ta δ (.tup l)) (hb : EvD T S tb δ (.int i)) (hi : atI l i = some d) : EvD T S (tOp (rIxT K) ta tb) δ d := ev_op ha hb fun F H v u Q s a b q => by
  cases b
  cases a with
  | tup h1 h2 =>
    obtain ⟨v, e1, e2⟩ := atI_dr h2 hi
    exact ⟨_, _, i, v, rfl, rfl, SqT.of (s.ex _ _ h1), e1, q v F H (Gr.refl s) e2⟩
theorem ev_ixL {l : List Da} {i : Int} (ha : EvD T S ta δ (.lst l)) (hb : EvD T S tb δ (.int i)) (hi : atI l i = some d) : EvD T S (tOp (rIxL K) ta tb) δ d := ev_op ha hb fun F H v u Q s a b q => by
  cases b
  cases a with
  | lst h1 h2 =>
    obtain ⟨v, e1, e2⟩ := atI_dr h2 hi
    exact ⟨_, _, i, v, rfl, rfl, SqL.of (s.ex _ _ h1), e1, q v F H (Gr.refl s) e2⟩
def cutD (xs : List Da) (lo hi : Option Int) : List Da := (xs.drop (HT.sIx xs.length 0 lo)).take (HT.sIx xs.length xs.length hi - HT.sIx xs.length 0 lo)
theorem DrL.cut {F : Hp} {xs : List V} {ds : List Da} (r : DrL F xs ds) (lo hi : Option Int) : DrL F (cutV xs lo hi) (cutD ds lo hi) := by
  unfold cutV cutD
  rw [r.length]
  exact (r.drop _).take _
theorem ev_slL {tl th : TO} {l : List Da} {lo hi : Option Int} (ha : EvD T S ta δ (.lst l)) (h1 : EvO T S tl δ lo) (h2 : EvO T S th δ hi) : EvD T S (tSl (rSlL K) ta tl th) δ (.lst (cutD l lo hi)) := fun F H σ Q s e q =>
  ha F H σ _ s e fun v F1 H1 g1 r1 => h1 F1 H1 σ _ g1.sg (e.mono g1.ff) fun F2 H2 g2 => h2 F2 H2 σ _ g2.sg ((e.mono g1.ff).mono g2.ff) fun F3 H3 g3 => by
    have r3 := (r1.mono g2.ff).mono g3.ff
    cases r3 with
    | lst k1 k2 => exact ⟨_, _, rfl, SqL.of (g3.sg.ex _ _ k1), fun p hp => q (.ref p) _ _ (((g1.trans g2).trans g3).trans (Gr.newL g3.sg hp)) (Dr.newL (g3.sg.ex.free hp) (k2.cut lo hi))⟩
theorem ev_slT {tl th : TO} {l : List Da} {lo hi : Option Int} (ha : EvD T S ta δ (.tup l)) (h1 : EvO T S tl δ lo) (h2 : EvO T S th δ hi) (hw : ¬ (HT.sIx l.length 0 lo = 0 ∧ HT.sIx l.length l.length hi = l.length)) : EvD T S (tSl (rSlT K) ta tl th) δ (.tup (cutD l lo hi)) := fun F H σ Q s e q =>
  ha F H σ _ s e fun v F1 H1 g1 r1 => h1 F1 H1 σ _ g1.sg (e.mono g1.ff) fun F2 H2 g2 => h2 F2 H2 σ _ g2.sg ((e.mono g1.ff).mono g2.ff) fun F3 H3 g3 => by
    have r3 := (r1.mono g2.ff).mono g3.ff
    cases r3 with
    | tup k1 k2 => exact ⟨_, _, rfl, SqT.of (g3.sg.ex _ _ k1), by rw [k2.length]; exact hw, fun p hp => q (.ref p) _ _ (((g1.trans g2).trans g3).trans (Gr.newT g3.sg hp)) (Dr.newT (g3.sg.ex.free hp) (k2.cut lo hi))⟩
theorem ev_catL {l m : List Da} (ha : EvD T S ta δ (.lst l)) (hb : EvD T S tb δ (.lst m)) (hl : l.length + m.length ≤ 1000) : EvD T S (tOp rCat ta tb) δ (.lst (l ++ m)) := ev_op ha hb fun F H v u Q s a b q => by
  cases a with
  | lst a1 a2 =>
    cases b with
    | lst b1 b2 => exact ⟨_, _, _, _, rfl, rfl, s.ex _ _ a1, s.ex _ _ b1, by rw [a2.length, b2.length]; exact Nat.le_of_lt (small1000 hl), fun p hp => q (.ref p) _ _ (Gr.newL s hp) (Dr.newL (s.ex.free hp) (a2.append b2))⟩
theorem ev_catT {l m : List Da} (ha : EvD T S ta δ (.tup l)) (hb : EvD T S tb δ (.tup m)) (hl : l.length + m.length ≤ 1000) (h1 : l ≠ []) (h2 : m ≠ []) : EvD T S (tOp (rCatT K) ta tb) δ (.tup (l ++ m)) := ev_op ha hb fun F H v u Q s a b q => by
  cases a with
  | tup a1 a2 =>
    cases b with
    | tup b1 b2 =>
      refine ⟨_, _, _, _, rfl, rfl, SqT.of (s.ex _ _ a1), SqT.of (s.ex _ _ b1), fun z => ?_, by rw [a2.length, b2.length]; exact Nat.le_of_lt (small1000 hl), fun z => ?_, fun _ p hp => q (.ref p) _ _ (Gr.newT s hp) (Dr.newT (s.ex.free hp) (a2.append b2))⟩
      · rw [z] at a2; cases a2; exact h1 rfl
      · rw [z] at b2; cases b2; exact absurd rfl h2
theorem ev_chain {g g' : Int → Int → Bool} {i j k : Int} (ha : EvD T S ta δ (.int i)) (hb : EvD T S tb δ (.int j)) (hc : EvD T S tc δ (.int k)) :
    EvD T S (tChain (rI0 fun i j => .bl (g i j)) (rI0 fun i j => .bl (g' i j)) ta tb tc) δ (.bl (g i j && g' j k)) := fun F H σ Q s e q =>
  ha F H σ _ s e fun v F1 H1 g1 r1 => hb F1 H1 σ _ g1.sg (e.mono g1.ff) fun u F2 H2 g2 r2 => by
    cases r1; cases r2
    refine ⟨i, j, rfl, rfl, g i j, rfl, ?_⟩
    cases q1 : g i j with
    | true =>
      refine iteT (hc F2 H2 σ _ g2.sg ((e.mono g1.ff).mono g2.ff) fun w F3 H3 g3 r3 => ?_)
      cases r3
      exact ⟨j, k, rfl, rfl, q _ F3 H3 ((g1.trans g2).trans g3) (by rw [q1]; exact .bl _)⟩
    | false => exact iteF (q _ F2 H2 (g1.trans g2) (by rw [q1]; exact .bl _))
end
end O26
set_option Elab.async false
set_option linter.all false
set_option maxRecDepth 100000
set_option maxHeartbeats 4000000
namespace O26
open PySem PySem.Spec PyProof.Rows L2
section
variable {T : Tb} {S : Os} {F H F1 H1 F2 H2 : Hp}
/-! an object of one's own, written, then given away -/
theorem tabs_upd {p : Addr} {o o' : HO} (t : LamX.Tabs T H) (hp : H p = some o) (h1 : ∀ ps, o ≠ .tbl ps) (h2 : ∀ φ, o ≠ .ext φ) : LamX.Tabs T (upd H p o') := fun x hx => by
  obtain ⟨ps, e1, e2, e3⟩ := t x hx
  have n1 : x.1 ≠ p := fun z => by rw [z, hp] at e1; exact h1 ps (Option.some.inj e1)
  refine ⟨ps, by rw [upd_ne n1]; exact e1, e2, fun pos cv hc => ?_⟩
  obtain ⟨c, k1, k2⟩ := e3 pos cv hc
  have n2 : c ≠ p := fun z => by rw [z, hp] at k2; exact h2 _ (Option.some.inj k2)
  exact ⟨c, k1, by rw [upd_ne n2]; exact k2⟩
theorem tabs_free {p : Addr} {o' : HO} (t : LamX.Tabs T H) (hp : H p = none) : LamX.Tabs T (upd H p o') := LamX.Tabs.ext t fun b u e => by rw [upd_ne (ne_of_none e hp)]; exact e
/-- known, no table -/
def NT (H : Hp) (b : Addr) : Prop := ∃ o, H b = some o ∧ ∀ ps, o ≠ .tbl ps
theorem NT.no {H : Hp} {b : Addr} (h : H b = none) : ¬ NT H b := fun ⟨_, e, _⟩ => by rw [h] at e; cases e
/-- what a statement leaves: what was one's own may have changed -/
structure GrS (T : Tb) (S : Os) (F H : Hp) (S' : Os) (F' H' : Hp) : Prop where
  hh : ∀ b o, H b = some o → S.lookup b = none → (∀ ps, o ≠ .tbl ps) → H' b = some o
  ff : Same F F'
  sg : Sg T S' F' H'
  ow : ∀ a o, H a = some o → S.lookup a = none → (∀ ps, o ≠ .tbl ps) → F a = none → F' a = none
  ny : ∀ p c, S'.lookup p = some c → S.lookup p = none → ¬ NT H p
  th : ∀ b, NT H b → NT H' b
theorem Gr.s (g : Gr T S F H F1 H1) : GrS T S F H S F1 H1 := ⟨fun b o h _ t => g.hh b o h t, g.ff, g.sg, fun a o h _ t n => g.ow a o h t n, fun p c e n => (by rw [e] at n; cases n), fun b ⟨o, h, t⟩ => ⟨o, g.hh b o h t, t⟩⟩
theorem GrS.refl (s : Sg T S F H) : GrS T S F H S F H := (Gr.refl s).s
theorem GrS.trans {S1 S2 : Os} (a : GrS T S F H S1 F1 H1) (b : GrS T S1 F1 H1 S2 F2 H2) : GrS T S F H S2 F2 H2 := by
  have un : ∀ x o, H x = some o → S.lookup x = none → (∀ ps, o ≠ .tbl ps) → S1.lookup x = none := fun x o h n t => by
    cases e : S1.lookup x with
    | none => rfl
    | some c => exact absurd ⟨o, h, t⟩ (a.ny x c e n)
  refine ⟨fun x o h n t => b.hh x o (a.hh x o h n t) (un x o h n t) t, a.ff.trans b.ff, b.sg, fun x o h n t f => b.ow x o (a.hh x o h n t) (un x o h n t) t (a.ow x o h n t f), fun p c e n => ?_, fun x h => b.th x (a.th x h)⟩
  cases e1 : S1.lookup p with
  | some c1 => exact a.ny p c1 e1 n
  | none => exact fun z => b.ny p c e e1 (a.th p z)
theorem GrS.weak {S1 S2 : Os} (a : GrS T S F H S1 F1 H1) (h : ∀ p c, S2.lookup p = some c → S1.lookup p = some c) : GrS T S F H S2 F1 H1 :=
  ⟨a.hh, a.ff, a.sg.weak h, a.ow, fun p c e n => a.ny p c (h p c e) n, a.th⟩
theorem GrS.drop {S1 : Os} (a : GrS T S F H S1 F1 H1) : GrS T S F H [] F1 H1 := a.weak fun p c e => by cases e
theorem GrS.gr {S1 : Os} (a : GrS T [] F H S1 F1 H1) : Gr T [] F H F1 H1 := ⟨fun b o h t => a.hh b o h rfl t, a.ff, a.sg.bare, fun x o h t n => a.ow x o h rfl t n⟩
theorem same_pub {p : Addr} {o : HO} (hp : F p = none) : Same F (upd F p o) := fun b u e => by rw [upd_ne (ne_of_none e hp)]; exact e
theorem lookup_put {S : Os} {p q : Addr} {c : Oc} : List.lookup q ((p, c) :: S) = if q = p then some c else S.lookup q := by
  rw [List.lookup_cons]
  by_cases h : q = p
  · rw [if_pos h, h]; simp
  · rw [if_neg h, show (q == p) = false from beq_eq_false_iff_ne.mpr h]
/-- a new object, kept as one's own -/
theorem GrS.mine {p : Addr} {o : HO} {c : Oc} (s : Sg T S F H) (hp : H p = none) (hc : OcR F o c) : GrS T S F H ((p, c) :: S) F (upd H p o) := by
  have fp := s.ex.free hp
  have nS : S.lookup p = none := by
    cases e : S.lookup p with
    | none => rfl
    | some c => obtain ⟨o, h1, _⟩ := s.own p c e; rw [hp] at h1; cases h1
  refine ⟨fun b u e _ _ => by rw [upd_ne (ne_of_none e hp)]; exact e, Same.refl F, ⟨fun b u e => by rw [upd_ne (ne_of_none e fp)]; exact s.ex b u e, tabs_free s.tab hp, s.nt, fun q c' e => ?_⟩, fun a u e _ _ n => n, fun q c' e n => ?_, fun b e => ?_⟩
  · rw [lookup_put] at e
    by_cases hq : q = p
    · rw [if_pos hq] at e; cases e; subst hq
      exact ⟨o, upd_same, fp, hc⟩
    · rw [if_neg hq] at e
      obtain ⟨u, h1, h2, h3⟩ := s.own q c' e
      exact ⟨u, by rw [upd_ne hq]; exact h1, h2, h3⟩
  · rw [lookup_put] at e
    by_cases hq : q = p
    · rw [hq]; exact NT.no hp
    · rw [if_neg hq, n] at e; cases e
  · obtain ⟨u, h1, h2⟩ := e
    exact ⟨u, by rw [upd_ne (ne_of_none h1 hp)]; exact h1, h2⟩
/-- .. written -/
theorem GrS.write {p : Addr} {o : HO} {c c0 : Oc} (s : Sg T S F H) (hS : S.lookup p = some c0) (hc : OcR F o c) : GrS T S F H ((p, c) :: S) F (upd H p o) := by
  obtain ⟨o0, h1, h2, h3⟩ := s.own p c0 hS
  refine ⟨fun b u e n _ => by rw [upd_ne (fun z => by rw [z, hS] at n; cases n)]; exact e, Same.refl F, ⟨fun b u e => by rw [upd_ne (ne_of_none e h2)]; exact s.ex b u e, tabs_upd s.tab h1 h3.nt.1 h3.nt.2, s.nt, fun q c' e => ?_⟩, fun a u e _ _ n => n, fun q c' e n => ?_, fun b e => ?_⟩
  · rw [lookup_put] at e
    by_cases hq : q = p
    · rw [if_pos hq] at e; cases e; subst hq
      exact ⟨o, upd_same, h2, hc⟩
    · rw [if_neg hq] at e
      obtain ⟨u, k1, k2, k3⟩ := s.own q c' e
      exact ⟨u, by rw [upd_ne hq]; exact k1, k2, k3⟩
  · rw [lookup_put] at e
    by_cases hq : q = p
    · rw [hq, hS] at n; cases n
    · rw [if_neg hq, n] at e; cases e
  · obtain ⟨u, h5, h6⟩ := e
    by_cases hb : b = p
    · exact ⟨o, by rw [hb]; exact upd_same, hc.nt.1⟩
    · exact ⟨u, by rw [upd_ne hb]; exact h5, h6⟩
/-- .. given away: from now on it is fixed -/
theorem GrS.publish {p : Addr} {c : Oc} {o : HO} (s : Sg T S F H) (hS : S.lookup p = some c) (ho : H p = some o) : GrS T S F H (S.filter fun x => x.1 != p) (upd F p o) H := by
  obtain ⟨o0, h1, h2, h3⟩ := s.own p c hS
  rw [ho] at h1; cases h1
  have lk : ∀ q, (S.filter fun x => x.1 != p).lookup q = if q = p then none else S.lookup q := by
    intro q
    clear hS s
    induction S with
    | nil => simp
    | cons a S ih =>
      obtain ⟨r, cr⟩ := a
      by_cases hr : r = p
      · subst hr
        rw [List.filter_cons_of_neg (by simp), ih, lookup_put]
        by_cases hq : q = r
        · rw [if_pos hq, if_pos hq]
        · rw [if_neg hq, if_neg hq, if_neg hq]
      · rw [List.filter_cons_of_pos (by simp [hr]), lookup_put, lookup_put, ih]
        by_cases hq : q = r
        · rw [if_pos hq, if_pos hq, if_neg (fun z => hr (hq.symm.trans z))]
        · rw [if_neg hq, if_neg hq]
  refine ⟨fun b u e _ _ => e, same_pub h2, ⟨fun b u e => ?_, s.tab, fun a ps e => ?_, fun q c' e => ?_⟩, fun a u e n _ f => ?_, fun q c' e n => ?_, fun _ h => h⟩
  · by_cases hb : b = p
    · subst hb; rw [upd_same] at e; cases e; exact ho
    · rw [upd_ne hb] at e; exact s.ex b u e
  · by_cases hb : a = p
    · subst hb; rw [upd_same] at e; exact h3.nt.1 ps (Option.some.inj e)
    · rw [upd_ne hb] at e; exact s.nt a ps e
  · rw [lk] at e
    by_cases hq : q = p
    · rw [if_pos hq] at e; cases e
    · rw [if_neg hq] at e
      obtain ⟨u, k1, k2, k3⟩ := s.own q c' e
      exact ⟨u, k1, by rw [upd_ne hq]; exact k2, k3.mono (same_pub h2)⟩
  · have hb : a ≠ p := fun z => by rw [z, hS] at n; cases n
    rw [upd_ne hb]; exact f
  · rw [lk] at e
    by_cases hq : q = p
    · rw [if_pos hq] at e; cases e
    · rw [if_neg hq, n] at e; cases e
end
/-! targets -/
section
variable (T : Tb) (S : Os)
def GD (g : TG) (x : Da) (δ δ' : List (Option Da)) (sl : List Nat) : Prop := ∀ (F H : Hp) (σ : L2.St) (v : V) (Q : L2.St → Hp → Prop), Sg T S F H → EnvR F σ δ → Dr F v x →
  (∀ F' H' σ', Gr T S F H F' H' → EnvR F' σ' δ' → σ'.length = σ.length → (∀ j, j ∉ sl → σ'[j]? = σ[j]?) → Q σ' H') → g v σ H Q
def GDs (g : TGs) (xs : List Da) (δ δ' : List (Option Da)) (sl : List Nat) : Prop := ∀ (F H : Hp) (σ : L2.St) (vs : List V) (Q : L2.St → Hp → Prop), Sg T S F H → EnvR F σ δ → DrL F vs xs →
  (∀ F' H' σ', Gr T S F H F' H' → EnvR F' σ' δ' → σ'.length = σ.length → (∀ j, j ∉ sl → σ'[j]? = σ[j]?) → Q σ' H') → g vs σ H Q
inductive Out where
  | nx (δ : List (Option Da)) (S : Os) | ret (d : Da) | retO (p : Addr) (S : Os) | retS (d : Da) (S : Os) | bk (δ : List (Option Da)) (S : Os) | ct (δ : List (Option Da)) (S : Os)
def OutQ (F H F' H' : Hp) (D : Ends) : Out → Prop
  | .nx δ S' => GrS T S F H S' F' H' → ∀ σ, EnvR F' σ δ → D.nx σ H'
  | .ret d => GrS T S F H [] F' H' → ∀ v, Dr F' v d → D.rt v H'
  | .retO p S' => GrS T S F H S' F' H' → D.rt (.ref p) H'
  | .retS d S' => GrS T S F H S' F' H' → ∀ v, Dr F' v d → D.rt v H'
  | .bk δ S' => GrS T S F H S' F' H' → ∀ σ, EnvR F' σ δ → D.bk σ H'
  | .ct δ S' => GrS T S F H S' F' H' → ∀ σ, EnvR F' σ δ → D.ct σ H'
def SD (ts : TS) (δ : List (Option Da)) (o : Out) : Prop := ∀ (F H : Hp) (σ : L2.St) (D : Ends), Sg T S F H → EnvR F σ δ → (∀ F' H', OutQ T S F H F' H' D o) → ts D σ H
/-- what is walked -/
def WD (J : It) (F : Hp) (items : List Da) : Prop := ∀ S F' H', Sg T S F' H' → Same F F' → (∀ i, i < items.length → J.go i H') ∧ J.stop items.length H' ∧
  ∀ i x H'', i < items.length → J.yld i H' x H'' → ∃ F'' d, items[i]? = some d ∧ Gr T S F' H' F'' H'' ∧ Dr F'' x d
def ItD (wi : TI) (δ : List (Option Da)) (items : List Da) : Prop := ∀ (F H : Hp) (σ : L2.St) (R : It → Hp → Prop), Sg T S F H → EnvR F σ δ → (∀ J F1 H1, Gr T S F H F1 H1 → WD T J F1 items → R J H1) → wi σ H R
inductive ForD (g : TG) (tb : TS) : Os → List Da → List (Option Da) → Out → Prop
  | nil {S : Os} {δ : List (Option Da)} : ForD g tb S [] δ (.nx δ S)
  | next {S S2 : Os} {x : Da} {xs : List Da} {δ δ1 δ2 : List (Option Da)} {sl : List Nat} {o : Out} : GD T S g x δ δ1 sl → SD T S tb δ1 (.nx δ2 S2) → ForD g tb S2 xs δ2 o → ForD g tb S (x :: xs) δ o
  | cont {S S2 : Os} {x : Da} {xs : List Da} {δ δ1 δ2 : List (Option Da)} {sl : List Nat} {o : Out} : GD T S g x δ δ1 sl → SD T S tb δ1 (.ct δ2 S2) → ForD g tb S2 xs δ2 o → ForD g tb S (x :: xs) δ o
  | ret {S : Os} {x : Da} {xs : List Da} {δ δ1 : List (Option Da)} {sl : List Nat} {d : Da} : GD T S g x δ δ1 sl → SD T S tb δ1 (.ret d) → ForD g tb S (x :: xs) δ (.ret d)
inductive WhileD (tc : TT) (tb : TS) : Nat → Os → List (Option Da) → Out → Prop
  | done {S : Os} {δ : List (Option Da)} : EvT T S tc δ false → WhileD tc tb 0 S δ (.nx δ S)
  | next {n : Nat} {S S2 : Os} {δ δ2 : List (Option Da)} {o : Out} : EvT T S tc δ true → SD T S tb δ (.nx δ2 S2) → WhileD tc tb n S2 δ2 o → WhileD tc tb (n + 1) S δ o
  | ret {S : Os} {δ : List (Option Da)} {d : Da} : EvT T S tc δ true → SD T S tb δ (.ret d) → WhileD tc tb 0 S δ (.ret d)
inductive LcD (g : TG) (tt : TT) (te : TE) (vs : List Nat) (δ : List (Option Da)) : List Da → List Da → Prop
  | nil : LcD g tt te vs δ [] []
  | keep {x y : Da} {xs ys : List Da} {δ2 : List (Option Da)} {sl : List Nat} : GD T S g x (wipeD δ vs) δ2 sl → (∀ j ∈ sl, j ∈ vs) → EvT T S tt δ2 true → EvD T S te δ2 y → LcD g tt te vs δ xs ys → LcD g tt te vs δ (x :: xs) (y :: ys)
  | drop {x : Da} {xs ys : List Da} {δ2 : List (Option Da)} {sl : List Nat} : GD T S g x (wipeD δ vs) δ2 sl → (∀ j ∈ sl, j ∈ vs) → EvT T S tt δ2 false → LcD g tt te vs δ xs ys → LcD g tt te vs δ (x :: xs) ys
end
section
variable {T : Tb} {S S1 : Os} {K : PySem.W.Frag} {δ δ1 δ2 : List (Option Da)} {te ta tb' : TE} {tt : TT} {d x y z : Da} {o : Out} {ts tu tw : TS} {g : TG}
theorem gd_name {i : Nat} : GD T S (gName i) x δ (δ.set i (some x)) [i] := fun F H σ v Q s e r q =>
  q F H _ (Gr.refl s) (e.set r i) (List.length_set ..) fun j hj => by
    rw [List.getElem?_set_ne]
    intro z
    exact hj (by rw [z]; exact List.mem_singleton.mpr rfl)
theorem gds_nil : GDs T S gNil [] δ δ [] := fun F H σ vs Q s e r q => by
  cases r
  exact ⟨rfl, q F H σ (Gr.refl s) e rfl fun _ _ => rfl⟩
theorem gds_cons {gs : TGs} {xs : List Da} {sl sl2 : List Nat} (h : GD T S g x δ δ1 sl) (hs : GDs T S gs xs δ1 δ2 sl2) : GDs T S (gCons g gs) (x :: xs) δ δ2 (sl ++ sl2) := fun F H σ vs Q s e r q => by
  cases r with
  | cons a r =>
    refine ⟨_, _, rfl, h F H σ _ _ s e a fun F1 H1 σ1 g1 e1 l1 k1 => hs F1 H1 σ1 _ _ g1.sg e1 (r.mono g1.ff) fun F2 H2 σ2 g2 e2 l2 k2 => ?_⟩
    refine q F2 H2 σ2 (g1.trans g2) e2 (l2.trans l1) fun j hj => ?_
    rw [List.mem_append, not_or] at hj
    exact (k2 j hj.2).trans (k1 j hj.1)
theorem gd_tup {gs : TGs} {xs : List Da} {n : Nat} {sl : List Nat} (hs : GDs T S gs xs δ δ2 sl) (hn : xs.length = n := by rfl) : GD T S (gTup K n gs) (.tup xs) δ δ2 sl := fun F H σ v Q s e r q => by
  cases r with
  | tup h1 h2 => exact ⟨_, _, rfl, SqT.of (s.ex _ _ h1), by rw [h2.length, hn], hs F H σ _ Q s e h2 q⟩
theorem gd_is {x' : Da} {δ' : List (Option Da)} {sl : List Nat} (h : GD T S g x δ δ' sl) (e : x = x') : GD T S g x' δ δ' sl := e ▸ h
/-! statements -/
theorem OutQ.step {S1 : Os} {F H F1 H1 F2 H2 : Hp} {D : Ends} (g : GrS T S F H S1 F1 H1) (q : OutQ T S F H F2 H2 D o) : OutQ T S1 F1 H1 F2 H2 D o := by
  cases o with
  | nx δ S' => exact fun k => q (g.trans k)
  | ret d => exact fun k => q (g.trans k)
  | retO p S' => exact fun k => q (g.trans k)
  | retS d S' => exact fun k => q (g.trans k)
  | bk δ S' => exact fun k => q (g.trans k)
  | ct δ S' => exact fun k => q (g.trans k)
theorem sd_next : SD T S tNext δ (.nx δ S) := fun F H σ D s e q => q F H (GrS.refl s) σ e
theorem sd_cont : SD T S tCont δ (.ct δ S) := fun F H σ D s e q => q F H (GrS.refl s) σ e
theorem sd_seq (h : SD T S ts δ (.nx δ1 S1)) (k : SD T S1 tu δ1 o) : SD T S (tSeq ts tu) δ o := fun F H σ D s e q =>
  h F H σ { D with nx := tu D } s e fun F1 H1 g1 σ1 e1 => k F1 H1 σ1 D g1.sg e1 fun F2 H2 => OutQ.step g1 (q F2 H2)
theorem sd_seqR (h : SD T S ts δ (.ret d)) : SD T S (tSeq ts tu) δ (.ret d) := fun F H σ D s e q => h F H σ { D with nx := tu D } s e q
theorem sd_seqS {S' : Os} (h : SD T S ts δ (.retS d S')) : SD T S (tSeq ts tu) δ (.retS d S') := fun F H σ D s e q => h F H σ { D with nx := tu D } s e q
theorem sd_seqC (h : SD T S ts δ (.ct δ1 S1)) : SD T S (tSeq ts tu) δ (.ct δ1 S1) := fun F H σ D s e q => h F H σ { D with nx := tu D } s e q
/-- what is one's own told in other words -/
theorem sd_own {S2 : Os} (h : SD T S ts δ (.nx δ1 S1)) (k : ∀ p c, S2.lookup p = some c → S1.lookup p = some c) : SD T S ts δ (.nx δ1 S2) := fun F H σ D s e q =>
  h F H σ D s e fun F1 H1 g1 σ1 e1 => q F1 H1 (g1.weak k) σ1 e1
theorem sd_pre {S0 : Os} (h : SD T S ts δ o) (k : ∀ p c, S.lookup p = some c → S0.lookup p = some c) : SD T S0 ts δ o := fun F H σ D s e q =>
  h F H σ D (s.weak k) e fun F1 H1 => OutQ.step ((GrS.refl s).weak k) (q F1 H1)
theorem sd_asgG {sl : List Nat} (h : EvD T S te δ x) (hg : GD T S g x δ δ2 sl) : SD T S (tAsg te g) δ (.nx δ2 S) := fun F H σ D s e q =>
  h F H σ _ s e fun v F1 H1 g1 r1 => hg F1 H1 σ v _ g1.sg (e.mono g1.ff) r1 fun F2 H2 σ2 g2 e2 _ _ => q F2 H2 (g1.trans g2).s σ2 e2
theorem sd_asg {i : Nat} (h : EvD T S te δ x) : SD T S (tAsg te (gName i)) δ (.nx (δ.set i (some x)) S) := sd_asgG h gd_name
theorem sd_par {i j : Nat} {ts : TA} (h : EvA T S ts δ [x, y]) : SD T S (tPar i j ts) δ (.nx ((δ.set i (some x)).set j (some y)) S) := fun F H σ D s e q =>
  h F H σ _ s e fun vs F1 H1 g1 r1 => by
    cases r1 with
    | cons a r =>
      cases r with
      | cons b r =>
        cases r
        exact ⟨_, _, rfl, q F1 H1 g1.s _ (((e.mono g1.ff).set a i).set b j)⟩
theorem sd_ret (h : EvD T S te δ d) : SD T S (tRet te) δ (.ret d) := fun F H σ D s e q => h F H σ _ s e fun v F1 H1 g1 r1 => q F1 H1 g1.s.drop v r1
theorem sd_retS (h : EvD T S te δ d) : SD T S (tRet te) δ (.retS d S) := fun F H σ D s e q => h F H σ _ s e fun v F1 H1 g1 r1 => q F1 H1 g1.s v r1
theorem sd_retN : SD T S tRetN δ (.ret .non) := fun F H σ D s e q => q F H (GrS.refl s).drop _ .non
theorem sd_drop (h : EvD T S te δ d) : SD T S (tDrop te) δ (.nx δ S) := fun F H σ D s e q => h F H σ _ s e fun v F1 H1 g1 r1 => q F1 H1 g1.s σ (e.mono g1.ff)
theorem sd_ifT (h : EvT T S tt δ true) (k : SD T S ts δ o) : SD T S (tIfS tt ts tu) δ o := fun F H σ D s e q =>
  h F H σ _ s e fun F1 H1 g1 => iteT (k F1 H1 σ D g1.sg (e.mono g1.ff) fun F2 H2 => OutQ.step g1.s (q F2 H2))
theorem sd_ifF (h : EvT T S tt δ false) (k : SD T S tu δ o) : SD T S (tIfS tt ts tu) δ o := fun F H σ D s e q =>
  h F H σ _ s e fun F1 H1 g1 => iteF (k F1 H1 σ D g1.sg (e.mono g1.ff) fun F2 H2 => OutQ.step g1.s (q F2 H2))
theorem sd_if {b : Bool} (h : EvT T S tt δ b) (k1 : b = true → SD T S ts δ o) (k2 : b = false → SD T S tu δ o) : SD T S (tIfS tt ts tu) δ o := by
  cases b with
  | true => exact sd_ifT h (k1 rfl)
  | false => exact sd_ifF h (k2 rfl)
theorem sd_is {o' : Out} (h : SD T S ts δ o) (e : o = o') : SD T S ts δ o' := e ▸ h
/-! loops -/
theorem sd_for {wi : TI} {items : List Da} (hi : ItD T S wi δ items) (h : ForD T g ts S items δ o) : SD T S (tFor wi g ts) δ o := fun F H σ D s e q => by
  refine hi F H σ _ s e fun J F1 H1 g1 w => ?_
  refine ⟨fun i m σ' H' => m = items.length - i ∧ i ≤ items.length ∧ ∃ S' F' δ', GrS T S F1 H1 S' F' H' ∧ EnvR F' σ' δ' ∧ ForD T g ts S' (items.drop i) δ' o,
    ⟨_, rfl, Nat.zero_le _, S, F1, δ, GrS.refl g1.sg, e.mono g1.ff, by rw [List.drop_zero]; exact h⟩, ?_⟩
  rintro i m σ' H' ⟨rfl, hle, S', F', δ', g', e', f⟩
  obtain ⟨w1, w2, w3⟩ := w S' F' H' g'.sg g'.ff
  by_cases hlt : i < items.length
  · have hd : items.drop i = items[i] :: items.drop (i + 1) := List.drop_eq_getElem_cons hlt
    rw [hd] at f
    refine .inr ⟨w1 i hlt, fun σ2 H2 => i + 1 ≤ items.length ∧ ∃ S2 F2 δ2, GrS T S F1 H1 S2 F2 H2 ∧ EnvR F2 σ2 δ2 ∧ ForD T g ts S2 (items.drop (i + 1)) δ2 o, fun σ2 H2 z => ⟨_, by omega, rfl, z⟩, fun x H'' hy => ?_⟩
    obtain ⟨F'', d, hd2, g2, r2⟩ := w3 i x H'' hlt hy
    have ed : d = items[i] := by
      rw [List.getElem?_eq_getElem hlt] at hd2
      exact (Option.some.inj hd2).symm
    subst ed
    cases f with
    | next hg hb hf => exact hg F'' H'' σ' x _ g2.sg (e'.mono g2.ff) r2 fun F3 H3 σ3 g3 e3 _ _ => hb F3 H3 σ3 _ g3.sg e3 fun F4 H4 g4 σ4 e4 => ⟨hlt, _, F4, _, (g'.trans (g2.trans g3).s).trans g4, e4, hf⟩
    | cont hg hb hf => exact hg F'' H'' σ' x _ g2.sg (e'.mono g2.ff) r2 fun F3 H3 σ3 g3 e3 _ _ => hb F3 H3 σ3 _ g3.sg e3 fun F4 H4 g4 σ4 e4 => ⟨hlt, _, F4, _, (g'.trans (g2.trans g3).s).trans g4, e4, hf⟩
    | ret hg hb => exact hg F'' H'' σ' x _ g2.sg (e'.mono g2.ff) r2 fun F3 H3 σ3 g3 e3 _ _ => hb F3 H3 σ3 _ g3.sg e3 fun F4 H4 g4 v r4 => q F4 H4 (((g1.s.trans g').trans (g2.trans g3).s).trans g4) v r4
  · have ei : i = items.length := by omega
    subst ei
    rw [List.drop_length] at f
    cases f
    exact .inl ⟨w2, q F' H' (g1.s.trans g') σ' e'⟩
theorem sd_while {n : Nat} (h : WhileD T tt ts n S δ o) : SD T S (tWhile tt ts) δ o := fun F H σ D s e q => by
  refine ⟨fun m σ' H' => ∃ S' F' δ', GrS T S F H S' F' H' ∧ EnvR F' σ' δ' ∧ WhileD T tt ts m S' δ' o, ⟨n, S, F, δ, GrS.refl s, e, h⟩, ?_⟩
  rintro m σ' H' ⟨S', F', δ', g', e', f⟩
  cases f with
  | done ht => exact ht F' H' σ' _ g'.sg e' fun F1 H1 g1 => iteF (q F1 H1 (g'.trans g1.s) σ' (e'.mono g1.ff))
  | next ht hb hw => exact ht F' H' σ' _ g'.sg e' fun F1 H1 g1 => iteT ⟨fun σ2 H2 => ∃ S2 F2 δ2, GrS T S F H S2 F2 H2 ∧ EnvR F2 σ2 δ2 ∧ WhileD T tt ts _ S2 δ2 o, fun σ2 H2 z => ⟨_, Nat.lt_succ_self _, z⟩,
      hb F1 H1 σ' _ g1.sg (e'.mono g1.ff) fun F2 H2 g2 σ2 e2 => ⟨_, F2, _, (g'.trans g1.s).trans g2, e2, hw⟩⟩
  | ret ht hb => exact ht F' H' σ' _ g'.sg e' fun F1 H1 g1 => iteT ⟨fun _ _ => False, fun _ _ z => z.elim, hb F1 H1 σ' _ g1.sg (e'.mono g1.ff) fun F2 H2 g2 v r => q F2 H2 ((g'.trans g1.s).trans g2) v r⟩
/-! what is walked -/
theorem wd_of {J : It} {F : Hp} {items : List Da} {G : Hp → Prop} {Y : Nat → Hp → V → Hp → Prop} (w : Walk J items.length G Y) (hG : ∀ S F' H', Sg T S F' H' → Same F F' → G H')
    (hY : ∀ S F' H' i x H'', Sg T S F' H' → Same F F' → i < items.length → Y i H' x H'' → ∃ F'' d, items[i]? = some d ∧ Gr T S F' H' F'' H'' ∧ Dr F'' x d) : WD T J F items := fun S F' H' s m =>
  ⟨fun i hi => w.goes i H' hi (hG S F' H' s m), w.stops H' (hG S F' H' s m), fun i x H'' hi y => hY S F' H' i x H'' s m hi (w.yields i H' x H'' hi (hG S F' H' s m) y)⟩
theorem it_list {l : List Da} (h : EvD T S te δ (.lst l)) : ItD T S (iList K te) δ l := fun F H σ R s e q =>
  h F H σ _ s e fun v F1 H1 g1 r1 => by
    cases r1 with
    | lst h1 h2 =>
      rename_i a xs
      refine ⟨a, rfl, ⟨xs, SqL.of (g1.sg.ex _ _ h1)⟩, q _ F1 H1 g1 (wd_of (G := fun H' => SqL K H' a xs) (Y := YAt xs) (h2.length ▸ walk_list) (fun _ F' H' s' m => SqL.of (s'.ex _ _ (m _ _ h1))) fun _ F' H' i x H'' s' m hi y => ?_)⟩
      obtain ⟨rfl, hx⟩ := y
      obtain ⟨d, e1, e2⟩ := h2.getV hx
      exact ⟨F', d, e1, Gr.refl s', e2.mono m⟩
theorem it_tup {l : List Da} (h : EvD T S te δ (.tup l)) : ItD T S (iTup K te) δ l := fun F H σ R s e q =>
  h F H σ _ s e fun v F1 H1 g1 r1 => by
    cases r1 with
    | tup h1 h2 =>
      rename_i a xs
      refine ⟨a, rfl, ⟨xs, SqT.of (g1.sg.ex _ _ h1)⟩, q _ F1 H1 g1 (wd_of (G := fun H' => SqT K H' a xs) (Y := YAt xs) (h2.length ▸ walk_tup) (fun _ F' H' s' m => SqT.of (s'.ex _ _ (m _ _ h1))) fun _ F' H' i x H'' s' m hi y => ?_)⟩
      obtain ⟨rfl, hx⟩ := y
      obtain ⟨d, e1, e2⟩ := h2.getV hx
      exact ⟨F', d, e1, Gr.refl s', e2.mono m⟩
def rngD (lo : Int) (n : Nat) : List Da := (List.range n).map fun i => .int (lo + (i : Nat))
theorem rngD_length (lo : Int) (n : Nat) : (rngD lo n).length = n := by unfold rngD; rw [List.length_map, List.length_range]
theorem rngD_get (lo : Int) (n i : Nat) (h : i < n) : (rngD lo n)[i]? = some (.int (lo + (i : Nat))) := by
  unfold rngD
  rw [List.getElem?_map, List.getElem?_range h]
  rfl
theorem wd_rng {F : Hp} (lo : Int) (n : Nat) : WD T (Itr lo n) F (rngD lo n) :=
  wd_of (G := fun _ => True) (Y := YFn fun i => .int (lo + i)) (by rw [rngD_length]; exact walk_range) (fun _ _ _ _ _ => trivial) fun _ F' H' i x H'' s' m hi y => by
    obtain ⟨rfl, rfl⟩ := y
    rw [rngD_length] at hi
    exact ⟨F', _, rngD_get lo n i hi, Gr.refl s', .int _⟩
theorem it_rng1 {ta : TA} {j : Int} (h : EvA T S ta δ [.int j]) (hj : -(2 ^ 62) ≤ j ∧ j < 2 ^ 62) : ItD T S (iRng1 ta) δ (rngD 0 j.toNat) := fun F H σ R s e q =>
  h F H σ _ s e fun vs F1 H1 g1 r1 => by
    cases r1 with
    | cons a r => cases a; cases r; exact ⟨j, rfl, hj.1, hj.2, q _ F1 H1 g1 (wd_rng 0 _)⟩
theorem it_rng2 {ta : TA} {i j : Int} (h : EvA T S ta δ [.int i, .int j]) (hj : -(2 ^ 62) ≤ i ∧ i < 2 ^ 62 ∧ -(2 ^ 62) ≤ j ∧ j < 2 ^ 62) : ItD T S (iRng2 ta) δ (rngD i (j - i).toNat) := fun F H σ R s e q =>
  h F H σ _ s e fun vs F1 H1 g1 r1 => by
    cases r1 with
    | cons a r =>
      cases r with
      | cons b r => cases a; cases b; cases r; exact ⟨i, j, rfl, hj, q _ F1 H1 g1 (wd_rng i _)⟩
def pairD (xs ys : List Da) : List Da := (xs.zip ys).map fun p => .tup [p.1, p.2]
theorem wd_pair {J : It} {F : Hp} {xs ys : List Da} {G : Hp → Prop} {fx fy : Nat → Option V} (hl : xs.length = ys.length) (w : Walk J xs.length G (YPair fx fy)) (hG : ∀ S F' H', Sg T S F' H' → Same F F' → G H')
    (h1 : ∀ i v, fx i = some v → i < xs.length → ∃ d, xs[i]? = some d ∧ Dr F v d) (h2 : ∀ i v, fy i = some v → i < xs.length → ∃ d, ys[i]? = some d ∧ Dr F v d) : WD T J F (pairD xs ys) := by
  have el : (pairD xs ys).length = xs.length := by unfold pairD; rw [List.length_map, List.length_zip, ← hl, Nat.min_self]
  refine wd_of (G := G) (Y := YPair fx fy) (by rw [el]; exact w) hG fun _ F' H' i x H'' s' m hi y => ?_
  obtain ⟨Tp, u, v, rfl, hT, rfl, e1, e2⟩ := y
  rw [el] at hi
  obtain ⟨d1, a1, b1⟩ := h1 i u e1 hi
  obtain ⟨d2, a2, b2⟩ := h2 i v e2 hi
  refine ⟨_, .tup [d1, d2], ?_, Gr.newT s' hT, Dr.newT (s'.ex.free hT) (.cons (b1.mono m) (.cons (b2.mono m) .nil))⟩
  unfold pairD
  have z : (xs.zip ys)[i]? = some (d1, d2) := List.getElem?_zip_eq_some.mpr ⟨a1, a2⟩
  rw [List.getElem?_map, z]
  rfl
theorem it_enum {ta : TA} {l : List Da} (h : EvA T S ta δ [.lst l]) : ItD T S (iEnum K ta) δ (pairD (rngD 0 l.length) l) := fun F H σ R s e q =>
  h F H σ _ s e fun vs F1 H1 g1 r1 => by
    cases r1 with
    | cons a r =>
      cases a with
      | lst k1 k2 =>
        rename_i ad xs
        cases r
        refine ⟨ad, xs, rfl, SqL.of (g1.sg.ex _ _ k1), q _ F1 H1 g1 (wd_pair (G := fun H' => SqL K H' ad xs) (by rw [rngD_length]) (by rw [rngD_length, ← k2.length]; exact walk_enum) (fun _ F' H' s' m => SqL.of (s'.ex _ _ (m _ _ k1))) (fun i v hv hi => ?_) fun i v hv hi => ?_)⟩
        · cases hv
          rw [rngD_length] at hi
          refine ⟨_, rngD_get 0 _ i hi, ?_⟩
          rw [Int.zero_add]
          exact .int _
        · exact k2.getV hv
theorem it_zip {ta : TA} {l m : List Da} (h : EvA T S ta δ [.lst l, .lst m]) : ItD T S (iZip K ta) δ (pairD (l.take m.length) (m.take l.length)) := fun F H σ R s e q =>
  h F H σ _ s e fun vs F1 H1 g1 r1 => by
    cases r1 with
    | cons a r =>
      cases r with
      | cons b r =>
        cases a with
        | lst k1 k2 =>
          cases b with
          | lst j1 j2 =>
            rename_i ad xs bd ys
            cases r
            refine ⟨ad, bd, xs, ys, rfl, SqL.of (g1.sg.ex _ _ k1), SqL.of (g1.sg.ex _ _ j1), q _ F1 H1 g1 (wd_pair (G := fun H' => SqL K H' ad xs ∧ SqL K H' bd ys) (fx := fun i => xs[i]?) (fy := fun i => ys[i]?)
              (by rw [List.length_take, List.length_take, Nat.min_comm]) (by rw [List.length_take]; exact walk_zip (by rw [k2.length, j2.length, Nat.min_comm])) (fun _ F' H' s' m => ⟨SqL.of (s'.ex _ _ (m _ _ k1)), SqL.of (s'.ex _ _ (m _ _ j1))⟩) (fun i v hv hi => ?_) fun i v hv hi => ?_)⟩
            · obtain ⟨d, e1, e2⟩ := k2.getV hv
              rw [List.length_take] at hi
              exact ⟨d, by rw [List.getElem?_take_of_lt (by omega)]; exact e1, e2⟩
            · obtain ⟨d, e1, e2⟩ := j2.getV hv
              rw [List.length_take] at hi
              exact ⟨d, by rw [List.getElem?_take_of_lt (by omega)]; exact e1, e2⟩
/-! comprehensions -/
theorem wipe_ext {σ σ' : L2.St} (hl : σ'.length = σ.length) : ∀ {vs : List Nat}, (∀ j, j ∉ vs → σ'[j]? = σ[j]?) → L2.wipe σ' vs = L2.wipe σ vs := by
  intro vs
  have get : ∀ (τ : L2.St) (vs : List Nat) (j : Nat), (L2.wipe τ vs)[j]? = if j ∈ vs ∧ j < τ.length then some none else τ[j]? := by
    intro τ vs
    induction vs with
    | nil => intro j; simp [L2.wipe]
    | cons a vs ih =>
      intro j
      show ((L2.wipe τ vs).set a none)[j]? = _
      rw [List.getElem?_set, L2.wipe_length, ih]
      by_cases ha : a = j
      · subst ha
        by_cases hl : a < τ.length
        · simp [hl]
        · simp [hl, List.getElem?_eq_none (Nat.le_of_not_lt hl)]
      · have : (j ∈ a :: vs) ↔ j ∈ vs := by simp [List.mem_cons, Ne.symm ha]
        simp only [ha, if_false, this]
  intro h
  apply List.ext_getElem?
  intro j
  rw [get, get, hl]
  by_cases hj : j ∈ vs
  · by_cases hlt : j < σ.length
    · rw [if_pos ⟨hj, hlt⟩, if_pos ⟨hj, hlt⟩]
    · rw [if_neg (fun z => hlt z.2), if_neg (fun z => hlt z.2), List.getElem?_eq_none (by omega), List.getElem?_eq_none (by omega)]
  · rw [if_neg (fun z => hj z.1), if_neg (fun z => hj z.1), h j hj]
theorem wipe_wipe (σ : L2.St) (vs : List Nat) : L2.wipe (L2.wipe σ vs) vs = L2.wipe σ vs := by
  refine wipe_ext (L2.wipe_length σ vs) fun j hj => ?_
  have get : ∀ (vs : List Nat), j ∉ vs → (L2.wipe σ vs)[j]? = σ[j]? := by
    intro vs
    induction vs with
    | nil => intro _; rfl
    | cons a vs ih =>
      intro h
      rw [List.mem_cons, not_or] at h
      show ((L2.wipe σ vs).set a none)[j]? = _
      rw [List.getElem?_set_ne (Ne.symm h.1)]
      exact ih h.2
  exact get vs hj
/-- p is ours: younger than the entry, not fixed -/
structure Own (H0 F H : Hp) (p : Addr) (o : HO) : Prop where
  young : H0 p = none
  free : F p = none
  at_ : H p = some o
  nt : ∀ ps, o ≠ .tbl ps
  ne : ∀ φ, o ≠ .ext φ
theorem Own.gr {H0 F H F1 H1 : Hp} {p : Addr} {o : HO} (w : Own H0 F H p o) (g : Gr T S F H F1 H1) : Own H0 F1 H1 p o := ⟨w.young, g.ow p o w.at_ w.nt w.free, g.hh p o w.at_ w.nt, w.nt, w.ne⟩
theorem Gr.wr {F0 H0 F H : Hp} {p : Addr} {o o' : HO} (g : Gr T S F0 H0 F H) (w : Own H0 F H p o) (hS : S.lookup p = none) : Gr T S F0 H0 F (upd H p o') :=
  ⟨fun b u e t => by rw [upd_ne (ne_of_none e w.young)]; exact g.hh b u e t, g.ff, ⟨fun b u e => by rw [upd_ne (ne_of_none e w.free)]; exact g.sg.ex b u e, tabs_upd g.sg.tab w.at_ w.nt w.ne, g.sg.nt, fun q c e => by
    obtain ⟨o1, h1, h2⟩ := g.sg.own q c e
    exact ⟨o1, by rw [upd_ne (fun z => by rw [z, hS] at e; cases e)]; exact h1, h2⟩⟩, g.ow⟩
theorem Gr.pub {F0 H0 F H : Hp} {p : Addr} {o : HO} (g : Gr T S F0 H0 F H) (w : Own H0 F H p o) (hS : S.lookup p = none) : Gr T S F0 H0 (upd F p o) H := by
  have q : Gr T [] F0 H0 (upd F p o) H := ⟨g.hh, g.ff.trans (same_pub w.free), ⟨fun b u e => by
    by_cases hb : b = p
    · subst hb; rw [upd_same] at e; cases e; exact w.at_
    · rw [upd_ne hb] at e; exact g.sg.ex b u e, g.sg.tab, fun a ps e => by
    by_cases hb : a = p
    · subst hb; rw [upd_same] at e; exact w.nt ps (Option.some.inj e)
    · rw [upd_ne hb] at e; exact g.sg.nt a ps e, fun p c e => by cases e⟩, fun a u e t n => by
    have hb : a ≠ p := fun z => by rw [z, w.young] at e; cases e
    rw [upd_ne hb]; exact g.ow a u e t n⟩
  refine ⟨q.hh, q.ff, ⟨q.sg.ex, q.sg.tab, q.sg.nt, fun r c e => ?_⟩, q.ow⟩
  obtain ⟨o1, h1, h2, h3⟩ := g.sg.own r c e
  by_cases hr : r = p
  · rw [hr, hS] at e; cases e
  · exact ⟨o1, h1, by rw [upd_ne hr]; exact h2, h3.mono (same_pub w.free)⟩
theorem ev_lc {wi : TI} {items out : List Da} {vs : List Nat} (hi : ItD T S wi δ items) (h : LcD T S g tt te vs δ items out) (hz : items.length ≤ 100000 := by first | exact Nat.le_of_ble_eq_true rfl | assumption) : EvD T S (tLc wi g tt te vs) δ (.lst out) := fun F H σ Q s e q => by
  refine hi F H σ _ s e fun J F1 H1 g1 w Dl hD => ?_
  have nS : S.lookup Dl = none := by
    cases e : S.lookup Dl with
    | none => rfl
    | some c => obtain ⟨o, h1, _⟩ := g1.sg.own Dl c e; rw [hD] at h1; cases h1
  have st : Gr T S F1 H1 F1 (upd H1 Dl (.lst [])) ∧ Own H1 F1 (upd H1 Dl (.lst [])) Dl (.lst []) := by
    refine ⟨⟨fun b u e _ => by rw [upd_ne (ne_of_none e hD)]; exact e, Same.refl F1, ⟨fun b u e => by rw [upd_ne (ne_of_none (g1.sg.ex b u e) hD)]; exact g1.sg.ex b u e, tabs_free g1.sg.tab hD, g1.sg.nt, fun r c e => ?_⟩, fun _ _ _ _ n => n⟩, ⟨hD, g1.sg.ex.free hD, upd_same, nofun, nofun⟩⟩
    · obtain ⟨o1, h1, h2⟩ := g1.sg.own r c e
      exact ⟨o1, by rw [upd_ne (ne_of_none h1 hD)]; exact h1, h2⟩
  refine ⟨fun i m H' => m = items.length - i ∧ i ≤ items.length ∧ ∃ F' acc done rest, Gr T S F1 H1 F' H' ∧ Own H1 F' H' Dl (.lst acc) ∧ DrL F' acc done ∧ done ++ rest = out ∧ acc.length ≤ i ∧ LcD T S g tt te vs δ (items.drop i) rest,
    ⟨_, rfl, Nat.zero_le _, F1, [], [], out, st.1, st.2, .nil, rfl, Nat.zero_le _, by rw [List.drop_zero]; exact h⟩, ?_⟩
  rintro i m H' ⟨rfl, hle, F', acc, done, rest, g', ow, hr, hout, hacc, f⟩
  obtain ⟨w1, w2, w3⟩ := w S F' H' g'.sg g'.ff
  by_cases hlt : i < items.length
  · have hd : items.drop i = items[i] :: items.drop (i + 1) := List.drop_eq_getElem_cons hlt
    rw [hd] at f
    refine .inr ⟨w1 i hlt, fun H2 => i + 1 ≤ items.length ∧ ∃ F' acc done rest, Gr T S F1 H1 F' H2 ∧ Own H1 F' H2 Dl (.lst acc) ∧ DrL F' acc done ∧ done ++ rest = out ∧ acc.length ≤ i + 1 ∧ LcD T S g tt te vs δ (items.drop (i + 1)) rest, fun H2 z => ⟨_, by omega, rfl, z⟩, fun x H'' hy => ?_⟩
    obtain ⟨F'', d, hd2, g2, r2⟩ := w3 i x H'' hlt hy
    have ed : d = items[i] := by
      rw [List.getElem?_eq_getElem hlt] at hd2
      exact (Option.some.inj hd2).symm
    subst ed
    have e2 : EnvR F'' (L2.wipe σ vs) (wipeD δ vs) := (((e.mono g1.ff).mono g'.ff).mono g2.ff).wipe vs
    have wq : ∀ {σ3 : L2.St} {sl : List Nat}, σ3.length = (L2.wipe σ vs).length → (∀ j ∈ sl, j ∈ vs) → (∀ j, j ∉ sl → σ3[j]? = (L2.wipe σ vs)[j]?) → L2.wipe σ3 vs = L2.wipe σ vs := fun hl hs hj =>
      (wipe_ext hl fun j hv => hj j fun z => hv (hs j z)).trans (wipe_wipe σ vs)
    cases f with
    | keep hg hs ht he hf =>
      refine hg F'' H'' _ x _ g2.sg e2 r2 fun F3 H3 σ3 g3 e3 l3 k3 => ⟨wq l3 hs k3, ?_⟩
      refine ht F3 H3 σ3 _ g3.sg e3 fun F4 H4 g4 => iteT ?_
      refine he F4 H4 σ3 _ g4.sg (e3.mono g4.ff) fun y F5 H5 g5 r5 => ?_
      have gg := ((g'.trans g2).trans g3).trans (g4.trans g5)
      have ow5 := ((ow.gr g2).gr g3).gr (g4.trans g5)
      refine ⟨acc, ow5.at_, Nat.lt_of_le_of_lt hacc (Nat.lt_of_lt_of_le hlt (Nat.le_trans hz (by rw [sizeLine_eq]; omega))), hlt, F5, acc ++ [y], done ++ [_], _, gg.wr ow5 nS, ⟨ow5.young, ow5.free, upd_same, nofun, nofun⟩, (hr.mono (((g2.ff.trans g3.ff).trans g4.ff).trans g5.ff)).append (.cons r5 .nil), by rw [List.append_assoc]; exact hout, by rw [List.length_append, List.length_singleton]; omega, hf⟩
    | drop hg hs ht hf =>
      refine hg F'' H'' _ x _ g2.sg e2 r2 fun F3 H3 σ3 g3 e3 l3 k3 => ⟨wq l3 hs k3, ?_⟩
      refine ht F3 H3 σ3 _ g3.sg e3 fun F4 H4 g4 => iteF ?_
      exact ⟨hlt, F4, acc, done, rest, ((g'.trans g2).trans g3).trans g4, ((ow.gr g2).gr g3).gr g4, hr.mono ((g2.ff.trans g3.ff).trans g4.ff), hout, by omega, hf⟩
  · have ei : i = items.length := by omega
    subst ei
    rw [List.drop_length] at f
    cases f
    rw [List.append_nil] at hout
    subst hout
    refine .inl ⟨w2, q (.ref Dl) (upd F' Dl (.lst acc)) H' (g1.trans (g'.pub ow nS)) (Dr.newL ow.free hr)⟩
theorem et_yes : EvT T S tYes δ true := fun F H σ Q s e q => q F H (Gr.refl s)
end
end O26
set_option Elab.async false
set_option linter.all false
set_option maxRecDepth 100000
set_option maxHeartbeats 4000000
namespace O26
open PySem PySem.Spec PyProof.Rows L2
/-! sizes -/
class Bd (n : outParam Nat) (i : Int) : Prop where
  out : i.natAbs < 2 ^ n
theorem Bd.up {n m : Nat} {i : Int} (h : Bd n i) (k : n ≤ m) : Bd m i := ⟨Nat.lt_of_lt_of_le h.out (Nat.pow_le_pow_right (by decide) k)⟩
theorem two_pow_pos (n : Nat) : 1 ≤ 2 ^ n := Nat.one_le_two_pow
theorem pow_add_le (a b : Nat) : 2 ^ a + 2 ^ b ≤ 2 ^ (a + b + 1) := by
  have h1 : 2 ^ a ≤ 2 ^ (a + b) := Nat.pow_le_pow_right (by decide) (by omega)
  have h2 : 2 ^ b ≤ 2 ^ (a + b) := Nat.pow_le_pow_right (by decide) (by omega)
  rw [Nat.pow_succ]
  omega
instance bdMul {a b : Nat} {i j : Int} [x : Bd a i] [y : Bd b j] : Bd (a + b) (i * j) := ⟨wide_lt x.out y.out⟩
instance bdAdd {a b : Nat} {i j : Int} [x : Bd a i] [y : Bd b j] : Bd (a + b + 1) (i + j) := ⟨by
  have := x.out
  have := y.out
  have := pow_add_le a b
  omega⟩
instance bdSub {a b : Nat} {i j : Int} [x : Bd a i] [y : Bd b j] : Bd (a + b + 1) (i - j) := ⟨by
  have := x.out
  have := y.out
  have := pow_add_le a b
  omega⟩
instance bdNeg {a : Nat} {i : Int} [x : Bd a i] : Bd a (-i) := ⟨by rw [Int.natAbs_neg]; exact x.out⟩
instance bd0 : Bd 1 0 := ⟨by decide⟩
instance bd1 : Bd 1 1 := ⟨by decide⟩
instance bd2 : Bd 2 2 := ⟨by decide⟩
theorem Bd.of_le {n : Nat} {i : Int} (b : Int) (h1 : -b ≤ i) (h2 : i ≤ b) (h : b.natAbs < 2 ^ n := by decide +kernel) : Bd n i := ⟨by omega⟩
theorem bdOk {a b : Nat} {i j : Int} (x : Bd a i) (y : Bd b j) (h : Nat.ble (a + b) 990000 = true := by rfl) : CMulW i j := by
  have h2 := Nat.le_of_ble_eq_true h
  exact wide_mul (a := a + 1) (b := b + 1) (Nat.lt_of_lt_of_le x.out (Nat.pow_le_pow_right (by decide) (by omega))) (Nat.lt_of_lt_of_le y.out (Nat.pow_le_pow_right (by decide) (by omega))) (by omega) (by omega) (by omega)
section
variable {T : Tb} {S : Os} {K : PySem.W.Frag} {δ δ1 δ2 : List (Option Da)} {te ta tb : TE}
theorem ev_mulB {a b : Nat} {i j : Int} (ha : EvD T S ta δ (.int i)) (hb : EvD T S tb δ (.int j)) [x : Bd a i] [y : Bd b j] (h : Nat.ble (a + b) 990000 = true := by rfl) : EvD T S (tOp (rI CMulW fun i j => .int (i * j)) ta tb) δ (.int (i * j)) := ev_mul ha hb (bdOk x y h)
end
/-! defs -/
def top (i : Nat) : Stmt := PySem.Challenge.pw_outleap_k26_whole_orbits_that_end_at_bot.main.body.getD i (.Pass ⟨0, 0, 0, 0⟩)
abbrev FnP (K : PySem.W.Frag) (x q : Str) (st : Stmt) (f : Addr) (fd : FuncData) : Prop := FunD K x q (defArgs st) (defBody st) (defScope st) [] [] f fd
def SDf (T : Tb) (ts : TS) (δ : List (Option Da)) (d : Da) : Prop := SD T [] ts δ (.ret d) ∨ ∃ δ' S', SD T [] ts δ (.nx δ' S') ∧ d = .non
theorem SDf.ret {T : Tb} {ts : TS} {δ : List (Option Da)} {d : Da} (h : SD T [] ts δ (.ret d)) : SDf T ts δ d := .inl h
theorem SDf.retE {T : Tb} {ts : TS} {δ : List (Option Da)} {d d' : Da} (h : SD T [] ts δ (.ret d)) (e : d = d') : SDf T ts δ d' := e ▸ .inl h
theorem SDf.nx {T : Tb} {ts : TS} {δ δ' : List (Option Da)} {S' : Os} (h : SD T [] ts δ (.nx δ' S')) : SDf T ts δ .non := .inr ⟨δ', S', h, rfl⟩
section
variable {P : Program} {w : World} {K : PySem.W.Frag} {mg : Str → Option Value} {base : Heap} {T : Tb}
theorem fn_pure {x qual : Str} {params : Arguments} {body : List Stmt} {scope : Scope} {dvs : List V} {kws : List (Str × V)} {f : Addr} {fd : FuncData} {N ps : List Str} {k : Nat} {R : List Da → Da → Prop}
    (F : FunD K x qual params body scope dvs kws f fd) (S : FnScope N ps scope) (hl : ∀ ds d, R ds d → ds.length = ps.length)
    (hb : ∀ (cdv : Value) (A : Around) (outer : List Env) (s : Shared) (H : Hp) (E : XK), Room k (A.deeper (envOfC qual scope s.heap.objs.size f cdv)) →
      ∃ t, PSs (cxOf C8.CX0 P w K mg base N qual scope f cdv A outer s H E).nox body t ∧ ∀ ds d, R ds d → SDf T t (startD N.length ds) d) : FnOk P w K mg base C8.CX0 (k + 1) f fd ps (Prm T R) :=
  F.ok S (fun vs H Q E ⟨F, ds, d, s, r, hR, _⟩ => r.length.trans (hl ds d hR)) fun cdv A outer s H vs Q E hr ⟨F, ds, d, sg, r, hR, q⟩ => by
    obtain ⟨t, ht, hs⟩ := hb cdv A outer s H E hr
    refine ⟨t, ht.nox, ?_⟩
    rcases hs ds d hR with h | ⟨δ', S', h, rfl⟩
    · exact h F H _ { nx := fun _ H' => Q .non H', rt := Q } sg (EnvR.start r) fun F' H' g v r => q v F' H' g.gr r
    · exact h F H _ { nx := fun _ H' => Q .non H', rt := Q } sg (EnvR.start r) fun F' H' g σ e => q .non F' H' g.gr .non
end
end O26
set_option Elab.async false
set_option linter.all false
set_option maxRecDepth 100000
set_option maxHeartbeats 4000000
namespace O26
open PySem PySem.Spec PyProof.Rows L2 LamX
/-! what is looked at behind the top: a Hook of one's own, over all objects -/
/-- all objects, the newest first -/
def asR (n : Nat) : List Addr := mainGlobals :: (List.range n).reverse
abbrev AlR : Type := He.AlD × Bool
def obsR (n : Nat) (fa : List He.Fa) (fn : List He.DefD) (tf : List He.Defn) (ex : PySem.W.Frag → Bool) (g : Addr → Option Obj) : AlR :=
  (He.obsD fa fn (He.frT g (asR n)), ex (He.frT g (asR n)) && He.tabsB g tf (He.frT g (asR n)))
structure SaysR (fa : List He.Fa) (fn : List He.DefD) (tf : List He.Defn) (ex : PySem.W.Frag → Bool) (h : Heap) (K : PySem.W.Frag) : Prop where
  d : He.SaysD fa fn K
  more : ex K = true
  tab : ∀ p ∈ tf, PySem.W.codeHdIn K (He.cT K p).1 (He.cT K p).2 = true ∧ K.lookup (He.cT K p).2 = none ∧ h.get? (He.cT K p).2 = some { cls := .none, data := .fields #[] }
theorem SaysR.of {n : Nat} {fa : List He.Fa} {fn : List He.DefD} {tf : List He.Defn} {ex : PySem.W.Frag → Bool} {h : Heap} (e : obsR n fa fn tf ex h.get? = (He.valD fn, true)) : SaysR fa fn tf ex h (He.frT h.get? (asR n)) := by
  obtain ⟨e1, e2⟩ := Prod.mk.inj e
  obtain ⟨m, t⟩ := He.ba e2
  refine ⟨e1, m, fun p hp => ?_⟩
  obtain ⟨a, b⟩ := He.ba (List.all_eq_true.mp t p hp)
  refine ⟨a, ?_⟩
  generalize He.cT (He.frT h.get? (asR n)) p = c at b ⊢
  cases ho : h.get? c.2 with
  | none => rw [ho] at b; cases b
  | some o =>
    rw [ho] at b
    exact ⟨He.frT_none ho b, congrArg some (He.emptyTab_eq b)⟩
def hookR (fa : List He.Fa) (fn : List He.DefD) (tf : List He.Defn) (ex : PySem.W.Frag → Bool) : PySem.W.Hook where
  α := AlR
  obs := fun s => obsR s.heap.objs.size fa fn tf ex s.heap.get?
  val := fun _ => (He.valD fn, true)
  says := fun _ h => ∃ K : PySem.W.Frag, K.In h ∧ SaysR fa fn tf ex h K
  of := fun _ _ e => ⟨_, He.frT_in, SaysR.of e⟩
  keeps := fun _ _ _ ⟨K, hK, c⟩ k => ⟨K, PySem.W.Frag.In.keeps hK k, c.d, c.more, fun p hp => ⟨(c.tab p hp).1, (c.tab p hp).2.1, k _ _ (c.tab p hp).2.2⟩⟩
theorem obsR_eq {fa : List He.Fa} {fn : List He.DefD} {tf : List He.Defn} {ex : PySem.W.Frag → Bool} (s : PySem.W.SharedT) : obsR s.n fa fn tf ex (HandSHeadRun.getT s) = (hookR fa fn tf ex).obs s.abs := by
  have e : HandSHeadRun.getT s = s.abs.heap.get? := funext (HandSHeadRun.getT_eq s)
  have n : s.abs.heap.objs.size = s.n := PySem.W.absHeap_size s.tree s.n s.life
  show _ = obsR s.abs.heap.objs.size fa fn tf ex s.abs.heap.get?
  rw [e, n]
/-! the own exception's class -/
def reTailB : List Value := [.type "RuntimeError", .type "Exception", .type "BaseException", .type "object"]
def undB (K : PySem.W.Frag) (C : Addr) : Bool := match K.lookup C with
  | some ⟨.type "type", _, .cls cd, sl⟩ => (match cd.mro, sl.toList with
    | .ref D :: bm, [_, _, _, _, some (.builtin n), _] => (D == C && n == "RuntimeError.__new__") && ((!cd.hasDel && cd.hasDict) && PySem.W.excTail reTailB bm)
    | _, _ => false)
  | _ => false
def kwNone (K : PySem.W.Frag) (a : Addr) : Bool := match K.lookup a with
  | some ⟨_, _, .func fd, _⟩ => (match fd.kwdefaults with
    | .none => true
    | _ => false)
  | _ => false
def undC (K : PySem.W.Frag) : Addr := He.ga K "Undefined"
def undI (K : PySem.W.Frag) : Addr := He.ma K (undC K) "__init__"
def exB (K : PySem.W.Frag) : Bool :=
  undB K (undC K) && (He.eqO (PySem.W.findIn K (.ref (undC K)) "__setattr__") (some (some (.builtin "object.__setattr__"))) && (He.eqO (PySem.W.findIn K (.ref (undC K)) "__getattribute__") (some (some (.builtin "BaseException.__getattribute__"))) &&
  (He.eqO (PySem.W.findIn K (.ref (undC K)) "__getattr__") (some none) && (He.eqO (PySem.W.findIn K (.ref (undC K)) "steps") (some none) && (He.eqO (PySem.W.findIn K (.ref (undC K)) "__init__") (some (some (.ref (undI K)))) &&
  (decide (PySem.W.typeIn K (.ref (undI K)) = some (.type "function")) && (PySem.W.keepIn K (.ref (undC K)) && (decide (PySem.W.subIn K (.ref (undC K)) (.type "BaseException") = some true) && (decide (PySem.W.typeIn K (.ref (undC K)) = some (.type "type")) &&
  (PySem.W.hasDictIn K (undC K) && (decide (PySem.W.exmOne K (.ref (undC K)) (.ref (undC K)) = some true) && (kwNone K (undI K) &&
  ((PySem.W.clsIn K (undC K)).isSome && (He.eqO (PySem.W.findIn K (.ref (undC K)) "__class__") (some (some (.builtin "object.__class__"))) && (He.eqO (PySem.W.specialIn K (.builtin "object.__class__") "__get__") (some (some (.builtin "getset_descriptor.__get__"))) &&
  (decide (PySem.W.takesIn K (.builtin "object.__class__") = some true) && (decide (PySem.W.mroIn K (undC K) (.type "object") = some true) && decide (PySem.W.kitOne K (.ref (undC K)) (.type "RuntimeError") = some true))))))))))))))))))
end O26
set_option Elab.async false
set_option linter.all false
set_option maxRecDepth 100000
set_option maxHeartbeats 0
/-! what stands behind the top -/
namespace O26
open PySem PySem.Spec PyProof.Rows L2
def d_UndefinedU_initU : He.DefD := ⟨("Undefined", some "__init__"), "__init__", "Undefined.__init__", defArgs (inClass (top 7) 0), defBody (inClass (top 7) 0), defScope (inClass (top 7) 0), [], []⟩
def d_is_int : He.DefD := ⟨("is_int", none), "is_int", "is_int", defArgs (top 9), defBody (top 9), defScope (top 9), [], []⟩
def d_is_int_in : He.DefD := ⟨("is_int_in", none), "is_int_in", "is_int_in", defArgs (top 10), defBody (top 10), defScope (top 10), [], []⟩
def d_gcd : He.DefD := ⟨("gcd", none), "gcd", "gcd", defArgs (top 11), defBody (top 11), defScope (top 11), [], []⟩
def d_lcm : He.DefD := ⟨("lcm", none), "lcm", "lcm", defArgs (top 12), defBody (top 12), defScope (top 12), [], []⟩
def d_cross : He.DefD := ⟨("cross", none), "cross", "cross", defArgs (top 13), defBody (top 13), defScope (top 13), [], []⟩
def d_difference : He.DefD := ⟨("difference", none), "difference", "difference", defArgs (top 14), defBody (top 14), defScope (top 14), [], []⟩
def d_primitive : He.DefD := ⟨("primitive", none), "primitive", "primitive", defArgs (top 17), defBody (top 17), defScope (top 17), [], []⟩
def d_directions : He.DefD := ⟨("directions", none), "directions", "directions", defArgs (top 18), defBody (top 18), defScope (top 18), [], []⟩
def d_far_pair : He.DefD := ⟨("far_pair", none), "far_pair", "far_pair", defArgs (top 19), defBody (top 19), defScope (top 19), [], []⟩
def d_FarFieldU_initU : He.DefD := ⟨("FarField", some "__init__"), "__init__", "FarField.__init__", defArgs (inClass (top 20) 0), defBody (inClass (top 20) 0), defScope (inClass (top 20) 0), [], []⟩
def d_FarField_turn : He.DefD := ⟨("FarField", some "turn"), "turn", "FarField.turn", defArgs (inClass (top 20) 1), defBody (inClass (top 20) 1), defScope (inClass (top 20) 1), [], []⟩
def d_FarField_needed_factor : He.DefD := ⟨("FarField", some "needed_factor"), "needed_factor", "FarField.needed_factor", defArgs (inClass (top 20) 2), defBody (inClass (top 20) 2), defScope (inClass (top 20) 2), [], []⟩
def d_modulus : He.DefD := ⟨("modulus", none), "modulus", "modulus", defArgs (top 21), defBody (top 21), defScope (top 21), [], []⟩
def d_require_modulus : He.DefD := ⟨("require_modulus", none), "require_modulus", "require_modulus", defArgs (top 22), defBody (top 22), defScope (top 22), [], []⟩
def d_is_point_shape : He.DefD := ⟨("is_point_shape", none), "is_point_shape", "is_point_shape", defArgs (top 26), defBody (top 26), defScope (top 26), [], []⟩
def d_is_point : He.DefD := ⟨("is_point", none), "is_point", "is_point", defArgs (top 27), defBody (top 27), defScope (top 27), [], []⟩
def d_require_point : He.DefD := ⟨("require_point", none), "require_point", "require_point", defArgs (top 28), defBody (top 28), defScope (top 28), [], []⟩
def d_translated : He.DefD := ⟨("translated", none), "translated", "translated", defArgs (top 29), defBody (top 29), defScope (top 29), [.int 1], []⟩
def d_reflected : He.DefD := ⟨("reflected", none), "reflected", "reflected", defArgs (top 30), defBody (top 30), defScope (top 30), [], []⟩
def d_edge_side : He.DefD := ⟨("edge_side", none), "edge_side", "edge_side", defArgs (top 31), defBody (top 31), defScope (top 31), [], []⟩
def d_edge_sides : He.DefD := ⟨("edge_sides", none), "edge_sides", "edge_sides", defArgs (top 32), defBody (top 32), defScope (top 32), [], []⟩
def d_lies_outside : He.DefD := ⟨("lies_outside", none), "lies_outside", "lies_outside", defArgs (top 33), defBody (top 33), defScope (top 33), [], []⟩
def d_require_outside : He.DefD := ⟨("require_outside", none), "require_outside", "require_outside", defArgs (top 34), defBody (top 34), defScope (top 34), [], []⟩
def d_tangent_index : He.DefD := ⟨("tangent_index", none), "tangent_index", "tangent_index", defArgs (top 36), defBody (top 36), defScope (top 36), [], []⟩
def d_back_tangent_index : He.DefD := ⟨("back_tangent_index", none), "back_tangent_index", "back_tangent_index", defArgs (top 37), defBody (top 37), defScope (top 37), [], []⟩
def d_next_pair : He.DefD := ⟨("next_pair", none), "next_pair", "next_pair", defArgs (top 39), defBody (top 39), defScope (top 39), [], []⟩
def d_pair_shift : He.DefD := ⟨("pair_shift", none), "pair_shift", "pair_shift", defArgs (top 40), defBody (top 40), defScope (top 40), [], []⟩
def d_positive_count : He.DefD := ⟨("positive_count", none), "positive_count", "positive_count", defArgs (top 41), defBody (top 41), defScope (top 41), [], []⟩
def d_tangent_counts : He.DefD := ⟨("tangent_counts", none), "tangent_counts", "tangent_counts", defArgs (top 42), defBody (top 42), defScope (top 42), [], []⟩
def d_pair_count : He.DefD := ⟨("pair_count", none), "pair_count", "pair_count", defArgs (top 43), defBody (top 43), defScope (top 43), [], []⟩
def d_translations_to : He.DefD := ⟨("translations_to", none), "translations_to", "translations_to", defArgs (top 46), defBody (top 46), defScope (top 46), [], []⟩
def d_SegmentU_initU : He.DefD := ⟨("Segment", some "__init__"), "__init__", "Segment.__init__", defArgs (inClass (top 47) 0), defBody (inClass (top 47) 0), defScope (inClass (top 47) 0), [], []⟩
def d_Segment_point_at : He.DefD := ⟨("Segment", some "point_at"), "point_at", "Segment.point_at", defArgs (inClass (top 47) 1), defBody (inClass (top 47) 1), defScope (inClass (top 47) 1), [], []⟩
def d_Segment_steps_to : He.DefD := ⟨("Segment", some "steps_to"), "steps_to", "Segment.steps_to", defArgs (inClass (top 47) 2), defBody (inClass (top 47) 2), defScope (inClass (top 47) 2), [], []⟩
def d_OrbitU_initU : He.DefD := ⟨("Orbit", some "__init__"), "__init__", "Orbit.__init__", defArgs (inClass (top 48) 0), defBody (inClass (top 48) 0), defScope (inClass (top 48) 0), [.int 1, .non], []⟩
def d_Orbit_finish : He.DefD := ⟨("Orbit", some "finish"), "finish", "Orbit.finish", defArgs (inClass (top 48) 1), defBody (inClass (top 48) 1), defScope (inClass (top 48) 1), [], []⟩
def d_Orbit_last_step : He.DefD := ⟨("Orbit", some "last_step"), "last_step", "Orbit.last_step", defArgs (inClass (top 48) 2), defBody (inClass (top 48) 2), defScope (inClass (top 48) 2), [], []⟩
def d_Orbit_point_at : He.DefD := ⟨("Orbit", some "point_at"), "point_at", "Orbit.point_at", defArgs (inClass (top 48) 3), defBody (inClass (top 48) 3), defScope (inClass (top 48) 3), [], []⟩
def d_require_steps : He.DefD := ⟨("require_steps", none), "require_steps", "require_steps", defArgs (top 49), defBody (top 49), defScope (top 49), [], []⟩
def d_point_from : He.DefD := ⟨("point_from", none), "point_from", "point_from", defArgs (top 50), defBody (top 50), defScope (top 50), [], []⟩
def d_point_after : He.DefD := ⟨("point_after", none), "point_after", "point_after", defArgs (top 51), defBody (top 51), defScope (top 51), [], []⟩
def d_period_from : He.DefD := ⟨("period_from", none), "period_from", "period_from", defArgs (top 52), defBody (top 52), defScope (top 52), [], []⟩
def d_period_of : He.DefD := ⟨("period_of", none), "period_of", "period_of", defArgs (top 53), defBody (top 53), defScope (top 53), [], []⟩
def d_end_steps : He.DefD := ⟨("end_steps", none), "end_steps", "end_steps", defArgs (top 54), defBody (top 54), defScope (top 54), [], []⟩
def d_dead_ends : He.DefD := ⟨("dead_ends", none), "dead_ends", "dead_ends", defArgs (top 55), defBody (top 55), defScope (top 55), [], []⟩
def d_is_vertex : He.DefD := ⟨("is_vertex", none), "is_vertex", "is_vertex", defArgs (top 60), defBody (top 60), defScope (top 60), [], []⟩
def d_is_convex : He.DefD := ⟨("is_convex", none), "is_convex", "is_convex", defArgs (top 61), defBody (top 61), defScope (top 61), [], []⟩
def d_require_vertices : He.DefD := ⟨("require_vertices", none), "require_vertices", "require_vertices", defArgs (top 62), defBody (top 62), defScope (top 62), [], []⟩
def d_PolygonU_initU : He.DefD := ⟨("Polygon", some "__init__"), "__init__", "Polygon.__init__", defArgs (inClass (top 63) 0), defBody (inClass (top 63) 0), defScope (inClass (top 63) 0), [], []⟩
def d_PolygonU_lenU : He.DefD := ⟨("Polygon", some "__len__"), "__len__", "Polygon.__len__", defArgs (inClass (top 63) 2), defBody (inClass (top 63) 2), defScope (inClass (top 63) 2), [], []⟩
def d_Polygon_vertices : He.DefD := ⟨("Polygon", some "vertices"), "vertices", "Polygon.vertices", defArgs (inClass (top 63) 3), defBody (inClass (top 63) 3), defScope (inClass (top 63) 3), [], []⟩
def d_Polygon_vertex : He.DefD := ⟨("Polygon", some "vertex"), "vertex", "Polygon.vertex", defArgs (inClass (top 63) 4), defBody (inClass (top 63) 4), defScope (inClass (top 63) 4), [], []⟩
def d_Polygon_edge : He.DefD := ⟨("Polygon", some "edge"), "edge", "Polygon.edge", defArgs (inClass (top 63) 5), defBody (inClass (top 63) 5), defScope (inClass (top 63) 5), [], []⟩
def dUlaw_pen : He.DefD := ⟨("_law_pen", none), "_law_pen", "_law_pen", defArgs (top 65), defBody (top 65), defScope (top 65), [], []⟩
def dUlaw_draw : He.DefD := ⟨("_law_draw", none), "_law_draw", "_law_draw", defArgs (top 66), defBody (top 66), defScope (top 66), [], []⟩
def dUlaw_pick : He.DefD := ⟨("_law_pick", none), "_law_pick", "_law_pick", defArgs (top 67), defBody (top 67), defScope (top 67), [], []⟩
def dUlaw_great : He.DefD := ⟨("_law_great", none), "_law_great", "_law_great", defArgs (top 68), defBody (top 68), defScope (top 68), [], []⟩
def dUlaw_gcd : He.DefD := ⟨("_law_gcd", none), "_law_gcd", "_law_gcd", defArgs (top 69), defBody (top 69), defScope (top 69), [], []⟩
def dUlaw_cross : He.DefD := ⟨("_law_cross", none), "_law_cross", "_law_cross", defArgs (top 70), defBody (top 70), defScope (top 70), [], []⟩
def dUlaw_point_form : He.DefD := ⟨("_law_point_form", none), "_law_point_form", "_law_point_form", defArgs (top 71), defBody (top 71), defScope (top 71), [], []⟩
def dUlaw_sides : He.DefD := ⟨("_law_sides", none), "_law_sides", "_law_sides", defArgs (top 72), defBody (top 72), defScope (top 72), [], []⟩
def dUlaw_right : He.DefD := ⟨("_law_right", none), "_law_right", "_law_right", defArgs (top 73), defBody (top 73), defScope (top 73), [], []⟩
def dUlaw_left : He.DefD := ⟨("_law_left", none), "_law_left", "_law_left", defArgs (top 74), defBody (top 74), defScope (top 74), [], []⟩
def dUlaw_mirror : He.DefD := ⟨("_law_mirror", none), "_law_mirror", "_law_mirror", defArgs (top 75), defBody (top 75), defScope (top 75), [], []⟩
def dUlaw_next : He.DefD := ⟨("_law_next", none), "_law_next", "_law_next", defArgs (top 76), defBody (top 76), defScope (top 76), [], []⟩
def dUlaw_previous : He.DefD := ⟨("_law_previous", none), "_law_previous", "_law_previous", defArgs (top 77), defBody (top 77), defScope (top 77), [], []⟩
def dUlaw_from_least : He.DefD := ⟨("_law_from_least", none), "_law_from_least", "_law_from_least", defArgs (top 78), defBody (top 78), defScope (top 78), [], []⟩
def dUlaw_directions : He.DefD := ⟨("_law_directions", none), "_law_directions", "_law_directions", defArgs (top 79), defBody (top 79), defScope (top 79), [], []⟩
def dUlaw_far_shift : He.DefD := ⟨("_law_far_shift", none), "_law_far_shift", "_law_far_shift", defArgs (top 80), defBody (top 80), defScope (top 80), [], []⟩
def dUlaw_far_rows : He.DefD := ⟨("_law_far_rows", none), "_law_far_rows", "_law_far_rows", defArgs (top 81), defBody (top 81), defScope (top 81), [], []⟩
def dUlaw_modulus : He.DefD := ⟨("_law_modulus", none), "_law_modulus", "_law_modulus", defArgs (top 82), defBody (top 82), defScope (top 82), [], []⟩
def dUlaw_map_corner : He.DefD := ⟨("_law_map_corner", none), "_law_map_corner", "_law_map_corner", defArgs (top 83), defBody (top 83), defScope (top 83), [], []⟩
def dUlaw_mapped : He.DefD := ⟨("_law_mapped", none), "_law_mapped", "_law_mapped", defArgs (top 84), defBody (top 84), defScope (top 84), [], []⟩
def dUlaw_table : He.DefD := ⟨("_law_table", none), "_law_table", "_law_table", defArgs (top 85), defBody (top 85), defScope (top 85), [], []⟩
def dUlaw_shapes : He.DefD := ⟨("_law_shapes", none), "_law_shapes", "_law_shapes", defArgs (top 86), defBody (top 86), defScope (top 86), [], []⟩
def dUlaw_shape : He.DefD := ⟨("_law_shape", none), "_law_shape", "_law_shape", defArgs (top 87), defBody (top 87), defScope (top 87), [], []⟩
def dUlaw_is_int : He.DefD := ⟨("_law_is_int", none), "_law_is_int", "_law_is_int", defArgs (top 88), defBody (top 88), defScope (top 88), [], []⟩
def dUlaw_dead_end : He.DefD := ⟨("_law_dead_end", none), "_law_dead_end", "_law_dead_end", defArgs (top 89), defBody (top 89), defScope (top 89), [], []⟩
def dUlaw_result : He.DefD := ⟨("_law_result", none), "_law_result", "_law_result", defArgs (top 90), defBody (top 90), defScope (top 90), [], []⟩
def d_law : He.DefD := ⟨("law", none), "law", "law", defArgs (top 91), defBody (top 91), defScope (top 91), [], []⟩
def fnL : List He.DefD := [d_UndefinedU_initU, d_is_int, d_is_int_in, d_gcd, d_lcm, d_cross, d_difference, d_primitive, d_directions, d_far_pair, d_FarFieldU_initU, d_FarField_turn, d_FarField_needed_factor, d_modulus, d_require_modulus, d_is_point_shape, d_is_point, d_require_point, d_translated, d_reflected, d_edge_side, d_edge_sides, d_lies_outside, d_require_outside, d_tangent_index, d_back_tangent_index, d_next_pair, d_pair_shift, d_positive_count, d_tangent_counts, d_pair_count, d_translations_to, d_SegmentU_initU, d_Segment_point_at, d_Segment_steps_to, d_OrbitU_initU, d_Orbit_finish, d_Orbit_last_step]
def fnM : List He.DefD := [d_Orbit_point_at, d_require_steps, d_point_from, d_point_after, d_period_from, d_period_of, d_end_steps, d_dead_ends, d_is_vertex, d_is_convex, d_require_vertices, d_PolygonU_initU, d_PolygonU_lenU, d_Polygon_vertices, d_Polygon_vertex, d_Polygon_edge, dUlaw_pen, dUlaw_draw, dUlaw_pick, dUlaw_great, dUlaw_gcd, dUlaw_cross, dUlaw_point_form, dUlaw_sides, dUlaw_right, dUlaw_left, dUlaw_mirror, dUlaw_next, dUlaw_previous, dUlaw_from_least, dUlaw_directions, dUlaw_far_shift, dUlaw_far_rows, dUlaw_modulus, dUlaw_map_corner, dUlaw_mapped, dUlaw_table, dUlaw_shapes]
def fnN : List He.DefD := [dUlaw_shape, dUlaw_is_int, dUlaw_dead_end, dUlaw_result, d_law]
def fn : List He.DefD := fnL ++ (fnM ++ fnN)
def fa0 : List He.Fa := [.glo "FarField", .glo "Orbit", .glo "Polygon", .glo "Segment", .glo "_law_cross", .glo "_law_dead_end", .glo "_law_directions", .glo "_law_draw", .glo "_law_far_rows", .glo "_law_far_shift", .glo "_law_from_least", .glo "_law_gcd", .glo "_law_great", .glo "_law_is_int", .glo "_law_left", .glo "_law_map_corner", .glo "_law_mapped", .glo "_law_mirror", .glo "_law_modulus", .glo "_law_next", .glo "_law_pen", .glo "_law_pick", .glo "_law_point_form", .glo "_law_previous", .glo "_law_right", .glo "_law_shape", .glo "_law_shapes", .glo "_law_sides", .glo "_law_table", .glo "back_tangent_index"]
def fa1 : List He.Fa := [.glo "cross", .glo "dead_ends", .glo "difference", .glo "directions", .glo "edge_side", .glo "edge_sides", .glo "end_steps", .glo "far_pair", .glo "gcd", .glo "is_convex", .glo "is_int", .glo "is_int_in", .glo "is_point", .glo "is_point_shape", .glo "is_vertex", .glo "lcm", .glo "lies_outside", .glo "modulus", .glo "next_pair", .glo "pair_count", .glo "pair_shift", .glo "period_from", .glo "period_of", .glo "point_after", .glo "point_from", .glo "positive_count", .glo "primitive", .glo "reflected", .glo "require_modulus", .glo "require_outside"]
def fa2 : List He.Fa := [.glo "require_point", .glo "require_steps", .glo "require_vertices", .glo "tangent_counts", .glo "tangent_index", .glo "translated", .glo "translations_to", .glo "Undefined", .glo "_law_result", .glo "law", .free "RuntimeError", .free "abs", .free "all", .free "bool", .free "divmod", .free "enumerate", .free "int", .free "isinstance", .free "len", .free "list", .free "max", .free "min", .free "range", .free "repr", .free "sorted", .free "tuple", .free "zip", .int "MAX_COORDINATE" 60, .int "MAX_DENOMINATOR" 1000000, .int "MAX_DISTANCE" 10000000000000000000000000000000000000000]
def fa3 : List He.Fa := [.int "MAX_MODULUS" 4096, .int "MAX_STEPS" 10000000000000000000000000000000000000000, .int "MAX_VERTICES" 6, .int "MIN_VERTICES" 3, .cls "FarField", .cls "Orbit", .cls "Polygon", .cls "Segment", .noat "FarField" "pairs", .noat "FarField" "unit", .noat "FarField" "vectors", .noat "FarField" "widths", .noat "Orbit" "cycle", .noat "Orbit" "polygon", .noat "Orbit" "segments", .noat "Orbit" "tail", .noat "Polygon" "cycle", .noat "Segment" "count", .noat "Segment" "pair", .noat "Segment" "point", .noat "Segment" "polygon", .noat "Segment" "shift", .noat "Segment" "start", .noat "Segment" "stop", .meth "FarField" "needed_factor", .meth "FarField" "turn", .meth "Orbit" "finish", .meth "Orbit" "last_step", .meth "Orbit" "point_at", .meth "Polygon" "__len__"]
def fa4 : List He.Fa := [.meth "Polygon" "edge", .meth "Polygon" "vertex", .meth "Polygon" "vertices", .meth "Segment" "point_at", .meth "Segment" "steps_to", .mkr "FarField", .mkr "Orbit", .mkr "Polygon", .mkr "Segment"]
def fa : List He.Fa := fa0 ++ (fa1 ++ (fa2 ++ (fa3 ++ (fa4))))
def ls0 : List Str := ["_wall", "__name__", "InvalidPolygon", "InvalidPoint", "InvalidCount", "NotOutside", "ModulusTooLarge", "Undefined", "is_int", "is_int_in", "gcd", "lcm", "cross", "difference", "MAX_MODULUS", "primitive", "directions", "far_pair", "FarField", "modulus", "require_modulus", "MAX_DENOMINATOR", "MAX_DISTANCE", "is_point_shape", "is_point", "require_point", "translated", "reflected", "edge_side", "edge_sides"]
def ls1 : List Str := ["lies_outside", "require_outside", "tangent_index", "back_tangent_index", "next_pair", "pair_shift", "positive_count", "tangent_counts", "pair_count", "MAX_STEPS", "translations_to", "Segment", "Orbit", "require_steps", "point_from", "point_after", "period_from", "period_of", "end_steps", "dead_ends", "MAX_COORDINATE", "MIN_VERTICES", "MAX_VERTICES", "is_vertex", "is_convex", "require_vertices", "Polygon", "_law_pen", "_law_draw", "_law_pick"]
def ls2 : List Str := ["_law_great", "_law_gcd", "_law_cross", "_law_point_form", "_law_sides", "_law_right", "_law_left", "_law_mirror", "_law_next", "_law_previous", "_law_from_least", "_law_directions", "_law_far_shift", "_law_far_rows", "_law_modulus", "_law_map_corner", "_law_mapped", "_law_table", "_law_shapes", "_law_shape", "_law_is_int", "_law_dead_end", "_law_result"]
def loose : List Str := ls0 ++ (ls1 ++ (ls2))
abbrev tfL : List He.Defn := [("directions", none), ("law", none)]
abbrev Rw : PySem.W.OpenRow := PySem.W.OpenLaw.row PySem.Challenge.rw_outleap_k26_whole_orbits_that_end_at_bot
def exT (K : PySem.W.Frag) : Bool := exB K && !((He.cT K ("directions", none)).2 == (He.cT K ("law", none)).2)
abbrev hk : PySem.W.Hook := hookR fa fn tfL exT
def ob (s : PySem.W.SharedT) : AlR := obsR s.n fa fn tfL exT (HandSHeadRun.getT s)
theorem ob_eq (s : PySem.W.SharedT) : ob s = hk.obs s.abs := obsR_eq s
theorem run (w : World) : HandSHeadRun.RunEq Rw (PySem.W.view Rw.prog [91]) hk ob 6000 loose w := by
  intro os
  kernel_rfl
end O26
/-! the program's functions over plain numbers -/
namespace O26
abbrev Ve := Int × Int
abbrev Pt := Int × Int × Int
def crs (a b : Ve) : Int := a.1 * b.2 - a.2 * b.1
def dif (a b : Ve) : Ve := (a.1 - b.1, a.2 - b.2)
def vtx (vs : List Ve) (i : Int) : Ve := vs.getD (i % (vs.length : Nat)).toNat (0, 0)
def edg (vs : List Ve) (i : Int) : Ve := dif (vtx vs (i + 1)) (vtx vs i)
def side (vs : List Ve) (i : Int) (p : Pt) : Int := crs (edg vs i) (p.1 - (vtx vs i).1 * p.2.2, p.2.1 - (vtx vs i).2 * p.2.2)
def sides (vs : List Ve) (p : Pt) : List Int := (List.range vs.length).map fun i => side vs (0 + (i : Nat)) p
/-- xs[i - 1], from behind for i = 0 -/
def prev (s : List Int) (i : Nat) : Int := if i = 0 then s.getD (s.length - 1) 0 else s.getD (i - 1) 0
def tanP (s : List Int) (i : Nat) : Bool := decide (prev s i < 0) && decide (0 < s.getD i 0)
def btanP (s : List Int) (i : Nat) : Bool := decide (s.getD i 0 < 0) && decide (0 < prev s i)
def tan (vs : List Ve) (p : Pt) : Option Nat := (List.range vs.length).find? (tanP (sides vs p))
def btan (vs : List Ve) (p : Pt) : Option Nat := (List.range vs.length).find? (btanP (sides vs p))
def refl (p : Pt) (v : Ve) : Pt := (2 * v.1 * p.2.2 - p.1, 2 * v.2 * p.2.2 - p.2.1, p.2.2)
def trans (p : Pt) (v : Ve) (c : Int) : Pt := (p.1 + c * v.1 * p.2.2, p.2.1 + c * v.2 * p.2.2, p.2.2)
/-- the tangent vertex forward (1) or backward (-1) -/
def tanD (dir : Int) (vs : List Ve) (p : Pt) : Option Nat := if dir = 1 then tan vs p else btan vs p
def shft (vs : List Ve) (i j : Int) : Ve := (2 * (dif (vtx vs j) (vtx vs i)).1, 2 * (dif (vtx vs j) (vtx vs i)).2)
def poscount (value change : Int) : Option Int := if change ≥ 0 then none else some ((value - change - 1) / (-change))
def tcounts (vs : List Ve) (p : Pt) (i : Int) (sh : Ve) (dir : Int) : List (Option Int) :=
  [poscount (-dir * side vs (i - 1) p) (-dir * p.2.2 * crs (edg vs (i - 1)) sh), poscount (dir * side vs i p) (dir * p.2.2 * crs (edg vs i) sh)]
def pcounts (vs : List Ve) (p : Pt) (i j : Int) (dir : Int) : List Int :=
  (tcounts vs p i (shft vs i j) dir ++ tcounts vs (refl p (vtx vs i)) j (-(shft vs i j).1, -(shft vs i j).2) dir).filterMap id
end O26
namespace O26
def nextP (dir : Int) (vs : List Ve) (p : Pt) : Option Nat × Option Nat :=
  match tanD dir vs p with
  | none => (none, none)
  | some i => (some i, tanD dir vs (refl p (vtx vs (i : Nat))))
/-- how many translations by a vector lead from a point to another -/
def transTo (p : Pt) (sh : Ve) (q : Pt) : Option Int :=
  if q.2.2 ≠ p.2.2 then none else
    let x := q.1 - p.1
    let y := q.2.1 - p.2.1
    let s1 := sh.1 * p.2.2
    let s2 := sh.2 * p.2.2
    let c := if s1 ≠ 0 then x.fdiv s1 else y.fdiv s2
    if c ≥ 0 ∧ c * s1 = x ∧ c * s2 = y then some c else none
end O26
/-! the modulus over plain numbers -/
namespace O26
def primV (v : Ve) : Ve :=
  let g : Int := Int.gcd v.1 v.2
  let h : Int := if v.2 < 0 ∨ (v.2 = 0 ∧ v.1 < 0) then -g else g
  (v.1.fdiv h, v.2.fdiv h)
def addNew (acc : List Ve) (v : Ve) : List Ve := if v ∈ acc then acc else acc ++ [v]
def dirsRaw (vs : List Ve) : List Ve := (List.range vs.length).foldl (fun acc i => addNew acc (primV (edg vs (i : Nat)))) []
def dkey (l : List Ve) (v : Ve) : Nat := (l.filter fun o => decide (0 < crs o v)).length
/-- l in the order of its keys 0, 1, .. -/
def dirsL (l : List Ve) : List Ve := (List.range l.length).map fun k => (l.find? fun v => dkey l v == k).getD (0, 0)
def dirs (vs : List Ve) : List Ve := dirsL (dirsRaw vs)
def maxIx (l : List Int) : Nat := (l.findIdx? fun x => l.all fun y => decide (y ≤ x)).getD 0
def minIx (l : List Int) : Nat := (l.findIdx? fun x => l.all fun y => decide (x ≤ y)).getD 0
def farVals (vs : List Ve) (a b : Ve) : List Int := vs.map fun v => crs (a.1 + b.1, a.2 + b.2) v
def farP (vs : List Ve) (a b : Ve) : Nat × Nat × Ve :=
  let l := farVals vs a b
  (maxIx l, minIx l, shft vs (maxIx l : Nat) (minIx l : Nat))
def fVec (vs : List Ve) : List Ve := dirs vs ++ [(-((dirs vs).getD 0 (0, 0)).1, -((dirs vs).getD 0 (0, 0)).2)]
def fPairs (vs : List Ve) : List (Nat × Nat × Ve) := ((fVec vs).zip (fVec vs).tail).map fun x => farP vs x.1 x.2
def absI (i : Int) : Int := if i < 0 then -i else i
def fWid0 (vs : List Ve) : List Int := ((dirs vs).zip (fPairs vs)).map fun x => absI (crs x.1 x.2.2.2)
def fWid (vs : List Ve) : List Int := fWid0 vs ++ (fWid0 vs).take 1
def fTurn (vs : List Ve) (i : Nat) : Int := crs ((fVec vs).getD i (0, 0)) ((fVec vs).getD (i + 1) (0, 0))
def fNeed (vs : List Ve) (i : Nat) : Int :=
  let p := (fWid vs).getD i 0 * (fWid vs).getD (i + 1) 0
  p / (Int.gcd p (fTurn vs i) : Nat)
def lcmL (ns : List Int) : Int := ns.foldl (fun r n => r / (Int.gcd r n : Nat) * n) 1
def modU (vs : List Ve) : Int := lcmL ((List.range (dirs vs).length).map (fNeed vs))
/-- what the way through the modulus asks -/
def farOk (vs : List Ve) : Bool :=
  (List.range vs.length).all (fun i => decide (edg vs (i : Nat) ≠ (0, 0))) &&
  ((List.range (dirsRaw vs).length).all fun k => ((dirsRaw vs).filter fun v => dkey (dirsRaw vs) v == k).length == 1) &&
  decide (1 ≤ (dirsRaw vs).length) && decide ((dirsRaw vs).length ≤ 6) &&
  ((dirsRaw vs).all fun v => decide (v.1.natAbs ≤ 200) && decide (v.2.natAbs ≤ 200)) &&
  decide ((dirs vs).length = (dirsRaw vs).length) && decide ((fVec vs).length = (dirs vs).length + 1) && decide ((fWid vs).length = (dirs vs).length + 1) &&
  (fVec vs).all (fun v => decide (v.1.natAbs ≤ 200) && decide (v.2.natAbs ≤ 200)) && (fWid vs).all (fun x => decide (x.natAbs ≤ 1000000)) &&
  (List.range (dirs vs).length).all (fun i => decide (0 < fNeed vs i) && decide (fTurn vs i ≠ 0) && decide (fNeed vs i ≤ 1000000000))
structure FarOk (vs : List Ve) : Prop where
  edge : ∀ i, i < vs.length → edg vs (i : Nat) ≠ (0, 0)
  keys : ∀ k, k < (dirsRaw vs).length → ((dirsRaw vs).filter fun v => dkey (dirsRaw vs) v == k).length = 1
  n1 : 1 ≤ (dirsRaw vs).length
  n6 : (dirsRaw vs).length ≤ 6
  raw : ∀ v ∈ dirsRaw vs, v.1.natAbs ≤ 200 ∧ v.2.natAbs ≤ 200
  len : (dirs vs).length = (dirsRaw vs).length
  lenV : (fVec vs).length = (dirs vs).length + 1
  lenW : (fWid vs).length = (dirs vs).length + 1
  vec : ∀ v ∈ fVec vs, v.1.natAbs ≤ 200 ∧ v.2.natAbs ≤ 200
  wid : ∀ x ∈ fWid vs, x.natAbs ≤ 1000000
  need : ∀ i, i < (dirs vs).length → (0 < fNeed vs i ∧ fTurn vs i ≠ 0) ∧ fNeed vs i ≤ 1000000000
theorem FarOk.of {vs : List Ve} (h : farOk vs = true) : FarOk vs := by
  unfold farOk at h
  simp only [Bool.and_eq_true, List.all_eq_true, decide_eq_true_eq, List.mem_range, beq_iff_eq] at h
  obtain ⟨⟨⟨⟨⟨⟨⟨⟨⟨⟨h1, h2⟩, h3⟩, h4⟩, h5⟩, h6⟩, h7⟩, h8⟩, h9⟩, h10⟩, h11⟩ := h
  exact ⟨h1, h2, h3, h4, h5, h6, h7, h8, h9, h10, h11⟩
end O26
/-! the pen over plain numbers -/
namespace O26
structure Pen where
  cells : List Int
  turn : Nat
  left : Int
def primes : List Int := [2147483647, 2147483629, 2147483587, 2147483579, 2147483563]
def cellOf (q : Pen) : Int := if q.cells = [] then 41 * (q.turn : Nat) + 17 else q.cells.getD (q.turn % q.cells.length) 0
def big (q : Pen) : Prop := q.turn < q.cells.length ∧ 1000000000000000000 ≤ absI (cellOf q)
instance (q : Pen) : Decidable (big q) := inferInstanceAs (Decidable (_ ∧ _))
def drawn1 (q : Pen) : Int := (cellOf q % primes.getD (q.turn % 5) 0 * 48271 + 40692 * (q.turn : Nat) * (q.turn : Nat) + 31) % primes.getD (q.turn % 5) 0
def drawn2 (q : Pen) : Int := drawn1 q * (drawn1 q + 69621) % primes.getD ((q.turn + 3) % 5) 0
def drawD (q : Pen) (m : Int) : Int :=
  if 0 < q.left then q.left % m else if big q then (absI (cellOf q) - 1000000000000000000) % m else drawn2 q * drawn2 q % 2147483549 / 64 % m
def drawP (q : Pen) (m : Int) : Pen :=
  if 0 < q.left then { q with left := q.left / m } else if big q then ⟨q.cells, q.turn + 1, (absI (cellOf q) - 1000000000000000000) / m⟩ else ⟨q.cells, q.turn + 1, q.left⟩
theorem drawD_nn {q : Pen} {m : Int} (h : 0 < m) : 0 ≤ drawD q m := by
  unfold drawD
  split
  · exact Int.emod_nonneg _ (by omega)
  · split <;> exact Int.emod_nonneg _ (by omega)
theorem drawD_lt {q : Pen} {m : Int} (h : 0 < m) : drawD q m < m := by
  unfold drawD
  split
  · exact Int.emod_lt_of_pos _ h
  · split <;> exact Int.emod_lt_of_pos _ h
theorem drawP_cells {q : Pen} {m : Int} : (drawP q m).cells = q.cells := by
  unfold drawP
  split
  · rfl
  · split <;> rfl
theorem drawP_turn {q : Pen} {m : Int} : (drawP q m).turn ≤ q.turn + 1 := by
  unfold drawP
  split
  · exact Nat.le_succ _
  · split <;> exact Nat.le_refl _
structure PenOk (n : Nat) (q : Pen) : Prop where
  len : q.cells.length ≤ 63
  turn : q.turn ≤ n
theorem PenOk.draw {n : Nat} {q : Pen} {m : Int} (h : PenOk n q) : PenOk (n + 1) (drawP q m) := ⟨by rw [drawP_cells]; exact h.len, by have := drawP_turn (q := q) (m := m); have := h.turn; omega⟩
theorem PenOk.up {n k : Nat} {q : Pen} (h : PenOk n q) (e : n ≤ k) : PenOk k q := ⟨h.len, Nat.le_trans h.turn e⟩
/-- an int below n, drawn -/
def drawN (q : Pen) (n : Nat) : Nat := (drawD q (n : Nat)).toNat
theorem drawN_eq {q : Pen} {n : Nat} (h : 0 < n) : drawD q (n : Nat) = (drawN q n : Nat) := by
  have := drawD_nn (q := q) (m := (n : Nat)) (by omega)
  unfold drawN
  omega
theorem drawN_lt {q : Pen} {n : Nat} (h : 0 < n) : drawN q n < n := by
  have := drawD_lt (q := q) (m := (n : Nat)) (by omega)
  have := drawD_nn (q := q) (m := (n : Nat)) (by omega)
  unfold drawN
  omega
/-- figures drawn, ten at a time -/
def greatP : Nat → Pen → Int → Int × Pen
  | 0, q, r => (r, q)
  | n + 1, q, r => greatP n (drawP q 10) (10 * r + drawD q 10)
theorem greatP_ok : ∀ (n : Nat) (q : Pen) (r : Int) (k : Nat), PenOk k q → PenOk (k + n) (greatP n q r).2
  | 0, q, r, k, h => h
  | n + 1, q, r, k, h => (greatP_ok n _ _ (k + 1) h.draw).up (by omega)
theorem greatP_bd : ∀ (n : Nat) (q : Pen) (r : Int), 0 ≤ r → 0 ≤ (greatP n q r).1 ∧ (greatP n q r).1 < (r + 1) * 10 ^ n
  | 0, q, r, h => ⟨h, by show r < _; simp; omega⟩
  | n + 1, q, r, h => by
    have h1 := drawD_nn (q := q) (m := 10) (by decide)
    have h2 := drawD_lt (q := q) (m := 10) (by decide)
    obtain ⟨a, b⟩ := greatP_bd n (drawP q 10) (10 * r + drawD q 10) (by omega)
    refine ⟨a, Int.lt_of_lt_of_le b ?_⟩
    rw [Int.pow_succ, Int.mul_comm (10 ^ n) 10, ← Int.mul_assoc]
    exact Int.mul_le_mul_of_nonneg_right (by omega) (Int.le_of_lt (Int.pow_pos (by decide)))
end O26
/-! the law's own helpers over plain numbers -/
namespace O26
def pform (x y d : Int) : Pt := let b : Int := (Int.gcd (Int.gcd x y : Nat) d : Nat); (x / b, y / b, d / b)
def rotL (k : Nat) (vs : List Ve) : List Ve := vs.drop k ++ vs.take k
structure Tab where
  a : Int
  b : Int
  c : Int
  d : Int
  p : Int
  q : Int
def mapC (t : Tab) (v : Ve) : Ve := (t.a * v.1 + t.b * v.2 + t.p, t.c * v.1 + t.d * v.2 + t.q)
def shapesL : List (List Ve) :=
  [[(0, 0), (1, 0), (0, 1)], [(0, 0), (1, 0), (1, 1), (0, 1)], [(0, 0), (2, 0), (1, 1), (0, 1)],
   [(0, 0), (1, 0), (2, 1), (2, 2), (1, 2), (0, 1)], [(0, 0), (2, 0), (2, 1), (1, 2), (0, 2)],
   [(0, 0), (2, 0), (2, 1), (0, 1)], [(0, 0), (1, 0), (2, 1), (1, 1)],
   [(0, 0), (1, 0), (1, 1), (0, 2)], [(0, 0), (3, 0), (0, 1)],
   [(0, 0), (3, 0), (1, 2), (0, 2)], [(0, 1), (1, 0), (2, 1), (1, 2)],
   [(0, 0), (2, 1), (1, 2)], [(0, 0), (1, 0), (1, 1), (0, 1)], [(0, 0), (2, 0), (1, 2)],
   [(0, 1), (1, 0), (2, 2), (1, 2)], [(1, 0), (2, 0), (3, 2), (2, 4), (1, 4)],
   [(0, 0), (1, 0), (3, 1), (3, 2), (2, 3), (1, 2)]]
def lwWay (vs : List Ve) (k : Nat) : Ve :=
  let x := (edg vs k).1
  let y := (edg vs k).2
  let b : Int := (Int.gcd x y : Nat) * (if y > 0 ∨ (y = 0 ∧ x > 0) then 1 else -1)
  (x.fdiv b, y.fdiv b)
def lwIns (acc : List Ve) (w : Ve) : List Ve :=
  if w ∈ acc then acc else
    let i := (acc.filter fun e => decide (crs e w > 0)).length
    acc.take i ++ [w] ++ acc.drop i
def lwDirs (vs : List Ve) : List Ve := (List.range vs.length).foldl (fun acc k => lwIns acc (lwWay vs k)) []
def lwWays (vs : List Ve) : List Ve := lwDirs vs ++ [(0 - ((lwDirs vs).getD 0 (0, 0)).1, 0 - ((lwDirs vs).getD 0 (0, 0)).2)]
structure Row where
  one : Ve
  two : Ve
  near : Nat
  far : Nat
  sh : Ve
  w : Int
  v : Int
  d : Int
def lwRow (vs : List Ve) (k : Nat) : Row :=
  let a := (lwWays vs).getD k (0, 0)
  let b := (lwWays vs).getD (k + 1) (0, 0)
  let f := farP vs a b
  ⟨a, b, f.1, f.2.1, f.2.2, absI (crs a f.2.2), absI (crs b f.2.2), crs a b⟩
def lwRows (vs : List Ve) : List Row := (List.range (lwDirs vs).length).map (lwRow vs)
def lwPart (r : Row) : Int := r.w * r.v / (Int.gcd (r.w * r.v) r.d : Nat)
def lwMod (vs : List Ve) : Int := lcmL ((lwRows vs).map lwPart)
structure LawOk (vs : List Ve) : Prop where
  edge : ∀ i, i < vs.length → edg vs (i : Nat) ≠ (0, 0)
  n1 : 1 ≤ (lwDirs vs).length
  n6 : (lwDirs vs).length ≤ 6
  vec : ∀ v ∈ lwWays vs, v.1.natAbs ≤ 1000 ∧ v.2.natAbs ≤ 1000
  part : ∀ r ∈ lwRows vs, ((0 < lwPart r ∧ r.d ≠ 0) ∧ lwPart r ≤ 1000000000) ∧ (r.sh.1.natAbs ≤ 100000 ∧ r.sh.2.natAbs ≤ 100000)
def lawOk (vs : List Ve) : Bool :=
  (List.range vs.length).all (fun i => decide (edg vs (i : Nat) ≠ (0, 0))) && decide (1 ≤ (lwDirs vs).length) && decide ((lwDirs vs).length ≤ 6) &&
  (lwWays vs).all (fun v => decide (v.1.natAbs ≤ 1000) && decide (v.2.natAbs ≤ 1000)) &&
  (lwRows vs).all (fun r => decide (0 < lwPart r) && decide (r.d ≠ 0) && decide (lwPart r ≤ 1000000000) && (decide (r.sh.1.natAbs ≤ 100000) && decide (r.sh.2.natAbs ≤ 100000)))
theorem LawOk.of {vs : List Ve} (h : lawOk vs = true) : LawOk vs := by
  unfold lawOk at h
  simp only [Bool.and_eq_true, List.all_eq_true, decide_eq_true_eq, List.mem_range] at h
  obtain ⟨⟨⟨⟨h1, h2⟩, h3⟩, h4⟩, h5⟩ := h
  exact ⟨h1, h2, h3, h4, h5⟩
end O26
namespace O26
def ltVb (a b : Ve) : Bool := decide (a.1 < b.1) || (decide (a.1 = b.1) && decide (a.2 < b.2))
def leastW (v : Ve) (vs : List Ve) : Ve := vs.foldl (fun a y => if ltVb y a then y else a) v
def leastK (v : Ve) (r : List Ve) : Nat := ((v :: r).findIdx? fun x => decide (x = leastW v r)).getD 0
def fromLeast : List Ve → List Ve
  | [] => []
  | v :: r => rotL (leastK v r) (v :: r)
def rowsT : List Tab := [⟨1, 0, 0, 1, 0, 0⟩, ⟨1, 1, 0, 1, 0, 0⟩, ⟨1, 0, 1, 1, 0, 0⟩, ⟨0, -1, 1, 0, 0, 0⟩, ⟨1, -1, 0, 1, 0, 0⟩, ⟨1, 0, -1, 1, 0, 0⟩, ⟨0, 1, 1, 0, 0, 0⟩, ⟨2, 1, 1, 1, 0, 0⟩]
def rowT (k : Nat) : Tab := rowsT.getD k ⟨1, 0, 0, 1, 0, 0⟩
def tabGo : Nat → Pen → Ve → Ve → (Ve × Ve) × Pen
  | 0, q, a, b => ((a, b), q)
  | n + 1, q, a, b => tabGo n (drawP q 8) (mapC (rowT (drawN q 8)) a) (mapC (rowT (drawN q 8)) b)
def tabM (q : Pen) : (Ve × Ve) × Pen := tabGo (drawN q 4) (drawP q 4) (1, 0) (0, 1)
/-- the table, 20 the farthest way -/
def tabT (q : Pen) : Tab :=
  let m := tabM q
  ⟨m.1.1.1, m.1.2.1, m.1.1.2, m.1.2.2, drawD m.2 41 - 20, drawD (drawP m.2 41) 41 - 20⟩
def tabP (q : Pen) : Pen := drawP (drawP (tabM q).2 41) 41
def mappedL (t : Tab) (vs : List Ve) : List Ve := fromLeast (if crs (t.a, t.b) (t.c, t.d) = 1 then vs.map (mapC t) else (vs.map (mapC t)).reverse)
def scaleL (k : Int) (vs : List Ve) : List Ve := vs.map fun v => (k * v.1, k * v.2)
def shBase (q : Pen) : List Ve := shapesL.getD (drawN q 17) []
def shMany (q : Pen) : Int := 1 + drawD (drawP q 17) 3
def shPen (q : Pen) : Pen := drawP (drawP q 17) 3
def shRes (q : Pen) : List Ve := mappedL (tabT (shPen q)) (scaleL (shMany q) (shBase q))
def wide (vs : List Ve) : Bool := vs.any fun v => decide (60 < v.1.natAbs) || decide (60 < v.2.natAbs)
def shBad (q : Pen) : Bool := wide (shRes q) || decide (lwMod (shRes q) > 4096)
def shapeV (q : Pen) : List Ve := if shBad q then fromLeast ((shapesL.take 3).getD (drawN (tabP (shPen q)) 3) []) else shRes q
def shapeP (q : Pen) : Pen := if shBad q then drawP (tabP (shPen q)) 3 else tabP (shPen q)
theorem tabGo_ok : ∀ (n : Nat) (q : Pen) (a b : Ve) (k : Nat), PenOk k q → PenOk (k + n) (tabGo n q a b).2
  | 0, q, a, b, k, h => h
  | n + 1, q, a, b, k, h => (tabGo_ok n _ _ _ (k + 1) h.draw).up (by omega)
theorem tabM_ok {q : Pen} {k : Nat} (h : PenOk k q) : PenOk (k + 4) (tabM q).2 := (tabGo_ok _ _ _ _ (k + 1) h.draw).up (by have := drawN_lt (q := q) (n := 4) (by decide); omega)
theorem tabP_ok {q : Pen} {k : Nat} (h : PenOk k q) : PenOk (k + 6) (tabP q) := (tabM_ok h).draw.draw
theorem shPen_ok {q : Pen} {k : Nat} (h : PenOk k q) : PenOk (k + 2) (shPen q) := h.draw.draw
theorem shapeP_ok {q : Pen} {k : Nat} (h : PenOk k q) : PenOk (k + 9) (shapeP q) := by
  unfold shapeP
  split
  · exact (tabP_ok (shPen_ok h)).draw
  · exact (tabP_ok (shPen_ok h)).up (by omega)
end O26
set_option Elab.async false
set_option linter.all false
set_option maxRecDepth 100000
set_option maxHeartbeats 4000000
namespace O26
open PySem PySem.Spec PyProof.Rows L2
abbrev i2 (a b : Int) : Da := .tup [.int a, .int b]
abbrev i3 (a b c : Int) : Da := .tup [.int a, .int b, .int c]
abbrev v2 (p : Int × Int) : Da := i2 p.1 p.2
abbrev p3 (p : Int × Int × Int) : Da := i3 p.1 p.2.1 p.2.2
section
variable {T : Tb} {S : Os} {K : PySem.W.Frag} {δ δ1 δ2 : List (Option Da)} {te ta tb tc : TE} {x y z d : Da}
def iabs (i : Int) : Int := if i < 0 then -i else i
instance bdAbs {a : Nat} {i : Int} [h : Bd a i] : Bd a (iabs i) := ⟨by
  have := h.out
  unfold iabs
  split
  · rw [Int.natAbs_neg]; exact this
  · exact this⟩
theorem cd_abs {i : Int} : CaD T S (fun xs H Q => ∃ i, xs = [.int i] ∧ Q (.int (if i < 0 then -i else i)) H) [.int i] (.int (iabs i)) := fun F H vs Q s r q => by
  cases r with
  | cons a r => cases a; cases r; exact ⟨i, rfl, q _ F H (Gr.refl s) (.int _)⟩
theorem cd_max2 {i j : Int} : CaD T S (fun xs H Q => ∃ i j, xs = [.int i, .int j] ∧ Q (.int (if j > i then j else i)) H) [.int i, .int j] (.int (if j > i then j else i)) := fun F H vs Q s r q => by
  cases r with
  | cons a r =>
    cases r with
    | cons b r => cases a; cases b; cases r; exact ⟨i, j, rfl, q _ F H (Gr.refl s) (.int _)⟩
theorem cd_min2 {i j : Int} : CaD T S (fun xs H Q => ∃ i j, xs = [.int i, .int j] ∧ Q (.int (if j < i then j else i)) H) [.int i, .int j] (.int (if j < i then j else i)) := fun F H vs Q s r q => by
  cases r with
  | cons a r =>
    cases r with
    | cons b r => cases a; cases b; cases r; exact ⟨i, j, rfl, q _ F H (Gr.refl s) (.int _)⟩
theorem cd_divmod {i j : Int} (hc : CDiv i j) : CaD T S (fun xs H Q => ∃ i j, xs = [.int i, .int j] ∧ CDiv i j ∧ ∀ p, H p = none → Q (.ref p) (upd H p (.tup [.int (i / j), .int (i % j)]))) [.int i, .int j] (i2 (i / j) (i % j)) := fun F H vs Q s r q => by
  cases r with
  | cons a r =>
    cases r with
    | cons b r =>
      cases a; cases b; cases r
      exact ⟨i, j, rfl, hc, fun p hp => q _ _ _ (Gr.newT s hp) (Dr.newT (s.ex.free hp) (.cons (.int _) (.cons (.int _) .nil)))⟩
theorem cd_lenL {l : List Da} : CaD T S (fun xs H Q => ∃ p ys, xs = [.ref p] ∧ (SqL K H p ys ∨ SqT K H p ys) ∧ Q (.int ys.length) H) [.lst l] (.int (l.length : Nat)) := fun F H vs Q s r q => by
  cases r with
  | cons a r =>
    cases a with
    | lst h1 h2 => cases r; exact ⟨_, _, rfl, .inl (SqL.of (s.ex _ _ h1)), by rw [h2.length]; exact q _ F H (Gr.refl s) (.int _)⟩
theorem cd_lenT {l : List Da} : CaD T S (fun xs H Q => ∃ p ys, xs = [.ref p] ∧ (SqL K H p ys ∨ SqT K H p ys) ∧ Q (.int ys.length) H) [.tup l] (.int (l.length : Nat)) := fun F H vs Q s r q => by
  cases r with
  | cons a r =>
    cases a with
    | tup h1 h2 => cases r; exact ⟨_, _, rfl, .inr (SqT.of (s.ex _ _ h1)), by rw [h2.length]; exact q _ F H (Gr.refl s) (.int _)⟩
theorem cd_listL {l : List Da} : CaD T S (fun xs H Q => ∃ p ys, xs = [.ref p] ∧ (SqL K H p ys ∨ SqT K H p ys) ∧ ∀ m, H m = none → Q (.ref m) (upd H m (.lst ys))) [.lst l] (.lst l) := fun F H vs Q s r q => by
  cases r with
  | cons a r =>
    cases a with
    | lst h1 h2 => cases r; exact ⟨_, _, rfl, .inl (SqL.of (s.ex _ _ h1)), fun p hp => q _ _ _ (Gr.newL s hp) (Dr.newL (s.ex.free hp) h2)⟩
theorem cd_all {bs : List Bool} : CaD T S (rAll K) [.lst (bs.map Da.bl)] (.bl (bs.all id)) := fun F H vs Q s r q => by
  cases r with
  | cons a r =>
    cases a with
    | lst h1 h2 =>
      cases r
      have e := DrL.bls h2
      subst e
      exact ⟨_, bs, rfl, SqL.of (s.ex _ _ h1), q _ F H (Gr.refl s) (.bl _)⟩
theorem cd_max {ns : List Int} {m : Int} (h : m ∈ ns ∧ ∀ y ∈ ns, y ≤ m) : CaD T S (rMax K) [.lst (ns.map Da.int)] (.int m) := fun F H vs Q s r q => by
  cases r with
  | cons a r =>
    cases a with
    | lst h1 h2 =>
      cases r
      have e := DrL.ints h2
      subst e
      refine ⟨_, ns, rfl, SqL.of (s.ex _ _ h1), List.length_pos_of_mem h.1, fun n hn hle => ?_⟩
      have e2 : n = m := Int.le_antisymm (h.2 n hn) (hle m h.1)
      rw [e2]
      exact q _ F H (Gr.refl s) (.int _)
theorem cd_min {ns : List Int} {m : Int} (h : m ∈ ns ∧ ∀ y ∈ ns, m ≤ y) : CaD T S (rMin K) [.lst (ns.map Da.int)] (.int m) := fun F H vs Q s r q => by
  cases r with
  | cons a r =>
    cases a with
    | lst h1 h2 =>
      cases r
      have e := DrL.ints h2
      subst e
      refine ⟨_, ns, rfl, SqL.of (s.ex _ _ h1), List.length_pos_of_mem h.1, fun n hn hle => ?_⟩
      have e2 : n = m := Int.le_antisymm (hle m h.1) (h.2 n hn)
      rw [e2]
      exact q _ F H (Gr.refl s) (.int _)
/-! isinstance -/
theorem ev_isiI {b : Bool} {n : String} {i : Int} (ha : EvD T S ta δ (.int i)) (hk : kitB "int" n = some b) : EvD T S (tCB (rIsi K) (tCons ta (tCons (tC (.ty n)) tNil))) δ (.bl b) := fun F H σ Q s e q =>
  ha F H σ _ s e fun v F1 H1 g1 r1 => by
    cases r1
    exact ⟨_, _, _, _, b, rfl, .ty n, .base (.int i), kit_ty hk, q _ F1 H1 g1 (.bl b)⟩
theorem ev_isiT {b : Bool} {n : String} {l : List Da} (ha : EvD T S ta δ (.tup l)) (hk : kitB "tuple" n = some b) : EvD T S (tCB (rIsi K) (tCons ta (tCons (tC (.ty n)) tNil))) δ (.bl b) := fun F H σ Q s e q =>
  ha F H σ _ s e fun v F1 H1 g1 r1 => by
    cases r1 with
    | tup h1 h2 => exact ⟨_, _, _, _, b, rfl, .ty n, .base (.tup (g1.sg.ex _ _ h1)), kit_ty hk, q _ F1 H1 g1 (.bl b)⟩
theorem ev_isiLT {l : List Da} (ha : EvD T S ta δ (.lst l)) : EvD T S (tCB (rIsiT K) (tCons ta (tCons (tTup (tCons (tC (.ty "list")) (tCons (tC (.ty "tuple")) tNil))) tNil))) δ (.bl true) := fun F H σ Q s e q =>
  ha F H σ _ s e fun v F1 H1 g1 r1 => by
    cases r1 with
    | lst h1 h2 =>
      refine ⟨by show 2 ≤ sizeLine; rw [sizeLine_eq]; omega, fun p hp => ?_⟩
      have g2 := Gr.newT (xs := [.ty "list", .ty "tuple"]) g1.sg hp
      refine ⟨_, p, _, _, _, true, rfl, upd_same, .cons (.ty _) (.cons (.ty _) .nil), .base (.lst (g2.hh _ _ (g1.sg.ex _ _ h1) fun _ z => by cases z)), kitAny_cons (b := true) (kit_ty (by decide +kernel)) (fun z => by cases z) (fun _ => rfl), q _ _ _ (g1.trans g2) (.bl true)⟩
theorem ev_isiI_int {i : Int} (ha : EvD T S ta δ (.int i)) : EvD T S (tCB (rIsi K) (tCons ta (tCons (tC (.ty "int")) tNil))) δ (.bl true) := ev_isiI ha (by decide +kernel)
theorem ev_isiI_bool {i : Int} (ha : EvD T S ta δ (.int i)) : EvD T S (tCB (rIsi K) (tCons ta (tCons (tC (.ty "bool")) tNil))) δ (.bl false) := ev_isiI ha (by decide +kernel)
theorem ev_isiT_tuple {l : List Da} (ha : EvD T S ta δ (.tup l)) : EvD T S (tCB (rIsi K) (tCons ta (tCons (tC (.ty "tuple")) tNil))) δ (.bl true) := ev_isiT ha (by decide +kernel)
/-! x in a list, a tuple, of flat things -/
def Da.flat : Da → Bool
  | .non => true | .bl _ => true | .int _ => true | .str _ => true
  | _ => false
def eqDa : Da → Da → Bool
  | .non, .non => true
  | .int a, .int b => a == b
  | .bl a, .bl b => a == b
  | .str a, .str b => a == b
  | .bl a, .int b => (if a then 1 else 0) == b
  | .int a, .bl b => a == (if b then 1 else 0)
  | _, _ => false
theorem Dr.flat {F : Hp} {v : V} (r : Dr F v x) (h : x.flat = true) : flatV v = true := by cases r <;> first | rfl | cases h
theorem Dr.eqV {F : Hp} {v u : V} (r : Dr F v x) (q : Dr F u y) (h : x.flat = true) (h' : y.flat = true) : eqV v u = eqDa x y := by
  cases r <;> cases q <;> first | rfl | cases h | cases h'
theorem DrL.flat {F : Hp} : ∀ {vs : List V} {l : List Da}, DrL F vs l → l.all Da.flat = true → vs.all flatV = true
  | _, _, .nil, _ => rfl
  | _, _, .cons a r, h => by
    rw [List.all_cons, Bool.and_eq_true] at h ⊢
    exact ⟨a.flat h.1, DrL.flat r h.2⟩
theorem DrL.inV {F : Hp} {u : V} (q : Dr F u y) (h' : y.flat = true) : ∀ {vs : List V} {l : List Da}, DrL F vs l → l.all Da.flat = true → inV u vs = l.any fun z => eqDa z y
  | _, _, .nil, _ => rfl
  | _, _, .cons a r, h => by
    rw [List.all_cons, Bool.and_eq_true] at h
    have e := DrL.inV q h' r h.2
    show (L2.eqV _ u || L2.inV u _) = _
    rw [List.any_cons, a.eqV q h.1 h', e]
theorem ev_in {l : List Da} (ha : EvD T S ta δ x) (hb : EvD T S tb δ (.tup l)) (hf : x.flat = true ∧ l.all Da.flat = true) : EvD T S (tOp (rIn K false) ta tb) δ (.bl (l.any fun z => eqDa z x)) := ev_op ha hb fun F H v u Q s a b q => by
  cases b with
  | tup h1 h2 =>
    refine ⟨_, _, rfl, .inr (SqT.of (s.ex _ _ h1)), a.flat hf.1, h2.flat hf.2, ?_⟩
    rw [if_neg Bool.false_ne_true, h2.inV a hf.1 hf.2]
    exact q _ F H (Gr.refl s) (.bl _)
theorem ev_index {ns : List Int} {i : Int} {j : Nat} (ha : EvD T S ta δ (.lst (ns.map Da.int))) (hb : EvD T S tb δ (.int i)) (h : ns[j]? = some i ∧ ∀ m, m < j → ns[m]? ≠ some i) : EvD T S (tBM K "list" (rIndex K) ta (tCons tb tNil)) δ (.int (j : Nat)) :=
  ev_bm ha (ea_cons hb ea_nil) (fun F H v s r => by
    cases r with
    | lst h1 h2 => exact .inl ⟨rfl, _, SqL.of (s.ex _ _ h1)⟩) fun F H v vs Q s r rs q => by
    cases rs with
    | cons b rs =>
      cases b; cases rs
      cases r with
      | lst h1 h2 =>
        have e := DrL.ints h2
        subst e
        refine ⟨_, _, .int i, j, .int i, rfl, rfl, SqL.of (s.ex _ _ h1), rfl, ?_, ?_, ?_, ?_, q _ F H (Gr.refl s) (.int _)⟩
        · rw [List.all_map]
          exact List.all_eq_true.mpr fun _ _ => rfl
        · rw [List.getElem?_map, h.1]
          rfl
        · exact (beq_iff_eq (a := i) (b := i)).mpr rfl
        · intro m z hm hz
          rw [List.getElem?_map] at hz
          cases e : ns[m]? with
          | none => rw [e] at hz; cases hz
          | some k =>
            rw [e] at hz
            cases hz
            refine beq_eq_false_iff_ne.mpr fun z => ?_
            exact h.2 m hm (by rw [e, z])
theorem ev_rev {l : List Da} (ha : EvD T S ta δ (.lst l)) : EvD T S (tRevL K ta) δ (.lst l.reverse) := fun F H σ Q s e q =>
  ha F H σ _ s e fun v F1 H1 g1 r1 => by
    cases r1 with
    | lst h1 h2 =>
      refine ⟨_, _, rfl, SqL.of (g1.sg.ex _ _ h1), fun p hp => q (.ref p) _ _ (g1.trans (Gr.newL g1.sg hp)) (Dr.newL (g1.sg.ex.free hp) ?_)⟩
      have rv : ∀ {vs : List V} {ds : List Da}, DrL F1 vs ds → DrL F1 vs.reverse ds.reverse := by
        intro vs
        induction vs with
        | nil => intro ds r; cases r; exact .nil
        | cons a vs ih =>
          intro ds r
          cases r with
          | cons ra rr => rw [List.reverse_cons, List.reverse_cons]; exact (ih rr).append (.cons ra .nil)
      exact rv h2
end
end O26
set_option Elab.async false
set_option linter.all false
set_option maxRecDepth 100000
set_option maxHeartbeats 4000000
namespace O26
open PySem PySem.Spec PyProof.Rows L2
/-! len(o), o with its own __len__ -/
section
variable {X : Cx} {k j : Nat} {C : Addr} {sp : Sp}
def rLenO (C : Addr) (sp : Sp) : List V → Hp → VK → Prop := fun xs H Q => ∃ a dx fs, xs = [V.ref a] ∧ H a = some (.ins C dx fs) ∧ sp [.ref a] H (fun v H2 => ∃ n : Int, v = .int n ∧ 0 ≤ n ∧ n < 2 ^ 63 ∧ Q (.int n) H2) C8.E0
theorem call_lenO (c : C8.Met X.prog X.w X.K X.mg X.base k C "__len__" sp []) (hr : Room j X.A) (hk : k + 1 ≤ j) : CallR X (.builtin "len") (rLenO C sp) := by
  intro pins s σ H xs us Q I r h
  obtain ⟨a, dx, fs, rfl, ha, hsp⟩ := h
  obtain ⟨u, rfl, ru⟩ := vals1 r
  cases ru
  obtain ⟨f, fd, ps, ds, hc, hm, F, b, d⟩ := c.ex
  cases d
  obtain ⟨m, Fm⟩ := I.fr
  obtain ⟨mA, O, _⟩ := ins_get I.hok ha
  obtain ⟨od, J, _⟩ := O.look
  refine PySem.W.len_K Fm I.mod.kin J hm.at_ hm.fn ?_
  have e0 : Env0 X.prog X.w X.K X.mg X.base X.A.in1 X.stack s H := I.env0.in1
  have hl : ([V.ref a] : List V).length = ps.length := F.len _ _ _ _ hsp
  refine wpAny_call (codeAny_mono (F.run X.A.in1 X.stack s H ⟨[.ref a], []⟩ [.ref a] [.ref a] _ _ (Room.in1 (hr.mono hk)) e0 ?_ (.cons rfl .nil) hsp) fun r s' hq => ?_)
  · have z := b s [.ref a] I.kIn (by simpa using hl)
    rw [List.append_nil] at z
    exact z
  · cases r with
    | error e => exact (show False from hq).elim
    | ok fl =>
      cases fl with
      | ret u =>
        obtain ⟨v, H', I', rv, n, rfl, h0, h1, q⟩ := I.after hq
        obtain ⟨t, rfl⟩ := rv
        exact ⟨⟨h0, h1⟩, .int n, H', I'.tok _, ⟨_, rfl⟩, q⟩
      | next => exact False.elim hq
      | brk => exact False.elim hq
      | cont => exact False.elim hq
end
theorem ev_lenO {T : Tb} {S : Os} {δ : List (Option Da)} {ta : TE} {C : Addr} {fs : List (Str × Da)} {R : List Da → Da → Prop} {n : Int} (ha : EvD T S ta δ (.ins C fs)) (hR : R [.ins C fs] (.int n)) (hn : 0 ≤ n ∧ n < 2 ^ 63) : EvD T S (tCB (rLenO C (Prm T R)) (tCons ta tNil)) δ (.int n) := fun F H σ Q s e q =>
  ha F H σ _ s e fun v F1 H1 g1 r1 => by
    cases r1 with
    | ins h1 h2 =>
      refine ⟨_, _, _, rfl, g1.sg.ex _ _ h1, F1, [.ins C fs], .int n, g1.sg.bare, .cons (.ins h1 h2) .nil, hR, fun v F2 H2 g2 r2 => ?_⟩
      cases r2
      exact ⟨n, rfl, hn.1, hn.2, q _ F2 H2 (g1.trans (g2.with g1.sg)) (.int n)⟩
end O26
set_option Elab.async false
set_option linter.all false
set_option maxRecDepth 100000
set_option maxHeartbeats 4000000
namespace O26
open PySem PySem.Spec PyProof.Rows L2
section
variable {T : Tb} {S S1 : Os} {K : PySem.W.Frag} {δ δ1 δ2 : List (Option Da)} {te ta tb tc : TE} {tt : TT} {x y z d : Da} {o : Out} {ts tu : TS}
theorem dr_fn {F : Hp} {v : V} {a : Addr} (r : Dr F v (.fn a)) : v = .ref a := by cases r; rfl
/-- name = [], the list kept as one's own: the rest is shown for every place -/
theorem sd_mineL {i : Nat} (k : ∀ p, SD T ((p, .lst []) :: S) ts (δ.set i (some (.fn p))) o) : SD T S (tSeq (tAsg (tLst tNil) (gName i)) ts) δ o := fun F H σ D s e q =>
  ⟨Nat.zero_le _, fun p hp => by
    have g := GrS.mine (c := .lst []) s hp ⟨[], rfl, .nil⟩
    exact k p F _ _ D g.sg (e.set (.fn p) i) fun F2 H2 => OutQ.step g (q F2 H2)⟩
/-- xs.append(e) -/
theorem sd_app {p : Addr} {l : List Da} (ha : EvD T S ta δ (.fn p)) (he : EvD T S te δ d) (hS : S.lookup p = some (.lst l)) (hl : l.length ≤ 1000) : SD T S (tDrop (tBM K "list" rAppend ta (tCons te tNil))) δ (.nx δ ((p, .lst (l ++ [d])) :: S)) := fun F H σ D s e q =>
  ha F H σ _ s e fun v F1 H1 g1 r1 => by
    obtain rfl := dr_fn r1
    obtain ⟨o1, h1, h2, xs, rfl, h3⟩ := g1.sg.own p _ hS
    refine ⟨.inl ⟨rfl, xs, SqL.of h1⟩, ?_⟩
    refine he F1 H1 σ _ g1.sg (e.mono g1.ff) fun u F2 H2 g2 r2 => ?_
    obtain ⟨o2, k1, k2, ys, rfl, k3⟩ := g2.sg.own p _ hS
    refine ⟨p, ys, u, rfl, rfl, k1, by rw [k3.length]; exact small1000 hl, ?_⟩
    have g3 := GrS.write (c := .lst (l ++ [d])) g2.sg hS ⟨ys ++ [u], rfl, k3.append (.cons r2 .nil)⟩
    exact q F2 _ (((g1.trans g2).s).trans g3) σ ((e.mono g1.ff).mono g2.ff)
/-- xs.append(e) where e makes or changes what is one's own goes by its own rule; xs.extend(ys), ys fixed -/
theorem sd_ext {p : Addr} {l m : List Da} (ha : EvD T S ta δ (.fn p)) (he : EvD T S te δ (.lst m)) (hS : S.lookup p = some (.lst l)) (hl : l.length + m.length ≤ 1000) : SD T S (tDrop (tBM K "list" rExtend ta (tCons te tNil))) δ (.nx δ ((p, .lst (l ++ m)) :: S)) := fun F H σ D s e q =>
  ha F H σ _ s e fun v F1 H1 g1 r1 => by
    obtain rfl := dr_fn r1
    obtain ⟨o1, h1, h2, xs, rfl, h3⟩ := g1.sg.own p _ hS
    refine ⟨.inl ⟨rfl, xs, SqL.of h1⟩, ?_⟩
    refine he F1 H1 σ _ g1.sg (e.mono g1.ff) fun u F2 H2 g2 r2 => ?_
    obtain ⟨o2, k1, k2, ys, rfl, k3⟩ := g2.sg.own p _ hS
    cases r2 with
    | lst j1 j2 =>
      refine ⟨p, _, ys, _, rfl, rfl, k1, g2.sg.ex _ _ j1, by rw [k3.length, j2.length]; exact Nat.le_of_lt (small1000 hl), ?_⟩
      have g3 := GrS.write (c := .lst (l ++ m)) g2.sg hS ⟨_, rfl, k3.append j2⟩
      exact q F2 _ (((g1.trans g2).s).trans g3) σ ((e.mono g1.ff).mono g2.ff)
/-- return of a list of one's own: fixed, or still one's own -/
theorem sd_retL {p : Addr} {l : List Da} (ha : EvD T S ta δ (.fn p)) (hS : S.lookup p = some (.lst l)) : SD T S (tRet ta) δ (.ret (.lst l)) := fun F H σ D s e q =>
  ha F H σ _ s e fun v F1 H1 g1 r1 => by
    obtain rfl := dr_fn r1
    obtain ⟨o1, h1, h2, xs, rfl, h3⟩ := g1.sg.own p _ hS
    have g3 := GrS.publish g1.sg hS h1
    exact q _ H1 ((g1.s.trans g3).drop) (.ref p) (.lst upd_same (h3.mono (same_pub h2)))
theorem sd_retO {p : Addr} (ha : EvD T S ta δ (.fn p)) : SD T S (tRet ta) δ (.retO p S) := fun F H σ D s e q =>
  ha F H σ _ s e fun v F1 H1 g1 r1 => by
    obtain rfl := dr_fn r1
    exact q F1 H1 g1.s
/-- what is read of a list of one's own is an int, a test: as if it were fixed -/
def unown (S : Os) (p : Addr) : Os := S.filter fun x => x.1 != p
theorem view_core {p : Addr} {c : Oc} {F H : Hp} (s : Sg T S F H) (hS : S.lookup p = some c) : ∃ o, H p = some o ∧ F p = none ∧ OcR F o c ∧ Sg T (unown S p) (upd F p o) H ∧
    ∀ F1 H1, Gr T (unown S p) (upd F p o) H F1 H1 → Gr T S F H (fun a => if a = p then none else F1 a) H1 := by
  obtain ⟨o, h1, h2, h3⟩ := s.own p c hS
  have g := GrS.publish s hS h1
  refine ⟨o, h1, h2, h3, g.sg, fun F1 H1 k => ?_⟩
  have ff : Same F (fun a => if a = p then none else F1 a) := fun b u e => by
    show (if b = p then none else F1 b) = some u
    rw [if_neg (ne_of_none e h2)]
    exact k.ff b u (same_pub h2 b u e)
  have hp1 : H1 p = some o := k.hh p o h1 h3.nt.1
  refine ⟨k.hh, ff, ⟨fun b u e => ?_, k.sg.tab, fun a ps e => ?_, fun r c' e => ?_⟩, fun a u e t n => ?_⟩
  · by_cases hb : b = p
    · simp [hb] at e
    · simp only [hb, if_false] at e; exact k.sg.ex b u e
  · by_cases hb : a = p
    · simp [hb] at e
    · simp only [hb, if_false] at e; exact k.sg.nt a ps e
  · by_cases hr : r = p
    · subst hr
      rw [hS] at e; cases e
      exact ⟨o, hp1, by simp, h3.mono ff⟩
    · obtain ⟨u, e1, e2, e3⟩ := s.own r c' e
      have f1 : (upd F p o) r = none := by rw [upd_ne hr]; exact e2
      refine ⟨u, k.hh r u e1 e3.nt.1, ?_, e3.mono ff⟩
      simp only [hr, if_false]
      exact k.ow r u e1 e3.nt.1 f1
  · by_cases hb : a = p
    · simp [hb]
    · simp only [hb, if_false]
      exact k.ow a u e t (by rw [upd_ne hb]; exact n)
theorem EnvR.view {F : Hp} {p : Addr} {o : HO} {c : Da} : ∀ {σ : L2.St} {δ : List (Option Da)} {i : Nat}, EnvR F σ δ → δ[i]? = some (some (.fn p)) → Dr F (.ref p) c → EnvR F σ (δ.set i (some c))
  | _, _, 0, .cons a r, e, h => by
    have e' : some _ = some _ := e
    cases e'
    cases a
    exact .cons h r
  | _, _, i + 1, .cons a r, e, h => .cons a (EnvR.view (o := o) r e h)
  | _, _, i + 1, .skip r, e, h => .skip (EnvR.view (o := o) r e h)
theorem ev_viewL {p : Addr} {l : List Da} {i : Nat} {n : Int} (hS : S.lookup p = some (.lst l)) (hi : δ[i]? = some (some (.fn p))) (h : EvD T (unown S p) te (δ.set i (some (.lst l))) (.int n)) : EvD T S te δ (.int n) := fun F H σ Q s e q => by
  obtain ⟨o, h1, h2, ⟨xs, rfl, h3⟩, g, k⟩ := view_core s hS
  refine h _ H σ Q g ((e.mono (same_pub h2)).view (o := .lst xs) hi (.lst upd_same (h3.mono (same_pub h2)))) fun v F1 H1 g1 r1 => ?_
  cases r1
  exact q _ _ H1 (k F1 H1 g1) (.int n)
theorem et_viewL {p : Addr} {l : List Da} {i : Nat} {b : Bool} (hS : S.lookup p = some (.lst l)) (hi : δ[i]? = some (some (.fn p))) (h : EvT T (unown S p) tt (δ.set i (some (.lst l))) b) : EvT T S tt δ b := fun F H σ Q s e q => by
  obtain ⟨o, h1, h2, ⟨xs, rfl, h3⟩, g, k⟩ := view_core s hS
  exact h _ H σ Q g ((e.mono (same_pub h2)).view (o := .lst xs) hi (.lst upd_same (h3.mono (same_pub h2)))) fun F1 H1 g1 => q _ H1 (k F1 H1 g1)
/-- a list of one's own, from now on fixed -/
theorem sd_fixL {p : Addr} {l : List Da} {i : Nat} (hS : S.lookup p = some (.lst l)) (hi : δ[i]? = some (some (.fn p))) (h : SD T (unown S p) ts (δ.set i (some (.lst l))) o) : SD T S ts δ o := fun F H σ D s e q => by
  obtain ⟨o', h1, h2, ⟨xs, rfl, h3⟩⟩ := s.own p _ hS
  have g := GrS.publish s hS h1
  exact h _ H σ D g.sg ((e.mono (same_pub h2)).view (o := .lst xs) hi (.lst upd_same (h3.mono (same_pub h2)))) fun F2 H2 => OutQ.step g (q F2 H2)
end
/-! a def that hands back a new list -/
section
variable (T : Tb)
def PrmL (R : List Da → List Da → Prop) : Sp := fun vs H Q _ => ∃ (F : Hp) (ds l : List Da), Sg T [] F H ∧ DrL F vs ds ∧ R ds l ∧ ∀ p F' H', GrS T [] F H [(p, .lst l)] F' H' → Q (.ref p) H'
end
section
variable {T : Tb} {S S1 : Os} {K : PySem.W.Frag} {δ δ1 δ2 : List (Option Da)} {te ta tb tc : TE} {o : Out} {ts tu : TS}
theorem GrS.with {F H F1 H1 : Hp} {S' : Os} (g : GrS T [] F H S' F1 H1) (s : Sg T S F H) : GrS T S F H (S' ++ S) F1 H1 := by
  have no : ∀ p c, S'.lookup p = some c → ¬ NT H p := fun p c e => g.ny p c e rfl
  have lk : ∀ p, (S' ++ S).lookup p = (S'.lookup p).or (S.lookup p) := fun p => List.lookup_append
  refine ⟨fun b u e _ t => g.hh b u e rfl t, g.ff, ⟨g.sg.ex, g.sg.tab, g.sg.nt, fun p c e => ?_⟩, fun a u e _ t n => g.ow a u e rfl t n, fun p c e n => ?_, g.th⟩
  · rw [lk] at e
    cases e1 : S'.lookup p with
    | some c' => rw [e1] at e; cases e; exact g.sg.own p _ e1
    | none =>
      rw [e1] at e
      obtain ⟨o1, h1, h2, h3⟩ := s.own p c e
      exact ⟨o1, g.hh p o1 h1 rfl h3.nt.1, g.ow p o1 h1 rfl h3.nt.1 h2, h3.mono g.ff⟩
  · rw [lk] at e
    cases e1 : S'.lookup p with
    | some c' => exact no p c' e1
    | none => rw [e1, n] at e; cases e
/-- name = f(..), f hands back a new list, kept as one's own -/
theorem sd_callL {R : List Da → List Da → Prop} {E : XK} {i : Nat} {tz : TA} {ds l : List Da} (h : EvA T S tz δ ds) (hR : R ds l) (k : ∀ p, SD T ((p, .lst l) :: S) ts (δ.set i (some (.fn p))) o) : SD T S (tSeq (tAsg (tCall (PrmL T R) [] E tz) (gName i)) ts) δ o := fun F H σ D s e q =>
  h F H σ _ s e fun vs F1 H1 g1 r1 => ⟨F1, ds, l, g1.sg.bare, by rw [List.append_nil]; exact r1, hR, fun p F2 H2 g2 => by
    have g3 := g1.s.trans (g2.with g1.sg)
    exact k p F2 H2 _ D g3.sg ((e.mono g3.ff).set (.fn p) i) fun F4 H4 => OutQ.step g3 (q F4 H4)⟩
/-- the body hands back a new list -/
def SDl (T : Tb) (ts : TS) (δ : List (Option Da)) (l : List Da) : Prop := ∀ (F H : Hp) (σ : L2.St) (D : Ends), Sg T [] F H → EnvR F σ δ → (∀ p F' H', GrS T [] F H [(p, .lst l)] F' H' → D.rt (.ref p) H') → ts D σ H
/-- as an argument: fixed -/
theorem ev_callL {R : List Da → List Da → Prop} {E : XK} {tz : TA} {ds l : List Da} (h : EvA T S tz δ ds) (hR : R ds l) : EvD T S (tCall (PrmL T R) [] E tz) δ (.lst l) := fun F H σ Q s e q =>
  h F H σ _ s e fun vs F1 H1 g1 r1 => ⟨F1, ds, l, g1.sg.bare, by rw [List.append_nil]; exact r1, hR, fun p F2 H2 g2 => by
    obtain ⟨o2, h1, h2, xs, rfl, h3⟩ := g2.sg.own p _ (by rw [lookup_put, if_pos rfl])
    have g3 := GrS.publish g2.sg (c := .lst l) (by rw [lookup_put, if_pos rfl]) h1
    have g4 : GrS T [] F1 H1 [] (upd F2 p (.lst xs)) H2 := (g2.trans g3).drop
    exact q (.ref p) _ H2 (g1.trans (g4.gr.with g1.sg)) (.lst upd_same (h3.mono (same_pub h2)))⟩
end
section
variable {P : Program} {w : World} {K : PySem.W.Frag} {mg : Str → Option Value} {base : Heap} {T : Tb}
theorem fn_list {x qual : Str} {params : Arguments} {body : List Stmt} {scope : Scope} {dvs : List V} {kws : List (Str × V)} {f : Addr} {fd : FuncData} {N ps : List Str} {k : Nat} {R : List Da → List Da → Prop}
    (F : FunD K x qual params body scope dvs kws f fd) (S : FnScope N ps scope) (hl : ∀ ds d, R ds d → ds.length = ps.length)
    (hb : ∀ (cdv : Value) (A : Around) (outer : List Env) (s : Shared) (H : Hp) (E : XK), Room k (A.deeper (envOfC qual scope s.heap.objs.size f cdv)) →
      ∃ t, PSs (cxOf C8.CX0 P w K mg base N qual scope f cdv A outer s H E).nox body t ∧ ∀ ds l, R ds l → SDl T t (startD N.length ds) l) : FnOk P w K mg base C8.CX0 (k + 1) f fd ps (PrmL T R) :=
  F.ok S (fun vs H Q E ⟨F, ds, l, s, r, hR, _⟩ => r.length.trans (hl ds l hR)) fun cdv A outer s H vs Q E hr ⟨F, ds, l, sg, r, hR, q⟩ => by
    obtain ⟨t, ht, hs⟩ := hb cdv A outer s H E hr
    refine ⟨t, ht.nox, ?_⟩
    exact hs ds l hR F H _ { nx := fun _ H' => Q .non H', rt := Q } sg (EnvR.start r) fun p F' H' g => q p F' H' g
end
end O26
set_option Elab.async false
set_option linter.all false
set_option maxRecDepth 100000
set_option maxHeartbeats 4000000
namespace O26
open PySem PySem.Spec PyProof.Rows L2
theorem lk0 {S : Os} {p : Addr} {c : Oc} : List.lookup p ((p, c) :: S) = some c := by rw [lookup_put, if_pos rfl]
theorem lk1 {S : Os} {p q : Addr} {c c' : Oc} (h : p ≠ q) (e : List.lookup p S = some c') : List.lookup p ((q, c) :: S) = some c' := by rw [lookup_put, if_neg h]; exact e
/-! fields of an instance of one's own -/
theorem DrF.put {F : Hp} {f : Str} {v : V} {d : Da} (r : Dr F v d) : ∀ {fs : List (Str × V)} {ds : List (Str × Da)}, DrF F fs ds → ds.lookup f = none → DrF F (putF f v fs) (ds ++ [(f, d)])
  | _, _, .nil, _ => .cons r .nil
  | (g, u) :: fs, (_, e) :: ds, .cons a t, h => by
    rw [List.lookup_cons] at h
    cases q : f == g with
    | true => rw [q] at h; cases h
    | false =>
      rw [q] at h
      have n : ¬ g = f := fun z => by rw [z] at q; simp at q
      show DrF F (if g = f then (g, v) :: fs else (g, u) :: putF f v fs) _
      rw [if_neg n]
      exact .cons a (DrF.put r t h)
theorem DrF.rep {F : Hp} {f : Str} {v : V} {d d0 : Da} (r : Dr F v d) {ds2 : List (Str × Da)} : ∀ {fs : List (Str × V)} {ds1 : List (Str × Da)}, DrF F fs (ds1 ++ (f, d0) :: ds2) → ds1.lookup f = none → DrF F (putF f v fs) (ds1 ++ (f, d) :: ds2)
  | _, [], .cons a t, _ => by
    rename_i fs0 _
    show DrF F (if f = f then (f, v) :: fs0 else _) _
    rw [if_pos rfl]
    exact .cons r t
  | (g, u) :: fs, (_, e) :: ds, .cons a t, h => by
    rw [List.lookup_cons] at h
    cases q : f == g with
    | true => rw [q] at h; cases h
    | false =>
      rw [q] at h
      have n : ¬ g = f := fun z => by rw [z] at q; simp at q
      show DrF F (if g = f then (g, v) :: fs else (g, u) :: putF f v fs) _
      rw [if_neg n]
      exact .cons a (DrF.rep r t h)
theorem DrF.length {F : Hp} : ∀ {fs : List (Str × V)} {ds : List (Str × Da)}, DrF F fs ds → fs.length = ds.length
  | _, _, .nil => rfl
  | _, _, .cons _ r => by rw [List.length_cons, List.length_cons, DrF.length r]
section
variable {T : Tb} {S S1 : Os} {K : PySem.W.Frag} {δ δ1 δ2 : List (Option Da)} {te ta tb tv : TE} {tt : TT} {x y z d d0 : Da} {o : Out} {ts tu : TS} {C : Addr} {f : Str} {p : Addr} {fs fs1 fs2 : List (Str × Da)}
theorem sd_fldN (hv : EvD T S tv δ d) (ha : EvD T S ta δ (.fn p)) (hS : S.lookup p = some (.ins C fs)) (hc : Cls K C) (hn : NoAttr K C f) (hf : fs.lookup f = none := by first | rfl | kernel_rfl) (hl : fs.length < 1000 := by exact Nat.le_of_ble_eq_true rfl) : SD T S (sFld K ta tv f) δ (.nx δ ((p, .ins C (fs ++ [(f, d)])) :: S)) := fun F H σ D s e q =>
  hv F H σ _ s e fun v F1 H1 g1 r1 => ha F1 H1 σ _ g1.sg (e.mono g1.ff) fun u F2 H2 g2 r2 => by
    obtain rfl := dr_fn r2
    obtain ⟨o2, k1, k2, dx, vs, rfl, k3⟩ := g2.sg.own p _ hS
    refine ⟨p, C, dx, vs, rfl, k1, hc, hn, by rw [k3.length]; exact hl, ?_⟩
    have g3 := GrS.write (c := .ins C (fs ++ [(f, d)])) g2.sg hS ⟨dx, _, rfl, k3.put (r1.mono g2.ff) hf⟩
    exact q F2 _ (((g1.trans g2).s).trans g3) σ ((e.mono g1.ff).mono g2.ff)
theorem sd_fldR (hv : EvD T S tv δ d) (ha : EvD T S ta δ (.fn p)) (hS : S.lookup p = some (.ins C (fs1 ++ (f, d0) :: fs2))) (hc : Cls K C) (hn : NoAttr K C f) (hf : fs1.lookup f = none := by first | rfl | kernel_rfl) (hl : (fs1 ++ (f, d0) :: fs2).length < 1000 := by exact Nat.le_of_ble_eq_true rfl) : SD T S (sFld K ta tv f) δ (.nx δ ((p, .ins C (fs1 ++ (f, d) :: fs2)) :: S)) := fun F H σ D s e q =>
  hv F H σ _ s e fun v F1 H1 g1 r1 => ha F1 H1 σ _ g1.sg (e.mono g1.ff) fun u F2 H2 g2 r2 => by
    obtain rfl := dr_fn r2
    obtain ⟨o2, k1, k2, dx, vs, rfl, k3⟩ := g2.sg.own p _ hS
    refine ⟨p, C, dx, vs, rfl, k1, hc, hn, by rw [k3.length]; exact hl, ?_⟩
    have g3 := GrS.write (c := .ins C (fs1 ++ (f, d) :: fs2)) g2.sg hS ⟨dx, _, rfl, k3.rep (r1.mono g2.ff) hf⟩
    exact q F2 _ (((g1.trans g2).s).trans g3) σ ((e.mono g1.ff).mono g2.ff)
/-- self.f = [], the list one's own -/
theorem sd_fldL (ha : EvD T S ta δ (.fn p)) (hS : S.lookup p = some (.ins C fs)) (hc : Cls K C) (hn : NoAttr K C f) (k : ∀ r, r ≠ p → S.lookup r = none → SD T ((p, .ins C (fs ++ [(f, .fn r)])) :: (r, .lst []) :: S) ts δ o) (hf : fs.lookup f = none := by first | rfl | kernel_rfl) (hl : fs.length < 1000 := by exact Nat.le_of_ble_eq_true rfl) : SD T S (tSeq (sFld K ta (tLst tNil) f) ts) δ o := fun F H σ D s e q =>
  ⟨Nat.zero_le _, fun r hr => by
    have g1 := GrS.mine (c := .lst []) s hr ⟨[], rfl, .nil⟩
    obtain ⟨o0, j1, _⟩ := s.own p _ hS
    have nr : p ≠ r := ne_of_none j1 hr
    have nS : S.lookup r = none := by
      cases e1 : S.lookup r with
      | none => rfl
      | some c1 => obtain ⟨o1, z1, _⟩ := s.own r c1 e1; rw [hr] at z1; cases z1
    have hS1 : List.lookup p ((r, .lst []) :: S) = some (.ins C fs) := lk1 nr hS
    refine ha F _ σ _ (g1.sg.weak fun a c h => ?_) e fun u F2 H2 g2 r2 => ?_
    · exact lk1 (fun z => by rw [z, nS] at h; cases h) h
    obtain rfl := dr_fn r2
    have g2' := g2.with g1.sg
    obtain ⟨o2, k1, k2, dx, vs, rfl, k3⟩ := g2'.sg.own p _ hS1
    refine ⟨p, C, dx, vs, rfl, k1, hc, hn, by rw [k3.length]; exact hl, ?_⟩
    have g3 := GrS.write (c := .ins C (fs ++ [(f, .fn r)])) g2'.sg hS1 ⟨dx, _, rfl, k3.put (.fn r) hf⟩
    have g4 := (g1.trans g2'.s).trans g3
    exact k r nr.symm nS F2 _ σ D g4.sg (e.mono g2.ff) fun F5 H5 => OutQ.step g4 (q F5 H5)⟩
/-- e.f of an instance of one's own -/
theorem ev_fldO (ho : EvD T S ta δ (.fn p)) (hS : S.lookup p = some (.ins C fs)) (hc : Cls K C) (hn : NoAttr K C f) (hl : fs.lookup f = some d) : EvD T S (tFld K ta f) δ d := fun F H σ Q s e q =>
  ho F H σ _ s e fun v F1 H1 g1 r1 => by
    obtain rfl := dr_fn r1
    obtain ⟨o2, k1, k2, dx, vs, rfl, k3⟩ := g1.sg.own p _ hS
    obtain ⟨u, j1, j2⟩ := (k3.look (f := f)).1 d hl
    exact ⟨p, C, dx, vs, u, rfl, k1, hc, hn, j1, q u F1 H1 g1 j2⟩
/-- l == [], l one's own -/
theorem et_eqNil {l : List Da} (ha : EvD T S ta δ (.fn p)) (hS : S.lookup p = some (.lst l)) (h1 : Da.plains l = true) (h2 : SeqAt.shaped (.list (Da.pys l)) = true) : EvT T S (tTest (tOp (rEqD K) ta (tLst tNil))) δ l.isEmpty := fun F H σ Q s e q =>
  ha F H σ _ s e fun v F1 H1 g1 r1 => by
    obtain rfl := dr_fn r1
    refine ⟨Nat.zero_le _, fun r hr => ?_⟩
    have g2 := Gr.newL (xs := []) g1.sg hr
    obtain ⟨o2, k1, k2, xs, rfl, k3⟩ := g2.sg.own p _ hS
    refine ⟨.list (Da.pys l), .list [], .lst (SqL.of k1) ((k3.mono g2.sg.ex).dp h1), .lst (SqL.of upd_same) .nil, h2, rfl, l.isEmpty, ?_, q _ _ (g1.trans g2)⟩
    cases l with
    | nil => rfl
    | cons a l => rfl
theorem lookup_app {A B : Os} {q : Addr} : (A ++ B).lookup q = (A.lookup q).or (B.lookup q) := List.lookup_append
/-- a call that changes some of what is one's own -/
theorem GrS.foot {F H F1 H1 : Hp} {S0 S' : Os} (g : GrS T S0 F H S' F1 H1) (s : Sg T S F H) (h0 : ∀ q c, S0.lookup q = some c → S.lookup q = some c) (h1 : ∀ q c, S0.lookup q = some c → S'.lookup q ≠ none) : GrS T S F H (S' ++ S) F1 H1 := by
  have n0 : ∀ q, S.lookup q = none → S0.lookup q = none := fun q n => by
    cases e : S0.lookup q with
    | none => rfl
    | some c => rw [h0 q c e] at n; cases n
  refine ⟨fun b u e n t => g.hh b u e (n0 b n) t, g.ff, ⟨g.sg.ex, g.sg.tab, g.sg.nt, fun q c e => ?_⟩, fun a u e n t f => g.ow a u e (n0 a n) t f, fun q c e n => ?_, g.th⟩
  · rw [lookup_app] at e
    cases e1 : S'.lookup q with
    | some c' => rw [e1] at e; cases e; exact g.sg.own q _ e1
    | none =>
      rw [e1] at e
      have e : S.lookup q = some c := e
      obtain ⟨o1, k1, k2, k3⟩ := s.own q c e
      have z : S0.lookup q = none := by
        cases e2 : S0.lookup q with
        | none => rfl
        | some c2 => exact absurd e1 (h1 q c2 e2)
      exact ⟨o1, g.hh q o1 k1 z k3.nt.1, g.ow q o1 k1 z k3.nt.1 k2, k3.mono g.ff⟩
  · rw [lookup_app] at e
    cases e1 : S'.lookup q with
    | some c' => exact g.ny q c' e1 (n0 q n)
    | none => rw [e1, n] at e; cases e
end
section
variable (T : Tb)
/-- a def that changes what is the caller's own: S0 is told, S1 is left -/
def PrmS (R : List Da → Os → Os → Da → Prop) : Sp := fun vs H Q _ => ∃ (F : Hp) (ds : List Da) (S0 S1 : Os) (d : Da), Sg T S0 F H ∧ DrL F vs ds ∧ R ds S0 S1 d ∧ ∀ v F' H', GrS T S0 F H S1 F' H' → Dr F' v d → Q v H'
/-- an __init__: the new instance stands at x; it is fixed behind -/
def PrmI (C : Addr) (R : List Da → List (Str × Da) → Prop) : Sp := fun vs H Q _ => ∃ (x : Addr) (us : List V) (F : Hp) (ds : List Da) (fs : List (Str × Da)), vs = .ref x :: us ∧ Sg T [(x, .ins C [])] F H ∧ DrL F us ds ∧ R ds fs ∧
  ∀ F' H', GrS T [(x, .ins C [])] F H [] F' H' → Dr F' (.ref x) (.ins C fs) → Q .non H'
def SDi (C x : Addr) (ts : TS) (δ : List (Option Da)) (fs : List (Str × Da)) : Prop := ∀ (F H : Hp) (σ : L2.St) (D : Ends), Sg T [(x, .ins C [])] F H → EnvR F σ δ →
  (∀ F' H' σ', GrS T [(x, .ins C [])] F H [] F' H' → Dr F' (.ref x) (.ins C fs) → D.nx σ' H') → ts D σ H
def SDo (S0 S1 : Os) (ts : TS) (δ : List (Option Da)) (d : Da) : Prop := ∀ (F H : Hp) (σ : L2.St) (D : Ends), Sg T S0 F H → EnvR F σ δ → (d = .non → ∀ σ' F' H', GrS T S0 F H S1 F' H' → D.nx σ' H') →
  (∀ v F' H', GrS T S0 F H S1 F' H' → Dr F' v d → D.rt v H') → ts D σ H
end
section
variable {T : Tb} {S S1 : Os} {K : PySem.W.Frag} {δ δ1 δ2 : List (Option Da)} {te ta tb tv : TE} {d : Da} {o : Out} {ts tu : TS} {C : Addr} {m : Str} {p : Addr} {fs : List (Str × Da)} {tz : TA} {ds : List Da}
theorem ev_make {R : List Da → List (Str × Da) → Prop} {E : XK} {es : List Da} {dvs : List V} (h : EvA T S tz δ ds) (hd : ∀ F, DrL F dvs es) (hR : R (ds ++ es) fs) : EvD T S (tMake C (PrmI T C R) dvs E tz) δ (.ins C fs) := fun F H σ Q s e q =>
  h F H σ _ s e fun vs F1 H1 g1 r1 => fun x dx hx hdx ne => by
    have nx1 : F1 x = none := g1.sg.ex.free hx
    have hx2 : upd H1 dx (.own x) x = none := by rw [upd_ne (Ne.symm ne)]; exact hx
    have s2 : Sg T [(x, .ins C [])] F1 (upd (upd H1 dx (.own x)) x (.ins C dx [])) := ⟨fun b u z => by rw [upd_ne (ne_of_none z nx1), upd_ne (ne_of_none z (g1.sg.ex.free hdx))]; exact g1.sg.ex b u z, tabs_free (tabs_free g1.sg.tab hdx) hx2, g1.sg.nt, fun r c z => by
      rw [lookup_put] at z
      by_cases hr : r = x
      · rw [if_pos hr] at z; cases z; subst hr
        exact ⟨_, upd_same, nx1, dx, [], rfl, .nil⟩
      · rw [if_neg hr] at z; cases z⟩
    refine ⟨x, vs ++ dvs, F1, ds ++ es, fs, rfl, s2, r1.append (hd _), hR, fun F2 H2 g2 r2 => ⟨rfl, ?_⟩⟩
    have old : ∀ b u, H1 b = some u → upd (upd H1 dx (.own x)) x (.ins C dx []) b = some u := fun b u z => by rw [upd_ne (ne_of_none z hx), upd_ne (ne_of_none z hdx)]; exact z
    have nl : ∀ b u, H1 b = some u → List.lookup b [(x, Oc.ins C [])] = none := fun b u z => by rw [lookup_put, if_neg (ne_of_none z hx)]; rfl
    have g3 : Gr T [] F1 H1 F2 H2 := ⟨fun b u z t => g2.hh b u (old b u z) (nl b u z) t, g2.ff, g2.sg, fun b u z t n => g2.ow b u (old b u z) (nl b u z) t n⟩
    exact q (.ref x) F2 H2 (g1.trans (g3.with g1.sg)) r2
/-- an instance of one's own, its fields fixed: fixed -/
theorem sdi_one {x : Addr} {δ' : List (Option Da)} {S' : Os} (h : SD T [(x, .ins C [])] ts δ (.nx δ' S')) (hS : S'.lookup x = some (.ins C fs)) : SDi T C x ts δ fs := fun F H σ D s e q =>
  h F H σ D s e fun F1 H1 g1 σ1 e1 => by
    obtain ⟨o2, k1, k2, dx, vs, rfl, k3⟩ := g1.sg.own x _ hS
    have g2 := GrS.publish g1.sg hS k1
    exact q _ H1 σ1 (g1.trans g2).drop (.ins upd_same (k3.mono (same_pub k2)))
theorem SDo.nx {S0 S' S1 : Os} {δ' : List (Option Da)} (h : SD T S0 ts δ (.nx δ' S')) (k : ∀ p c, S1.lookup p = some c → S'.lookup p = some c) : SDo T S0 S1 ts δ .non := fun F H σ D s e q1 q2 =>
  h F H σ D s e fun F1 H1 g1 σ1 e1 => q1 rfl σ1 F1 H1 (g1.weak k)
theorem SDo.ret {S0 S' S1 : Os} {d : Da} (h : SD T S0 ts δ (.retS d S')) (k : ∀ p c, S1.lookup p = some c → S'.lookup p = some c) : SDo T S0 S1 ts δ d := fun F H σ D s e q1 q2 =>
  h F H σ D s e fun F1 H1 g1 v r => q2 v F1 H1 (g1.weak k) r
end
end O26
set_option Elab.async false
set_option linter.all false
set_option maxRecDepth 100000
set_option maxHeartbeats 4000000
namespace O26
open PySem PySem.Spec PyProof.Rows L2
/-! min(xs, default=None) of no items; min of data; xs.index of data -/
theorem vals_back : ∀ {xs : List V} {us : List Value} {i : Nat} {u : Value}, Vals xs us → us[i]? = some u → ∃ x, xs[i]? = some x ∧ RelV x u
  | _, _, _, _, .nil, e => by simp at e
  | _, _, 0, _, .cons a _, e => by simp at e; subst e; exact ⟨_, rfl, a⟩
  | _, _, i + 1, u, .cons _ r, e => by
    obtain ⟨x, h1, h2⟩ := vals_back (i := i) (u := u) r (by simpa using e)
    exact ⟨x, by simpa using h1, h2⟩
section
variable {X : Cx}
def rMinDfl (K : PySem.W.Frag) : List V → List V → Hp → VK → Prop := fun vs zs H Q => ∃ a d, vs = [V.ref a] ∧ zs = [d] ∧ SqL K H a [] ∧ Q d H
theorem cr_minDfl (hc : X.calm = true) (hu : X.A.units + 64 < cLine) : CallRK X (.builtin "min") [Str.ofString "default"] (rMinDfl X.K) := by
  intro pins s σ H vs zs us ws Q I r rz h
  obtain ⟨a, d, rfl, rfl, hs, q⟩ := h
  obtain ⟨its, rv, hl, _⟩ := I.list hs
  cases rv
  rw [Vals.ref1 r]
  obtain ⟨w1, rfl, e1⟩ := vals1 rz
  refine PySem.W.min_list_default (xs := []) (as := []) (I.ok.hd hc) hl.isList .nil ⟨nofun, nofun⟩ ?_ (fun _ h' tk hk => ⟨_, H, I.kept hk, e1, q⟩) fun y ys i v h' tk bs e => by cases e
  have e : PyData.depthAll [] = 0 := by simp [PyData.depthAll]
  omega
def rMinPy (K : PySem.W.Frag) : List V → Hp → VK → Prop := fun vs H Q => ∃ (a : Addr) (xs : List V) (d0 : PyData) (ds : List PyData), vs = [V.ref a] ∧ SqL K H a xs ∧ DpAll K H xs (d0 :: ds) ∧ PySem.W.AlikeAll (d0 :: ds) ∧ PyData.depthAll (d0 :: ds) < 60 ∧ (d0 :: ds).all PyData.canLay0 = true ∧
  ∀ (i : Nat) (v : V), xs[i]? = some v → (d0 :: ds)[i]? = some (PySem.W.minD d0 ds) → Q v H
theorem dpAll_get {K : PySem.W.Frag} {H : Hp} : ∀ {xs : List V} {ds : List PyData} {i : Nat} {v : V}, DpAll K H xs ds → xs[i]? = some v → ∃ d, ds[i]? = some d ∧ Dp K H v d
  | _, _, _, _, .nil, e => by simp at e
  | _, _, 0, _, .cons a _, e => by simp at e; subst e; exact ⟨_, rfl, a⟩
  | _, _, i + 1, v, .cons _ r, e => by
    obtain ⟨d, h1, h2⟩ := dpAll_get (i := i) (v := v) r (by simpa using e)
    exact ⟨d, by simpa using h1, h2⟩
theorem cr_minPy (hc : X.calm = true) (hu : X.A.units + 64 < cLine) : CallR X (.builtin "min") (rMinPy X.K) := by
  intro pins s σ H vs us Q I r h
  obtain ⟨a, xs, d0, ds, rfl, hs, hd, hal, hdp, hcl, q⟩ := h
  obtain ⟨its, rv, hl, _⟩ := I.list hs
  rw [Vals.ref1 r]
  obtain ⟨as, ra⟩ := Dp.readsAll I _ _ _ hd rv
  refine PySem.W.min_list_data (I.ok.hd hc) hl.isList ra hal (by omega) fun i v h' tk bs hi hr hk => ?_
  have hi' : its[i]? = some v := by simpa using hi
  obtain ⟨x, h1, h2⟩ := vals_back rv hi'
  obtain ⟨d, h3, h4⟩ := dpAll_get hd h1
  have I2 := I.kept (t' := tk) hk
  obtain ⟨as2, r2⟩ := Dp.reads I2 d x v h4 h2
  have e := (Reads.unique r2 _ _ hr).1
  exact ⟨x, H, I2, h2, q i x h1 (by rw [h3, e])⟩
end
def ltV (a b : Int × Int) : Bool := decide (a.1 < b.1) || (decide (a.1 = b.1) && decide (a.2 < b.2))
def leastV (v : Int × Int) (vs : List (Int × Int)) : Int × Int := vs.foldl (fun a y => if ltV y a then y else a) v
theorem dataLt_v2 (a b : Int × Int) : PySem.W.dataLt (v2 a).py (v2 b).py = ltV a b := by
  show PySem.W.dataLt (.tuple [.int a.1, .int a.2]) (.tuple [.int b.1, .int b.2]) = _
  rw [PySem.W.dataLt_tuple]
  unfold ltV
  by_cases h : a.1 = b.1
  · rw [PySem.W.dataLt_all_yes (by rfl) (by show (a.1 == b.1) = true; rw [h]; exact beq_self_eq_true _)]
    by_cases h2 : a.2 = b.2
    · rw [PySem.W.dataLt_all_yes (by rfl) (by show (a.2 == b.2) = true; rw [h2]; exact beq_self_eq_true _)]
      simp [h, h2]
      rfl
    · rw [PySem.W.dataLt_all_no (by rfl) (by show (a.2 == b.2) = false; simpa using h2), PySem.W.dataLt_int]
      simp [h]
  · rw [PySem.W.dataLt_all_no (by rfl) (by show (a.1 == b.1) = false; simpa using h), PySem.W.dataLt_int]
    simp [h]
theorem alike_v2 (vs : List (Int × Int)) : PySem.W.AlikeAll (Da.pys (vs.map v2)) := by
  have m : ∀ x ∈ Da.pys (vs.map v2), ∃ a : Int × Int, x = (v2 a).py := by
    induction vs with
    | nil => intro x hx; cases hx
    | cons b vs ih =>
      intro x hx
      have hx' : x ∈ (v2 b).py :: Da.pys (vs.map v2) := hx
      rcases List.mem_cons.mp hx' with e | e
      · exact ⟨b, e⟩
      · exact ih x e
  refine ⟨fun x hx y hy => ?_, fun x hx => ?_⟩
  · obtain ⟨a, rfl⟩ := m x hx
    obtain ⟨b, rfl⟩ := m y hy
    rfl
  · obtain ⟨a, rfl⟩ := m x hx
    exact nofun
theorem pys_map (vs : List (Int × Int)) : Da.pys (vs.map v2) = vs.map fun v => (v2 v).py := by
  induction vs with
  | nil => rfl
  | cons a vs ih => show _ :: Da.pys (vs.map v2) = _; rw [ih]; rfl
theorem depth_v2 (vs : List (Int × Int)) : PyData.depthAll (Da.pys (vs.map v2)) ≤ 2 := by
  rw [pys_map]
  induction vs with
  | nil => simp [PyData.depthAll]
  | cons a vs ih =>
    rw [List.map_cons]
    have e : (v2 a).py.depth = 1 := by
      show PyData.depth (.tuple [.int a.1, .int a.2]) = 1
      simp [PyData.depth, PyData.depthAll]
    simp only [PyData.depthAll]
    omega
theorem lay_v2 (vs : List (Int × Int)) : (Da.pys (vs.map v2)).all PyData.canLay0 = true := by
  rw [pys_map, List.all_map]
  refine List.all_eq_true.mpr fun a _ => ?_
  show PyData.canLay0 (.tuple [.int a.1, .int a.2]) = true
  simp [PyData.canLay0, PyData.canLayAll0]
theorem py_v2_inj {a b : Int × Int} (h : (v2 a).py = (v2 b).py) : a = b := by
  have h' : PyData.tuple [.int a.1, .int a.2] = PyData.tuple [.int b.1, .int b.2] := h
  injection h' with h1
  injection h1 with h2 h3
  injection h3 with h4 _
  injection h2 with h5
  injection h4 with h6
  exact Prod.ext h5 h6
theorem minD_v2 (vs : List (Int × Int)) : ∀ v, PySem.W.minD (v2 v).py (vs.map fun v => (v2 v).py) = (v2 (leastV v vs)).py := by
  induction vs with
  | nil => intro v; rfl
  | cons a vs ih =>
    intro v
    have := ih (if ltV a v then a else v)
    unfold PySem.W.minD leastV at this ⊢
    rw [List.map_cons, List.foldl_cons, List.foldl_cons, dataLt_v2]
    rw [← this]
    cases ltV a v <;> rfl
section
variable {T : Tb} {S : Os} {K : PySem.W.Frag} {δ δ1 δ2 : List (Option Da)} {te ta tb : TE} {d x : Da}
theorem cd_minV {v : Int × Int} {vs : List (Int × Int)} : CaD T S (rMinPy K) [.lst ((v :: vs).map v2)] (v2 (leastV v vs)) := fun F H xs Q s r q => by
  cases r with
  | cons a r =>
    cases a with
    | lst h1 h2 =>
      cases r
      have hp : ∀ vs : List (Int × Int), Da.plains (vs.map v2) = true := fun vs => by
        induction vs with
        | nil => rfl
        | cons a vs ih => show (_ && Da.plains (vs.map v2)) = true; rw [ih]; rfl
      refine ⟨_, _, (v2 v).py, Da.pys (vs.map v2), rfl, SqL.of (s.ex _ _ h1), (h2.mono s.ex).dp (hp (v :: vs)), alike_v2 (v :: vs), ?_, lay_v2 (v :: vs), fun i x hi he => ?_⟩
      · exact Nat.lt_of_le_of_lt (depth_v2 (v :: vs)) (by decide)
      · obtain ⟨d, e1, e2⟩ := h2.getV hi
        rw [List.getElem?_map] at e1
        rw [pys_map, minD_v2] at he
        have he' : ((v :: vs).map fun v => (v2 v).py)[i]? = some (v2 (leastV v vs)).py := he
        rw [List.getElem?_map] at he'
        cases ev : (v :: vs)[i]? with
        | none => rw [ev] at e1; cases e1
        | some u =>
          rw [ev] at e1 he'
          have z1 : v2 u = d := Option.some.inj e1
          have z2 := py_v2_inj (Option.some.inj he')
          subst z1
          rw [z2] at e2
          exact q x F H (Gr.refl s) e2
theorem eqv_v2 (a b : Int × Int) : PyData.eqv (v2 a).py (v2 b).py = decide (a = b) := by
  show ((a.1 == b.1) && ((a.2 == b.2) && true)) = _
  rw [Bool.and_true]
  by_cases h : a = b
  · subst h; simp
  · rw [decide_eq_false h]
    by_cases h1 : a.1 = b.1
    · have h2 : a.2 ≠ b.2 := fun z => h (Prod.ext h1 z)
      simp [h2]
    · simp [h1]
theorem shaped_v2 (a : Int × Int) : SeqAt.shaped (v2 a).py = true := rfl
theorem shaped_v2s (vs : List (Int × Int)) : SeqAt.shaped (.list (Da.pys (vs.map v2))) = true := by
  have h1 := depth_v2 vs
  show (PyData.canLay0 (.list (Da.pys (vs.map v2))) && decide (PyData.depth (.list (Da.pys (vs.map v2))) ≤ 64)) = true
  rw [Bool.and_eq_true]
  refine ⟨?_, decide_eq_true ?_⟩
  · simp only [PyData.canLay0]
    have h := lay_v2 vs
    generalize Da.pys (vs.map v2) = l at h
    induction l with
    | nil => simp [PyData.canLayAll0]
    | cons a l ih =>
      rw [List.all_cons, Bool.and_eq_true] at h
      simp [PyData.canLayAll0, h.1, ih h.2]
  · simp only [PyData.depth]
    omega
theorem ev_indexV {vs : List (Int × Int)} {v : Int × Int} {j : Nat} (ha : EvD T S ta δ (.lst (vs.map v2))) (hb : EvD T S tb δ (v2 v)) (h : vs[j]? = some v ∧ ∀ m, m < j → vs[m]? ≠ some v) : EvD T S (tBM K "list" (rIndexD K) ta (tCons tb tNil)) δ (.int (j : Nat)) :=
  ev_bm ha (ea_cons hb ea_nil) (fun F H v s r => by
    cases r with
    | lst h1 h2 => exact .inl ⟨rfl, _, SqL.of (s.ex _ _ h1)⟩) fun F H u us Q s r rs q => by
    cases rs with
    | cons b rs =>
      cases rs
      have hp : ∀ vs : List (Int × Int), Da.plains (vs.map v2) = true := fun vs => by
        induction vs with
        | nil => rfl
        | cons a vs ih => show (_ && Da.plains (vs.map v2)) = true; rw [ih]; rfl
      have hl : Dp K H u (.list (Da.pys (vs.map v2))) := (r.mono s.ex).dp (hp vs)
      have hb : Dp K H _ (v2 v).py := (b.mono s.ex).dp rfl
      cases r with
      | lst h1 h2 =>
        refine ⟨_, _, (v2 v).py, Da.pys (vs.map v2), j, (v2 v).py, rfl, rfl, hl, hb, shaped_v2s vs, shaped_v2 v, ?_, ?_, ?_, q _ F H (Gr.refl s) (.int _)⟩
        · rw [pys_map, List.getElem?_map, h.1]; rfl
        · rw [eqv_v2]; exact decide_eq_true rfl
        · intro m z hm hz
          rw [pys_map, List.getElem?_map] at hz
          cases e : vs[m]? with
          | none => rw [e] at hz; cases hz
          | some w =>
            rw [e] at hz
            cases hz
            rw [eqv_v2]
            exact decide_eq_false fun z => h.2 m hm (by rw [e, z])
theorem ev_minDfl {tk : TE} (ha : EvD T S ta δ (.lst [])) (hk : EvD T S tk δ d) : EvD T S (tCKw (rMinDfl K) (tCons ta tNil) (tCons tk tNil)) δ d := fun F H σ Q s e q =>
  ea_cons ha ea_nil F H σ _ s e fun vs F1 H1 g1 r1 => ea_cons hk ea_nil F1 H1 σ _ g1.sg (e.mono g1.ff) fun zs F2 H2 g2 r2 => by
    have r3 := r1.mono g2.ff
    cases r3 with
    | cons a r =>
      cases r
      cases a with
      | lst h1 h2 =>
        cases h2
        cases r2 with
        | cons b r =>
          cases r
          exact ⟨_, _, rfl, rfl, SqL.of (g2.sg.ex _ _ h1), q _ F2 H2 (g1.trans g2) b⟩
end
/-! defs with an own state -/
section
variable {P : Program} {w : World} {K : PySem.W.Frag} {mg : Str → Option Value} {base : Heap} {T : Tb}
theorem fn_init {x qual : Str} {params : Arguments} {body : List Stmt} {scope : Scope} {dvs : List V} {kws : List (Str × V)} {f : Addr} {fd : FuncData} {N ps : List Str} {k : Nat} {C : Addr} {R : List Da → List (Str × Da) → Prop}
    (F : FunD K x qual params body scope dvs kws f fd) (S : FnScope N ps scope) (hl : ∀ ds d, R ds d → ds.length + 1 = ps.length)
    (hb : ∀ (cdv : Value) (A : Around) (outer : List Env) (s : Shared) (H : Hp) (E : XK), Room k (A.deeper (envOfC qual scope s.heap.objs.size f cdv)) →
      ∃ t, PSs (cxOf C8.CX0 P w K mg base N qual scope f cdv A outer s H E).nox body t ∧ ∀ x ds fs, R ds fs → SDi T C x t (startD N.length (.fn x :: ds)) fs) : FnOk P w K mg base C8.CX0 (k + 1) f fd ps (PrmI T C R) :=
  F.ok S (fun vs H Q E ⟨x, us, F, ds, fs, e, s, r, hR, _⟩ => by rw [e, List.length_cons, r.length]; exact hl ds fs hR) fun cdv A outer s H vs Q E hr ⟨x, us, F, ds, fs, e, sg, r, hR, q⟩ => by
    obtain ⟨t, ht, hs⟩ := hb cdv A outer s H E hr
    refine ⟨t, ht.nox, ?_⟩
    subst e
    exact hs x ds fs hR F H _ { nx := fun _ H' => Q .non H', rt := Q } sg (EnvR.start (.cons (.fn x) r)) fun F' H' σ' g r' => q F' H' g r'
theorem fn_own {x qual : Str} {params : Arguments} {body : List Stmt} {scope : Scope} {dvs : List V} {kws : List (Str × V)} {f : Addr} {fd : FuncData} {N ps : List Str} {k : Nat} {R : List Da → Os → Os → Da → Prop}
    (F : FunD K x qual params body scope dvs kws f fd) (S : FnScope N ps scope) (hl : ∀ ds S0 S1 d, R ds S0 S1 d → ds.length = ps.length)
    (hb : ∀ (cdv : Value) (A : Around) (outer : List Env) (s : Shared) (H : Hp) (E : XK), Room k (A.deeper (envOfC qual scope s.heap.objs.size f cdv)) →
      ∃ t, PSs (cxOf C8.CX0 P w K mg base N qual scope f cdv A outer s H E).nox body t ∧ ∀ ds S0 S1 d, R ds S0 S1 d → SDo T S0 S1 t (startD N.length ds) d) : FnOk P w K mg base C8.CX0 (k + 1) f fd ps (PrmS T R) :=
  F.ok S (fun vs H Q E ⟨F, ds, S0, S1, d, s, r, hR, _⟩ => r.length.trans (hl ds S0 S1 d hR)) fun cdv A outer s H vs Q E hr ⟨F, ds, S0, S1, d, sg, r, hR, q⟩ => by
    obtain ⟨t, ht, hs⟩ := hb cdv A outer s H E hr
    refine ⟨t, ht.nox, ?_⟩
    exact hs ds S0 S1 d hR F H _ { nx := fun _ H' => Q .non H', rt := Q } sg (EnvR.start r) (fun e σ F' H' g => q .non F' H' g (by rw [e]; exact .non)) fun v F' H' g r' => q v F' H' g r'
end
end O26
set_option Elab.async false
set_option linter.all false
set_option maxRecDepth 100000
set_option maxHeartbeats 4000000
namespace O26
open PySem PySem.Spec PyProof.Rows L2
/-! an expression that changes what is one's own -/
section
variable (T : Tb)
def EvS (S : Os) (te : TE) (δ : List (Option Da)) (d : Da) (S' : Os) : Prop := ∀ (F H : Hp) (σ : L2.St) (Q : VK), Sg T S F H → EnvR F σ δ → (∀ v F' H', GrS T S F H S' F' H' → Dr F' v d → Q v H') → te σ H Q
def EvAS (S : Os) (ta : TA) (δ : List (Option Da)) (ds : List Da) (S' : Os) : Prop := ∀ (F H : Hp) (σ : L2.St) (Q : List V → Hp → Prop), Sg T S F H → EnvR F σ δ → (∀ vs F' H', GrS T S F H S' F' H' → DrL F' vs ds → Q vs H') → ta σ H Q
end
section
variable {T : Tb} {S S1 S2 S3 : Os} {K : PySem.W.Frag} {δ δ1 δ2 : List (Option Da)} {te ta tb tc : TE} {tt : TT} {x y z d : Da} {o : Out} {ts tu : TS} {tz : TA} {ds : List Da} {r : R2}
theorem EvD.s (h : EvD T S te δ d) : EvS T S te δ d S := fun F H σ Q s e q => h F H σ Q s e fun v F1 H1 g1 r1 => q v F1 H1 g1.s r1
theorem EvA.s (h : EvA T S tz δ ds) : EvAS T S tz δ ds S := fun F H σ Q s e q => h F H σ Q s e fun v F1 H1 g1 r1 => q v F1 H1 g1.s r1
theorem evs_op (ha : EvS T S ta δ x S1) (hb : EvS T S1 tb δ y S2) (hr : OpD T S2 r x y z) : EvS T S (tOp r ta tb) δ z S2 := fun F H σ Q s e q =>
  ha F H σ _ s e fun v F1 H1 g1 r1 => hb F1 H1 σ _ g1.sg (e.mono g1.ff) fun u F2 H2 g2 r2 => hr F2 H2 v u _ g2.sg (r1.mono g2.ff) r2 fun w F3 H3 g3 r3 => q w F3 H3 ((g1.trans g2).trans g3.s) r3
theorem eas_nil : EvAS T S tNil δ [] S := fun F H σ Q s e q => q [] F H (GrS.refl s) .nil
theorem eas_cons (ha : EvS T S ta δ d S1) (hr : EvAS T S1 tz δ ds S2) : EvAS T S (tCons ta tz) δ (d :: ds) S2 := fun F H σ Q s e q =>
  ha F H σ _ s e fun v F1 H1 g1 r1 => hr F1 H1 σ _ g1.sg (e.mono g1.ff) fun vs F2 H2 g2 r2 => q (v :: vs) F2 H2 (g1.trans g2) (.cons (r1.mono g2.ff) r2)
theorem evs_lst (h : EvAS T S tz δ ds S1) (hl : ds.length ≤ 1000 := by exact Nat.le_of_ble_eq_true rfl) : EvS T S (tLst tz) δ (.lst ds) S1 := fun F H σ Q s e q =>
  h F H σ _ s e fun vs F1 H1 g1 r1 => ⟨by rw [r1.length]; exact Nat.le_of_lt (small1000 hl), fun p hp => q (.ref p) _ _ (g1.trans (Gr.newL g1.sg hp).s) (Dr.newL (g1.sg.ex.free hp) r1)⟩
theorem evs_call {R : List Da → Da → Prop} {E : XK} (h : EvAS T S tz δ ds S1) (hR : R ds d) : EvS T S (tCall (Prm T R) [] E tz) δ d S1 := fun F H σ Q s e q =>
  h F H σ _ s e fun vs F1 H1 g1 r1 => ⟨F1, ds, d, g1.sg.bare, by rw [List.append_nil]; exact r1, hR, fun v F2 H2 g2 r2 => q v F2 H2 (g1.trans (g2.with g1.sg).s) r2⟩
theorem evs_is (h : EvS T S te δ x S1) (e : x = y) : EvS T S te δ y S1 := e ▸ h
/-- a call that changes what is one's own: S0 of it, to S' -/
theorem evs_callS {R : List Da → Os → Os → Da → Prop} {E : XK} {S0 S' : Os} (h : EvAS T S tz δ ds S1) (hR : R ds S0 S' d) (h0 : ∀ q c, S0.lookup q = some c → S1.lookup q = some c) (h1 : ∀ q c, S0.lookup q = some c → S'.lookup q ≠ none) (h2 : ∀ q c, S2.lookup q = some c → (S' ++ S1).lookup q = some c) : EvS T S (tCall (PrmS T R) [] E tz) δ d S2 := fun F H σ Q s e q =>
  h F H σ _ s e fun vs F1 H1 g1 r1 => ⟨F1, ds, S0, S', d, g1.sg.weak h0, by rw [List.append_nil]; exact r1, hR, fun v F2 H2 g2 r2 => q v F2 H2 (g1.trans ((g2.foot g1.sg h0 h1).weak h2)) r2⟩
theorem sds_asgG {g : TG} {sl : List Nat} (h : EvS T S te δ x S1) (hg : GD T S1 g x δ δ2 sl) : SD T S (tAsg te g) δ (.nx δ2 S1) := fun F H σ D s e q =>
  h F H σ _ s e fun v F1 H1 g1 r1 => hg F1 H1 σ v _ g1.sg (e.mono g1.ff) r1 fun F2 H2 σ2 g2 e2 _ _ => q F2 H2 (g1.trans g2.s) σ2 e2
theorem sds_asg {i : Nat} (h : EvS T S te δ x S1) : SD T S (tAsg te (gName i)) δ (.nx (δ.set i (some x)) S1) := sds_asgG h gd_name
theorem sds_par {i j : Nat} (h : EvAS T S tz δ [x, y] S1) : SD T S (tPar i j tz) δ (.nx ((δ.set i (some x)).set j (some y)) S1) := fun F H σ D s e q =>
  h F H σ _ s e fun vs F1 H1 g1 r1 => by
    cases r1 with
    | cons a r =>
      cases r with
      | cons b r =>
        cases r
        exact ⟨_, _, rfl, q F1 H1 g1 _ (((e.mono g1.ff).set a i).set b j)⟩
theorem sds_ret (h : EvS T S te δ d S1) : SD T S (tRet te) δ (.retS d S1) := fun F H σ D s e q => h F H σ _ s e fun v F1 H1 g1 r1 => q F1 H1 g1 v r1
theorem od_is {w : Da} (h : OpD T S r x y z) (e : z = w) : OpD T S r x y w := e ▸ h
theorem od_add {i j : Int} : OpD T S (rI0 fun i j => .int (i + j)) (.int i) (.int j) (.int (i + j)) := od_I0 fun _ => .int _
theorem od_sub {i j : Int} : OpD T S (rI0 fun i j => .int (i - j)) (.int i) (.int j) (.int (i - j)) := od_I0 fun _ => .int _
theorem od_mod {i j : Int} (hc : 0 < j) : OpD T S (rI (fun _ j => 0 < j) fun i j => .int (i % j)) (.int i) (.int j) (.int (i % j)) := od_I (fun _ => .int _) hc
theorem od_ixL {l : List Da} {i : Int} (hi : atI l i = some d) : OpD T S (rIxL K) (.lst l) (.int i) d := fun F H v u Q s a b q => by
  cases b
  cases a with
  | lst h1 h2 =>
    obtain ⟨v, e1, e2⟩ := atI_dr h2 hi
    exact ⟨_, _, i, v, rfl, rfl, SqL.of (s.ex _ _ h1), e1, q v F H (Gr.refl s) e2⟩
theorem od_catT {l m : List Da} (hl : l.length + m.length ≤ 1000) (h1 : l ≠ []) (h2 : m ≠ []) : OpD T S (rCatT K) (.tup l) (.tup m) (.tup (l ++ m)) := fun F H v u Q s a b q => by
  cases a with
  | tup a1 a2 =>
    cases b with
    | tup b1 b2 =>
      refine ⟨_, _, _, _, rfl, rfl, SqT.of (s.ex _ _ a1), SqT.of (s.ex _ _ b1), fun z => ?_, by rw [a2.length, b2.length]; exact Nat.le_of_lt (small1000 hl), fun z => ?_, fun _ p hp => q (.ref p) _ _ (Gr.newT s hp) (Dr.newT (s.ex.free hp) (a2.append b2))⟩
      · rw [z] at a2; cases a2; exact h1 rfl
      · rw [z] at b2; cases b2; exact absurd rfl h2
/-- what is walked, found by what changes what is one's own: the rest is shown behind it -/
theorem sds_for1 {g : TG} {j : Int} (h : EvAS T S tz δ [.int j] S1) (hj : -(2 ^ 62) ≤ j ∧ j < 2 ^ 62) (hf : ForD T g ts S1 (rngD 0 j.toNat) δ o) : SD T S (tFor (iRng1 tz) g ts) δ o := fun F H σ D s e q =>
  h F H σ _ s e fun vs F1 H1 g1 r1 => by
    cases r1 with
    | cons a r =>
      cases a; cases r
      refine ⟨j, rfl, hj.1, hj.2, ?_⟩
      have h2 : SD T S1 (tFor (fun σ H R => R (Itr 0 j.toNat) H) g ts) δ o := sd_for (fun F H σ R s e q => q _ F H (Gr.refl s) (wd_rng 0 _)) hf
      exact h2 F1 H1 σ D g1.sg (e.mono g1.ff) fun F2 H2 => OutQ.step g1 (q F2 H2)
end
/-! dicts of one's own -/
def valD (kvs : List (Key × Da)) (k : Key) : Option Da := (kvs.find? fun kv => decide (kv.1 = k)).map (·.2)
def putD (kvs : List (Key × Da)) (k : Key) (d : Da) : List (Key × Da) := if (kvs.any fun kv => decide (kv.1 = k)) = true then kvs.map (fun kv => if kv.1 = k then (kv.1, d) else kv) else kvs ++ [(k, d)]
section
variable {F : Hp}
theorem DrK.val {k : Key} : ∀ {ks : List (Key × V)} {kvs : List (Key × Da)}, DrK F ks kvs → ∀ d, valD kvs k = some d → ∃ v, valV ks k = some v ∧ Dr F v d
  | _, _, .nil, d, h => by cases h
  | _, _, .cons (k := k') (v := v) (d := d') a r, d, h => by
    unfold valD at h
    unfold valV
    rw [List.find?_cons] at h ⊢
    by_cases e : k' = k
    · simp only [e, decide_true] at h ⊢
      cases h
      exact ⟨v, rfl, a⟩
    · simp only [e, decide_false] at h ⊢
      exact DrK.val r d h
theorem DrK.any {k : Key} : ∀ {ks : List (Key × V)} {kvs : List (Key × Da)}, DrK F ks kvs → (ks.any fun kv => decide (kv.1 = k)) = kvs.any fun kv => decide (kv.1 = k)
  | _, _, .nil => rfl
  | _, _, .cons a r => by rw [List.any_cons, List.any_cons, DrK.any r]
theorem DrK.length : ∀ {ks : List (Key × V)} {kvs : List (Key × Da)}, DrK F ks kvs → ks.length = kvs.length
  | _, _, .nil => rfl
  | _, _, .cons _ r => by rw [List.length_cons, List.length_cons, DrK.length r]
theorem DrK.app {k : Key} {v : V} {d : Da} (b : Dr F v d) : ∀ {ks : List (Key × V)} {kvs : List (Key × Da)}, DrK F ks kvs → DrK F (ks ++ [(k, v)]) (kvs ++ [(k, d)])
  | _, _, .nil => .cons b .nil
  | _, _, .cons a r => .cons a (DrK.app b r)
theorem DrK.mapP {k : Key} {v : V} {d : Da} (b : Dr F v d) : ∀ {ks : List (Key × V)} {kvs : List (Key × Da)}, DrK F ks kvs → DrK F (ks.map fun kv => if kv.1 = k then (kv.1, v) else kv) (kvs.map fun kv => if kv.1 = k then (kv.1, d) else kv)
  | _, _, .nil => .nil
  | _, _, .cons (k := k') a r => by
    rw [List.map_cons, List.map_cons]
    by_cases e : k' = k
    · rw [if_pos e, if_pos e]; exact .cons b (DrK.mapP b r)
    · rw [if_neg e, if_neg e]; exact .cons a (DrK.mapP b r)
theorem DrK.put {k : Key} {v : V} {d : Da} (b : Dr F v d) {ks : List (Key × V)} {kvs : List (Key × Da)} (h : DrK F ks kvs) : DrK F (putK ks k v) (putD kvs k d) := by
  unfold putK putD
  rw [h.any]
  split
  · exact h.mapP b
  · exact h.app b
end
section
variable {T : Tb} {S : Os} {δ : List (Option Da)} {ta tb tv : TE} {d : Da} {p : Addr} {kvs : List (Key × Da)} {k : Str}
theorem ev_dget (ha : EvD T S ta δ (.fn p)) (hb : EvD T S tb δ (.str k)) (hS : S.lookup p = some (.dic kvs)) (hl : valD kvs (.inr k) = some d) : EvD T S (tDGet ta tb) δ d := fun F H σ Q s e q =>
  ha F H σ _ s e fun v F1 H1 g1 r1 => hb F1 H1 σ _ g1.sg (e.mono g1.ff) fun u F2 H2 g2 r2 => by
    obtain rfl := dr_fn r1
    cases r2
    obtain ⟨o, h1, h2, ks, rfl, h3⟩ := g2.sg.own p _ hS
    obtain ⟨w, e1, e2⟩ := h3.val d hl
    exact ⟨p, w, rfl, e1 ▸ DGet.k (k := .inr k) h1, q w F2 H2 (g1.trans g2) e2⟩
theorem sd_dput (hv : EvD T S tv δ d) (ha : EvD T S ta δ (.fn p)) (hb : EvD T S tb δ (.str k)) (hS : S.lookup p = some (.dic kvs)) (hl : kvs.length ≤ 1000 := by exact Nat.le_of_ble_eq_true rfl) : SD T S (sDPut ta tb tv) δ (.nx δ ((p, .dic (putD kvs (.inr k) d)) :: S)) := fun F H σ D s e q =>
  hv F H σ _ s e fun v F1 H1 g1 r1 => ha F1 H1 σ _ g1.sg (e.mono g1.ff) fun w F2 H2 g2 r2 => hb F2 H2 σ _ g2.sg ((e.mono g1.ff).mono g2.ff) fun u F3 H3 g3 r3 => by
    obtain rfl := dr_fn r2
    cases r3
    obtain ⟨o, h1, h2, ks, rfl, h3⟩ := g3.sg.own p _ hS
    have g4 := GrS.write (c := .dic (putD kvs (.inr k) d)) g3.sg hS ⟨_, rfl, h3.put (k := .inr k) ((r1.mono g2.ff).mono g3.ff)⟩
    exact ⟨p, _, rfl, DPut.k (k := .inr k) h1 (by rw [h3.length]; exact small1000 hl), q F3 _ (((g1.trans g2).trans g3).s.trans g4) σ (((e.mono g1.ff).mono g2.ff).mono g3.ff)⟩
end
end O26
set_option Elab.async false
set_option linter.all false
set_option maxRecDepth 100000
set_option maxHeartbeats 4000000
namespace O26
open PySem PySem.Spec PyProof.Rows L2
theorem sd_whileE {T : Tb} {S : Os} {tc : TT} {tb : TS} {δ : List (Option Da)} {o : Out} (h : ∃ n, WhileD T tc tb n S δ o) : SD T S (tWhile tc tb) δ o := by
  obtain ⟨n, h⟩ := h
  exact sd_while h
theorem gcd_step {a b : Int} (ha : 0 ≤ a) (hb : 0 ≤ b) : Int.gcd a b = Int.gcd b (a % b) := by
  obtain ⟨m, rfl⟩ := Int.eq_ofNat_of_zero_le ha
  obtain ⟨n, rfl⟩ := Int.eq_ofNat_of_zero_le hb
  show Nat.gcd m n = Nat.gcd n (m % n)
  rw [Nat.gcd_comm m n, Nat.gcd_rec, Nat.gcd_comm]
theorem gcd_loop {T : Tb} {S : Os} {tc : TT} {tb : TS} (h1 : ∀ a b : Int, EvT T S tc [some (.int a), some (.int b)] (decide (0 < b))) (h2 : ∀ a b : Int, 0 < b → SD T S tb [some (.int a), some (.int b)] (.nx [some (.int b), some (.int (a % b))] S)) :
    ∀ (n : Nat) (a b : Int), 0 ≤ a → 0 ≤ b → b.toNat ≤ n → ∃ m, WhileD T tc tb m S [some (.int a), some (.int b)] (.nx [some (.int (Int.gcd a b : Nat)), some (.int 0)] S) := by
  intro n
  induction n with
  | zero =>
    intro a b ha hb hn
    have e : b = 0 := by omega
    subst e
    refine ⟨0, ?_⟩
    have e2 : ((Int.gcd a 0 : Nat) : Int) = a := by rw [Int.gcd_zero_right]; omega
    rw [e2]
    exact .done (et_is (h1 a 0) (by decide))
  | succ n ih =>
    intro a b ha hb hn
    by_cases hz : 0 < b
    · obtain ⟨m, hm⟩ := ih b (a % b) hb (Int.emod_nonneg _ (by omega)) (by have := Int.emod_lt_of_pos a hz; omega)
      have e : (Int.gcd a b : Nat) = Int.gcd b (a % b) := gcd_step ha hb
      rw [e]
      exact ⟨m + 1, .next (et_is (h1 a b) (decide_eq_true hz)) (h2 a b hz) hm⟩
    · have e : b = 0 := by omega
      subst e
      refine ⟨0, ?_⟩
      have e2 : ((Int.gcd a 0 : Nat) : Int) = a := by rw [Int.gcd_zero_right]; omega
      rw [e2]
      exact .done (et_is (h1 a 0) (by decide))
theorem iabs_eq (i : Int) : iabs i = (i.natAbs : Nat) := by
  unfold iabs
  split <;> omega
section
variable {P : Program} {w : World} {K : PySem.W.Frag} {mg : Str → Option Value} {base : Heap} {T : Tb}
abbrev s_is_int : Stmt := top 9
theorem sc_is_int : FnScope ["value"] ["value"] (defScope s_is_int) := ⟨rfl, rfl, rfl, by decide +kernel, rfl, by decide +kernel, by decide +kernel⟩
def R_is_int (ds : List Da) (d : Da) : Prop := ∃ i : Int, ds = [.int i] ∧ d = .bl true
theorem ri_is_int {i : Int}  : R_is_int [.int i] (.bl true) := ⟨i, rfl, rfl⟩
theorem ok_is_int {f : Addr} {fd : FuncData}  (F : FnP K "is_int" "is_int" s_is_int f fd) (hm : mg "is_int" = some (.ref f)) (fr_isinstance : mg "isinstance" = none) (fr_int : mg "int" = none) (fr_bool : mg "bool" = none)  : C8.Cal P w K mg base 1 "is_int" (Prm T R_is_int) [] := by
  refine ⟨⟨f, fd, _, [], fn_pure F sc_is_int (fun ds d h => ?_) fun cdv A outer s H E hr => ⟨_, (pss_one (ps_ret (pe_and (pe_callB call_isi (by rfl) fr_isinstance (by decide +kernel) (pa_cons (pv 0) (pa_cons (pe_bltn (by rfl) fr_int (by decide +kernel) (v := .ty "int") rfl) pa_nil))) (pe_one (pe_not (pe_callB call_isi (by rfl) fr_isinstance (by decide +kernel) (pa_cons (pv 0) (pa_cons (pe_bltn (by rfl) fr_bool (by decide +kernel) (v := .ty "bool") rfl) pa_nil)))))))), fun ds d h => ?_⟩, hm, F.kp, F.bindsN (fun _ _ _ _ _ _ us hl => match us, hl with | [_], _ => rfl), .nil⟩⟩
  · obtain ⟨i, rfl, rfl⟩ := h
    rfl
  · obtain ⟨i, rfl, rfl⟩ := h
    exact .retE (sd_ret (ev_andV (ev_isiI_int (ev_var rfl)) (fun _ => (ev_notV (ev_isiI_bool (ev_var rfl)))))) rfl
abbrev s_is_int_in : Stmt := top 10
theorem sc_is_int_in : FnScope ["value", "low", "high"] ["value", "low", "high"] (defScope s_is_int_in) := ⟨rfl, rfl, rfl, by decide +kernel, rfl, by decide +kernel, by decide +kernel⟩
def R_is_int_in (ds : List Da) (d : Da) : Prop := ∃ i lo hi : Int, ds = [.int i, .int lo, .int hi] ∧ d = .bl (decide (lo ≤ i) && decide (i ≤ hi))
theorem ri_is_int_in {i lo hi : Int}  : R_is_int_in [.int i, .int lo, .int hi] (.bl (decide (lo ≤ i) && decide (i ≤ hi))) := ⟨i, lo, hi, rfl, rfl⟩
theorem ok_is_int_in {f : Addr} {fd : FuncData}  (F : FnP K "is_int_in" "is_int_in" s_is_int_in f fd) (hm : mg "is_int_in" = some (.ref f)) (c_is_int : C8.Cal P w K mg base 1 "is_int" (Prm T R_is_int) [])  : C8.Cal P w K mg base 2 "is_int_in" (Prm T R_is_int_in) [] := by
  refine ⟨⟨f, fd, _, [], fn_pure F sc_is_int_in (fun ds d h => ?_) fun cdv A outer s H E hr => ⟨_, (pss_one (ps_ret (pe_and (C8.pe_c c_is_int hr (by decide) rfl (pa_cons (pv 0) pa_nil)) (pe_one (pe_chain op_le op_le (pv 1) (pv 0) (pv 2)))))), fun ds d h => ?_⟩, hm, F.kp, F.bindsN (fun _ _ _ _ _ _ us hl => match us, hl with | [_, _, _], _ => rfl), .nil⟩⟩
  · obtain ⟨i, lo, hi, rfl, rfl⟩ := h
    rfl
  · obtain ⟨i, lo, hi, rfl, rfl⟩ := h
    exact .retE (sd_ret (ev_andV (ev_call (ea_cons (ev_var rfl) ea_nil) ⟨i, rfl, rfl⟩) fun _ => ev_chain (ev_var rfl) (ev_var rfl) (ev_var rfl))) rfl
abbrev s_gcd : Stmt := top 11
theorem sc_gcd : FnScope ["first", "second"] ["first", "second"] (defScope s_gcd) := ⟨rfl, rfl, rfl, by decide +kernel, rfl, by decide +kernel, by decide +kernel⟩
def R_gcd (ds : List Da) (d : Da) : Prop := ∃ a b : Int, ds = [.int a, .int b] ∧ d = .int (Int.gcd a b : Nat)
theorem ri_gcd {a b : Int}  : R_gcd [.int a, .int b] (.int (Int.gcd a b : Nat)) := ⟨a, b, rfl, rfl⟩
theorem ok_gcd {f : Addr} {fd : FuncData}  (F : FnP K "gcd" "gcd" s_gcd f fd) (hm : mg "gcd" = some (.ref f)) (fr_abs : mg "abs" = none)  : C8.Cal P w K mg base 1 "gcd" (Prm T R_gcd) [] := by
  refine ⟨⟨f, fd, _, [], fn_pure F sc_gcd (fun ds d h => ?_) fun cdv A outer s H E hr => ⟨_, (pss_cons (ps_par (i := 0) (j := 1) (by rfl) sc_gcd.nd rfl rfl (by decide) rfl rfl (pa_cons (pe_callB call_abs (by rfl) fr_abs (by decide +kernel) (pa_cons (pv 0) pa_nil)) (pa_cons (pe_callB call_abs (by rfl) fr_abs (by decide +kernel) (pa_cons (pv 1) pa_nil)) pa_nil)) (by rfl)) (pss_cons (ps_while PassesOwn.never (pt_cmpR op_gt (pv 1) pe_int (nomark _)) (pss_one (ps_par (i := 0) (j := 1) (by rfl) sc_gcd.nd rfl rfl (by decide) rfl rfl (pa_cons (pv 1) (pa_cons (pe_op op_mod (pv 0) (pv 1)) pa_nil)) (by rfl)))) (pss_one (ps_ret (pv 0))))), fun ds d h => ?_⟩, hm, F.kp, F.bindsN (fun _ _ _ _ _ _ us hl => match us, hl with | [_, _], _ => rfl), .nil⟩⟩
  · obtain ⟨a, b, rfl, rfl⟩ := h
    rfl
  · obtain ⟨a, b, rfl, rfl⟩ := h
    have e : (Int.gcd a b : Nat) = Int.gcd (iabs a) (iabs b) := by rw [iabs_eq, iabs_eq]; rfl
    rw [e]
    exact .ret (sd_seq (sd_par (ea_cons (ev_cb (ea_cons (ev_var rfl) ea_nil) cd_abs) (ea_cons (ev_cb (ea_cons (ev_var rfl) ea_nil) cd_abs) ea_nil))) (sd_seq (sd_whileE (gcd_loop (fun x y => (et_test (ev_cmp (ev_var rfl) ev_int))) (fun x y hy => sd_par (ea_cons (ev_var rfl) (ea_cons (ev_mod (ev_var rfl) (ev_var rfl) hy) ea_nil))) _ (iabs a) (iabs b) (by rw [iabs_eq]; omega) (by rw [iabs_eq]; omega) (Nat.le_refl _))) (sd_ret (ev_var rfl))))
abbrev s_cross : Stmt := top 13
theorem sc_cross : FnScope ["first", "second"] ["first", "second"] (defScope s_cross) := ⟨rfl, rfl, rfl, by decide +kernel, rfl, by decide +kernel, by decide +kernel⟩
def R_cross (ds : List Da) (d : Da) : Prop := ∃ a b c e : Int, ds = [i2 a b, i2 c e] ∧ Bd 100000 a ∧ Bd 100000 b ∧ Bd 100000 c ∧ Bd 100000 e ∧ d = .int (a * e - b * c)
theorem ri_cross {a b c e : Int} (h0 : Bd 100000 a) (h1 : Bd 100000 b) (h2 : Bd 100000 c) (h3 : Bd 100000 e) : R_cross [i2 a b, i2 c e] (.int (a * e - b * c)) := ⟨a, b, c, e, rfl, h0, h1, h2, h3, rfl⟩
theorem ok_cross {f : Addr} {fd : FuncData}  (F : FnP K "cross" "cross" s_cross f fd) (hm : mg "cross" = some (.ref f))   : C8.Cal P w K mg base 1 "cross" (Prm T R_cross) [] := by
  refine ⟨⟨f, fd, _, [], fn_pure F sc_cross (fun ds d h => ?_) fun cdv A outer s H E hr => ⟨_, (pss_one (ps_ret (pe_op op_sub (pe_op op_mulW (pe_ix ix_tup (pv 0) pe_int (fun _ _ => rfl)) (pe_ix ix_tup (pv 1) pe_int (fun _ _ => rfl))) (pe_op op_mulW (pe_ix ix_tup (pv 0) pe_int (fun _ _ => rfl)) (pe_ix ix_tup (pv 1) pe_int (fun _ _ => rfl)))))), fun ds d h => ?_⟩, hm, F.kp, F.bindsN (fun _ _ _ _ _ _ us hl => match us, hl with | [_, _], _ => rfl), .nil⟩⟩
  · obtain ⟨a, b, c, e, rfl, h1, h2, h3, h4, rfl⟩ := h
    rfl
  · obtain ⟨a, b, c, e, rfl, h1, h2, h3, h4, rfl⟩ := h
    exact .retE (sd_ret (ev_sub (ev_mulB (ev_ixT (ev_var rfl) ev_int rfl) (ev_ixT (ev_var rfl) ev_int rfl)) (ev_mulB (ev_ixT (ev_var rfl) ev_int rfl) (ev_ixT (ev_var rfl) ev_int rfl)))) rfl
abbrev s_difference : Stmt := top 14
theorem sc_difference : FnScope ["first", "second"] ["first", "second"] (defScope s_difference) := ⟨rfl, rfl, rfl, by decide +kernel, rfl, by decide +kernel, by decide +kernel⟩
def R_difference (ds : List Da) (d : Da) : Prop := ∃ a b c e : Int, ds = [i2 a b, i2 c e] ∧ d = i2 (a - c) (b - e)
theorem ri_difference {a b c e : Int}  : R_difference [i2 a b, i2 c e] (i2 (a - c) (b - e)) := ⟨a, b, c, e, rfl, rfl⟩
theorem ok_difference {f : Addr} {fd : FuncData}  (F : FnP K "difference" "difference" s_difference f fd) (hm : mg "difference" = some (.ref f))   : C8.Cal P w K mg base 1 "difference" (Prm T R_difference) [] := by
  refine ⟨⟨f, fd, _, [], fn_pure F sc_difference (fun ds d h => ?_) fun cdv A outer s H E hr => ⟨_, (pss_one (ps_ret (pe_tup (pa_cons (pe_op op_sub (pe_ix ix_tup (pv 0) pe_int (fun _ _ => rfl)) (pe_ix ix_tup (pv 1) pe_int (fun _ _ => rfl))) (pa_cons (pe_op op_sub (pe_ix ix_tup (pv 0) pe_int (fun _ _ => rfl)) (pe_ix ix_tup (pv 1) pe_int (fun _ _ => rfl))) pa_nil))))), fun ds d h => ?_⟩, hm, F.kp, F.bindsN (fun _ _ _ _ _ _ us hl => match us, hl with | [_, _], _ => rfl), .nil⟩⟩
  · obtain ⟨a, b, c, e, rfl, rfl⟩ := h
    rfl
  · obtain ⟨a, b, c, e, rfl, rfl⟩ := h
    exact .retE (sd_ret (ev_tup (ea_cons (ev_sub (ev_ixT (ev_var rfl) ev_int rfl) (ev_ixT (ev_var rfl) ev_int rfl)) (ea_cons (ev_sub (ev_ixT (ev_var rfl) ev_int rfl) (ev_ixT (ev_var rfl) ev_int rfl)) ea_nil)))) rfl
end
end O26
set_option Elab.async false
set_option linter.all false
set_option maxRecDepth 100000
set_option maxHeartbeats 4000000
namespace O26
open PySem PySem.Spec PyProof.Rows L2
/-- a polygon's vertices as they may be -/
structure PolB (vs : List Ve) : Prop where
  lo : 3 ≤ vs.length
  hi : vs.length ≤ 6
  co : ∀ v ∈ vs, (-60 ≤ v.1 ∧ v.1 ≤ 60) ∧ -60 ≤ v.2 ∧ v.2 ≤ 60
abbrev poly (C : Addr) (vs : List Ve) : Da := .ins C [("cycle", .lst (vs.map v2))]
theorem PolB.idx {vs : List Ve} (h : PolB vs) (i : Int) : (i % (vs.length : Nat)).toNat < vs.length ∧ 0 ≤ i % (vs.length : Nat) := by
  have h0 := h.lo
  have h1 := Int.emod_nonneg i (b := (vs.length : Nat)) (by omega)
  have h2 := Int.emod_lt_of_pos i (b := (vs.length : Nat)) (by omega)
  exact ⟨by omega, h1⟩
theorem PolB.mem {vs : List Ve} (h : PolB vs) (i : Int) : vtx vs i ∈ vs := by
  unfold vtx
  rw [List.getD_eq_getElem?_getD, List.getElem?_eq_getElem (h.idx i).1]
  exact List.getElem_mem _
theorem PolB.atI {vs : List Ve} (h : PolB vs) (i : Int) : atI (vs.map v2) (i % ((vs.map v2).length : Nat)) = some (v2 (vtx vs i)) := by
  rw [List.length_map]
  obtain ⟨h1, h2⟩ := h.idx i
  have e : i % (vs.length : Nat) = ((i % (vs.length : Nat)).toNat : Nat) := by omega
  have z : (vs.map v2)[(i % (vs.length : Nat)).toNat]? = some (v2 (vtx vs i)) := by
    unfold vtx
    rw [List.getElem?_map, List.getD_eq_getElem?_getD, List.getElem?_eq_getElem h1]
    rfl
  have q := atI_nat z
  rw [← e] at q
  exact q
theorem bd60 {i : Int} (h : -60 ≤ i ∧ i ≤ 60) : Bd 6 i := ⟨by have := h.1; have := h.2; show i.natAbs < 64; omega⟩
theorem PolB.b1 {vs : List Ve} (h : PolB vs) (i : Int) : Bd 6 (vtx vs i).1 := bd60 (h.co _ (h.mem i)).1
theorem PolB.b2 {vs : List Ve} (h : PolB vs) (i : Int) : Bd 6 (vtx vs i).2 := bd60 (h.co _ (h.mem i)).2
instance {a b : Nat} {u v : Ve} [x : Bd a u.1] [y : Bd b v.1] : Bd (a + b + 1) (dif u v).1 := bdSub
instance {a b : Nat} {u v : Ve} [x : Bd a u.2] [y : Bd b v.2] : Bd (a + b + 1) (dif u v).2 := bdSub
theorem PolB.e1 {vs : List Ve} (h : PolB vs) (i : Int) : Bd 13 (edg vs i).1 := by
  have x := h.b1 i
  have y := h.b1 (i + 1)
  exact bdSub (x := y) (y := x)
theorem PolB.e2 {vs : List Ve} (h : PolB vs) (i : Int) : Bd 13 (edg vs i).2 := by
  have x := h.b2 i
  have y := h.b2 (i + 1)
  exact bdSub (x := y) (y := x)
/-- a point as it may be on the way -/
structure PtB (p : Pt) : Prop where
  x : Bd 300 p.1
  y : Bd 300 p.2.1
  d : Bd 30 p.2.2
theorem PolB.s {vs : List Ve} (h : PolB vs) {p : Pt} (hp : PtB p) (i : Int) : Bd 800 (side vs i p) := by
  have := h.e1 i; have := h.e2 i; have := h.b1 i; have := h.b2 i; have := hp.x; have := hp.y; have := hp.d
  exact Bd.up (bdSub (a := 13 + (300 + (6 + 30) + 1)) (b := 13 + (300 + (6 + 30) + 1)) (x := bdMul) (y := bdMul)) (by decide)
theorem neg_one_bd : Bd 1 (-1) := bdNeg
theorem cR {vs : List Ve} (i : Nat) : (rngD 0 vs.length).length = vs.length := rngD_length _ _
theorem lc_map {T : Tb} {S : Os} {i : Nat} {te : TE} {vs : List Nat} {δ : List (Option Da)} {f : Da → Da} (hv : i ∈ vs) : ∀ {xs : List Da}, (∀ x ∈ xs, EvD T S te ((wipeD δ vs).set i (some x)) (f x)) → LcD T S (gName i) tYes te vs δ xs (xs.map f)
  | [], _ => .nil
  | x :: xs, h => .keep gd_name (fun j hj => by rw [List.mem_singleton.mp hj]; exact hv) et_yes (h x List.mem_cons_self) (lc_map hv fun y hy => h y (List.mem_cons_of_mem _ hy))
theorem lc_filter {T : Tb} {S : Os} {i : Nat} {tt : TT} {te : TE} {vs : List Nat} {δ : List (Option Da)} {q : Da → Bool} {f : Da → Da} (hv : i ∈ vs) : ∀ {xs : List Da}, (∀ x ∈ xs, EvT T S tt ((wipeD δ vs).set i (some x)) (q x)) → (∀ x ∈ xs, q x = true → EvD T S te ((wipeD δ vs).set i (some x)) (f x)) → LcD T S (gName i) tt te vs δ xs ((xs.filter q).map f)
  | [], _, _ => .nil
  | x :: xs, h, k => by
    have ih := lc_filter (q := q) (f := f) hv (xs := xs) (fun y hy => h y (List.mem_cons_of_mem _ hy)) fun y hy => k y (List.mem_cons_of_mem _ hy)
    have hx := h x List.mem_cons_self
    cases e : q x with
    | true =>
      rw [List.filter_cons_of_pos e]
      exact .keep gd_name (fun j hj => by rw [List.mem_singleton.mp hj]; exact hv) (e ▸ hx) (k x List.mem_cons_self e) ih
    | false =>
      rw [List.filter_cons_of_neg (by rw [e]; exact Bool.false_ne_true)]
      exact .drop gd_name (fun j hj => by rw [List.mem_singleton.mp hj]; exact hv) (e ▸ hx) ih
section
variable {P : Program} {w : World} {K : PySem.W.Frag} {mg : Str → Option Value} {base : Heap} {T : Tb}
abbrev s_PolygonU_lenU : Stmt := inClass (top 63) 2
theorem sc_PolygonU_lenU : FnScope ["self"] ["self"] (defScope s_PolygonU_lenU) := ⟨rfl, rfl, rfl, by decide +kernel, rfl, by decide +kernel, by decide +kernel⟩
def R_PolygonU_lenU (C_Polygon : Addr) (ds : List Da) (d : Da) : Prop := ∃ vs : List Ve, ds = [poly C_Polygon vs] ∧ PolB vs ∧ d = .int (vs.length : Nat)
theorem ri_PolygonU_lenU {C_Polygon : Addr} {vs : List Ve} (h0 : PolB vs) : (R_PolygonU_lenU C_Polygon) [poly C_Polygon vs] (.int (vs.length : Nat)) := ⟨vs, rfl, h0, rfl⟩
theorem ok_PolygonU_lenU {f : Addr} {fd : FuncData} {C_Polygon : Addr} (F : FnP K "__len__" "Polygon.__len__" s_PolygonU_lenU f fd) (cl0 : Cls K C_Polygon) (me0 : Meth K C_Polygon "__len__" f) (fr_len : mg "len" = none) (cl_Polygon : Cls K C_Polygon) (na_Polygon_cycle : NoAttr K C_Polygon "cycle")  : C8.Met P w K mg base 1 C_Polygon "__len__" (Prm T (R_PolygonU_lenU C_Polygon)) [] := by
  refine ⟨⟨f, fd, _, [], cl0, me0, fn_pure F sc_PolygonU_lenU (fun ds d h => ?_) fun cdv A outer s H E hr => ⟨_, (pss_one (ps_ret (pe_callB call_len_seq (by rfl) fr_len PySem.boot_len (pa_cons (pe_fld (pv 0) rfl) pa_nil)))), fun ds d h => ?_⟩, F.bindsN (fun _ _ _ _ _ _ us hl => match us, hl with | [_], _ => rfl), .nil⟩⟩
  · obtain ⟨vs, rfl, hB, rfl⟩ := h
    rfl
  · obtain ⟨vs, rfl, hB, rfl⟩ := h
    exact .retE (sd_ret (ev_cb (ea_cons (ev_fld (ev_var rfl) cl_Polygon na_Polygon_cycle rfl) ea_nil) cd_lenL)) (by rw [List.length_map])
abbrev s_Polygon_vertices : Stmt := inClass (top 63) 3
theorem sc_Polygon_vertices : FnScope ["self"] ["self"] (defScope s_Polygon_vertices) := ⟨rfl, rfl, rfl, by decide +kernel, rfl, by decide +kernel, by decide +kernel⟩
def R_Polygon_vertices (C_Polygon : Addr) (ds : List Da) (d : Da) : Prop := ∃ vs : List Ve, ds = [poly C_Polygon vs] ∧ PolB vs ∧ d = .lst (vs.map v2)
theorem ri_Polygon_vertices {C_Polygon : Addr} {vs : List Ve} (h0 : PolB vs) : (R_Polygon_vertices C_Polygon) [poly C_Polygon vs] (.lst (vs.map v2)) := ⟨vs, rfl, h0, rfl⟩
theorem ok_Polygon_vertices {f : Addr} {fd : FuncData} {C_Polygon : Addr} (F : FnP K "vertices" "Polygon.vertices" s_Polygon_vertices f fd) (cl0 : Cls K C_Polygon) (me0 : Meth K C_Polygon "vertices" f) (fr_list : mg "list" = none) (cl_Polygon : Cls K C_Polygon) (na_Polygon_cycle : NoAttr K C_Polygon "cycle")  : C8.Met P w K mg base 1 C_Polygon "vertices" (Prm T (R_Polygon_vertices C_Polygon)) [] := by
  refine ⟨⟨f, fd, _, [], cl0, me0, fn_pure F sc_Polygon_vertices (fun ds d h => ?_) fun cdv A outer s H E hr => ⟨_, (pss_one (ps_ret (pe_callTy call_list_of (by rfl) fr_list (by decide +kernel) (pa_cons (pe_fld (pv 0) rfl) pa_nil)))), fun ds d h => ?_⟩, F.bindsN (fun _ _ _ _ _ _ us hl => match us, hl with | [_], _ => rfl), .nil⟩⟩
  · obtain ⟨vs, rfl, hB, rfl⟩ := h
    rfl
  · obtain ⟨vs, rfl, hB, rfl⟩ := h
    exact .retE (sd_ret (ev_cb (ea_cons (ev_fld (ev_var rfl) cl_Polygon na_Polygon_cycle rfl) ea_nil) cd_listL)) rfl
abbrev s_Polygon_vertex : Stmt := inClass (top 63) 4
theorem sc_Polygon_vertex : FnScope ["self", "index"] ["self", "index"] (defScope s_Polygon_vertex) := ⟨rfl, rfl, rfl, by decide +kernel, rfl, by decide +kernel, by decide +kernel⟩
def R_Polygon_vertex (C_Polygon : Addr) (ds : List Da) (d : Da) : Prop := ∃ (vs : List Ve) (i : Int), ds = [poly C_Polygon vs, .int i] ∧ PolB vs ∧ d = v2 (vtx vs i)
theorem ri_Polygon_vertex {C_Polygon : Addr} {vs : List Ve} {i : Int} (h0 : PolB vs) : (R_Polygon_vertex C_Polygon) [poly C_Polygon vs, .int i] (v2 (vtx vs i)) := ⟨vs, i, rfl, h0, rfl⟩
theorem ok_Polygon_vertex {f : Addr} {fd : FuncData} {C_Polygon : Addr} (F : FnP K "vertex" "Polygon.vertex" s_Polygon_vertex f fd) (cl0 : Cls K C_Polygon) (me0 : Meth K C_Polygon "vertex" f) (cl_Polygon : Cls K C_Polygon) (na_Polygon_cycle : NoAttr K C_Polygon "cycle") (fr_len : mg "len" = none)  : C8.Met P w K mg base 1 C_Polygon "vertex" (Prm T (R_Polygon_vertex C_Polygon)) [] := by
  refine ⟨⟨f, fd, _, [], cl0, me0, fn_pure F sc_Polygon_vertex (fun ds d h => ?_) fun cdv A outer s H E hr => ⟨_, (pss_one (ps_ret (pe_ix ix_list (pe_fld (pv 0) rfl) (pe_op op_mod (pv 1) (pe_callB call_len_seq (by rfl) fr_len PySem.boot_len (pa_cons (pe_fld (pv 0) rfl) pa_nil))) (fun _ _ => rfl)))), fun ds d h => ?_⟩, F.bindsN (fun _ _ _ _ _ _ us hl => match us, hl with | [_, _], _ => rfl), .nil⟩⟩
  · obtain ⟨vs, i, rfl, hB, rfl⟩ := h
    rfl
  · obtain ⟨vs, i, rfl, hB, rfl⟩ := h
    have hl := hB.lo
    refine .retE (sd_ret (ev_ixL (ev_fld (ev_var rfl) cl_Polygon na_Polygon_cycle rfl) (ev_mod (ev_var rfl) (ev_cb (ea_cons (ev_fld (ev_var rfl) cl_Polygon na_Polygon_cycle rfl) ea_nil) cd_lenL) ?_) (hB.atI i))) rfl
    rw [List.length_map]
    omega
abbrev s_Polygon_edge : Stmt := inClass (top 63) 5
theorem sc_Polygon_edge : FnScope ["self", "index"] ["self", "index"] (defScope s_Polygon_edge) := ⟨rfl, rfl, rfl, by decide +kernel, rfl, by decide +kernel, by decide +kernel⟩
def R_Polygon_edge (C_Polygon : Addr) (ds : List Da) (d : Da) : Prop := ∃ (vs : List Ve) (i : Int), ds = [poly C_Polygon vs, .int i] ∧ PolB vs ∧ d = v2 (edg vs i)
theorem ri_Polygon_edge {C_Polygon : Addr} {vs : List Ve} {i : Int} (h0 : PolB vs) : (R_Polygon_edge C_Polygon) [poly C_Polygon vs, .int i] (v2 (edg vs i)) := ⟨vs, i, rfl, h0, rfl⟩
theorem ok_Polygon_edge {f : Addr} {fd : FuncData} {C_Polygon : Addr} (F : FnP K "edge" "Polygon.edge" s_Polygon_edge f fd) (cl0 : Cls K C_Polygon) (me0 : Meth K C_Polygon "edge" f) (m_Polygon_vertex : C8.Met P w K mg base 1 C_Polygon "vertex" (Prm T (R_Polygon_vertex C_Polygon)) []) (c_difference : C8.Cal P w K mg base 1 "difference" (Prm T R_difference) [])  : C8.Met P w K mg base 2 C_Polygon "edge" (Prm T (R_Polygon_edge C_Polygon)) [] := by
  refine ⟨⟨f, fd, _, [], cl0, me0, fn_pure F sc_Polygon_edge (fun ds d h => ?_) fun cdv A outer s H E hr => ⟨_, (pss_one (ps_ret (C8.pe_c c_difference hr (by decide) rfl (pa_cons (C8.pe_mt m_Polygon_vertex hr (by decide) (pv 0) (pa_cons (pe_op op_add (pv 1) pe_int) pa_nil)) (pa_cons (C8.pe_mt m_Polygon_vertex hr (by decide) (pv 0) (pa_cons (pv 1) pa_nil)) pa_nil))))), fun ds d h => ?_⟩, F.bindsN (fun _ _ _ _ _ _ us hl => match us, hl with | [_, _], _ => rfl), .nil⟩⟩
  · obtain ⟨vs, i, rfl, hB, rfl⟩ := h
    rfl
  · obtain ⟨vs, i, rfl, hB, rfl⟩ := h
    exact .retE (sd_ret (ev_call (ea_cons (ev_meth (ev_var rfl) (ea_cons (ev_add (ev_var rfl) ev_int) ea_nil) ⟨vs, _, rfl, hB, rfl⟩) (ea_cons (ev_meth (ev_var rfl) (ea_cons (ev_var rfl) ea_nil) ⟨vs, _, rfl, hB, rfl⟩) ea_nil)) ⟨_, _, _, _, rfl, rfl⟩)) rfl
abbrev s_reflected : Stmt := top 30
theorem sc_reflected : FnScope ["point", "vertex", "x", "y", "denominator"] ["point", "vertex"] (defScope s_reflected) := ⟨rfl, rfl, rfl, by decide +kernel, rfl, by decide +kernel, by decide +kernel⟩
def R_reflected (ds : List Da) (d : Da) : Prop := ∃ (p : Pt) (v : Ve), ds = [p3 p, v2 v] ∧ Bd 300 v.1 ∧ Bd 300 v.2 ∧ Bd 30 p.2.2 ∧ d = p3 (refl p v)
theorem ri_reflected {p : Pt} {v : Ve} (h0 : Bd 300 v.1) (h1 : Bd 300 v.2) (h2 : Bd 30 p.2.2) : R_reflected [p3 p, v2 v] (p3 (refl p v)) := ⟨p, v, rfl, h0, h1, h2, rfl⟩
theorem ok_reflected {f : Addr} {fd : FuncData}  (F : FnP K "reflected" "reflected" s_reflected f fd) (hm : mg "reflected" = some (.ref f))   : C8.Cal P w K mg base 1 "reflected" (Prm T R_reflected) [] := by
  refine ⟨⟨f, fd, _, [], fn_pure F sc_reflected (fun ds d h => ?_) fun cdv A outer s H E hr => ⟨_, (pss_cons (ps_asg (pv 0) (pg_tup (by rfl) (pgs_cons (pg_name (i := 2) sc_reflected.nd rfl (Or.inl rfl)) (pgs_cons (pg_name (i := 3) sc_reflected.nd rfl (Or.inl rfl)) (pgs_cons (pg_name (i := 4) sc_reflected.nd rfl (Or.inl rfl)) pgs_nil))))) (pss_one (ps_ret (pe_tup (pa_cons (pe_op op_sub (pe_op op_mulW (pe_op op_mulW pe_int (pe_ix ix_tup (pv 1) pe_int (fun _ _ => rfl))) (pv 4)) (pv 2)) (pa_cons (pe_op op_sub (pe_op op_mulW (pe_op op_mulW pe_int (pe_ix ix_tup (pv 1) pe_int (fun _ _ => rfl))) (pv 4)) (pv 3)) (pa_cons (pv 4) pa_nil))))))), fun ds d h => ?_⟩, hm, F.kp, F.bindsN (fun _ _ _ _ _ _ us hl => match us, hl with | [_, _], _ => rfl), .nil⟩⟩
  · obtain ⟨p, v, rfl, h2, h3, h4, rfl⟩ := h
    rfl
  · obtain ⟨p, v, rfl, h2, h3, h4, rfl⟩ := h
    exact .retE (sd_seq (sd_asgG (ev_var rfl) (gd_tup (gds_cons gd_name (gds_cons gd_name (gds_cons gd_name gds_nil))))) (sd_ret (ev_tup (ea_cons (ev_sub (ev_mulB (ev_mulB ev_int (ev_ixT (ev_var rfl) ev_int rfl)) (ev_var rfl)) (ev_var rfl)) (ea_cons (ev_sub (ev_mulB (ev_mulB ev_int (ev_ixT (ev_var rfl) ev_int rfl)) (ev_var rfl)) (ev_var rfl)) (ea_cons (ev_var rfl) ea_nil)))))) rfl
abbrev s_edge_side : Stmt := top 31
theorem sc_edge_side : FnScope ["polygon", "index", "point", "x", "y", "denominator", "vertex"] ["polygon", "index", "point"] (defScope s_edge_side) := ⟨rfl, rfl, rfl, by decide +kernel, rfl, by decide +kernel, by decide +kernel⟩
def R_edge_side (C_Polygon : Addr) (ds : List Da) (d : Da) : Prop := ∃ (vs : List Ve) (i : Int) (p : Pt), ds = [poly C_Polygon vs, .int i, p3 p] ∧ PolB vs ∧ PtB p ∧ d = .int (side vs i p)
theorem ri_edge_side {C_Polygon : Addr} {vs : List Ve} {i : Int} {p : Pt} (h0 : PolB vs) (h1 : PtB p) : (R_edge_side C_Polygon) [poly C_Polygon vs, .int i, p3 p] (.int (side vs i p)) := ⟨vs, i, p, rfl, h0, h1, rfl⟩
theorem ok_edge_side {f : Addr} {fd : FuncData} {C_Polygon : Addr} (F : FnP K "edge_side" "edge_side" s_edge_side f fd) (hm : mg "edge_side" = some (.ref f)) (m_Polygon_vertex : C8.Met P w K mg base 1 C_Polygon "vertex" (Prm T (R_Polygon_vertex C_Polygon)) []) (m_Polygon_edge : C8.Met P w K mg base 2 C_Polygon "edge" (Prm T (R_Polygon_edge C_Polygon)) []) (c_cross : C8.Cal P w K mg base 1 "cross" (Prm T R_cross) [])  : C8.Cal P w K mg base 3 "edge_side" (Prm T (R_edge_side C_Polygon)) [] := by
  refine ⟨⟨f, fd, _, [], fn_pure F sc_edge_side (fun ds d h => ?_) fun cdv A outer s H E hr => ⟨_, (pss_cons (ps_asg (pv 2) (pg_tup (by rfl) (pgs_cons (pg_name (i := 3) sc_edge_side.nd rfl (Or.inl rfl)) (pgs_cons (pg_name (i := 4) sc_edge_side.nd rfl (Or.inl rfl)) (pgs_cons (pg_name (i := 5) sc_edge_side.nd rfl (Or.inl rfl)) pgs_nil))))) (pss_cons (ps_set (i := 6) sc_edge_side.nd rfl (Or.inl rfl) (C8.pe_mt m_Polygon_vertex hr (by decide) (pv 0) (pa_cons (pv 1) pa_nil))) (pss_one (ps_ret (C8.pe_c c_cross hr (by decide) rfl (pa_cons (C8.pe_mt m_Polygon_edge hr (by decide) (pv 0) (pa_cons (pv 1) pa_nil)) (pa_cons (pe_tup (pa_cons (pe_op op_sub (pv 3) (pe_op op_mulW (pe_ix ix_tup (pv 6) pe_int (fun _ _ => rfl)) (pv 5))) (pa_cons (pe_op op_sub (pv 4) (pe_op op_mulW (pe_ix ix_tup (pv 6) pe_int (fun _ _ => rfl)) (pv 5))) pa_nil))) pa_nil))))))), fun ds d h => ?_⟩, hm, F.kp, F.bindsN (fun _ _ _ _ _ _ us hl => match us, hl with | [_, _, _], _ => rfl), .nil⟩⟩
  · obtain ⟨vs, i, p, rfl, hB, hp, rfl⟩ := h
    rfl
  · obtain ⟨vs, i, p, rfl, hB, hp, rfl⟩ := h
    have := hB.b1 i; have := hB.b2 i; have := hp.x; have := hp.y; have := hp.d
    refine .retE (sd_seq (sd_asgG (ev_var rfl) (gd_tup (gds_cons gd_name (gds_cons gd_name (gds_cons gd_name gds_nil))))) (sd_seq (sd_asg (ev_meth (ev_var rfl) (ea_cons (ev_var rfl) ea_nil) ⟨vs, _, rfl, hB, rfl⟩)) (sd_ret (ev_call (ea_cons (ev_meth (ev_var rfl) (ea_cons (ev_var rfl) ea_nil) ⟨vs, _, rfl, hB, rfl⟩) (ea_cons (ev_tup (ea_cons (ev_sub (ev_var rfl) (ev_mulB (ev_ixT (ev_var rfl) ev_int rfl) (ev_var rfl))) (ea_cons (ev_sub (ev_var rfl) (ev_mulB (ev_ixT (ev_var rfl) ev_int rfl) (ev_var rfl))) ea_nil))) ea_nil)) ⟨_, _, _, _, rfl, (hB.e1 i).up (by decide), (hB.e2 i).up (by decide), Bd.up inferInstance (by decide : 300 + (6 + 30) + 1 ≤ 100000), Bd.up inferInstance (by decide : 300 + (6 + 30) + 1 ≤ 100000), rfl⟩)))) rfl
end
end O26
set_option Elab.async false
set_option linter.all false
set_option maxRecDepth 100000
set_option maxHeartbeats 4000000
namespace O26
open PySem PySem.Spec PyProof.Rows L2
/-- all parameters written, where defaults stand -/
theorem binds_full {K : PySem.W.Frag} {x qual : Str} {params : Arguments} {body : List Stmt} {scope : Scope} {dvs : List V} {f : Addr} {fd : FuncData} {ps : List Str} (F : FunD K x qual params body scope dvs [] f fd) (n j : Nat) (hd : dvs ≠ []) (hj : dvs.length = j)
    (h : ∀ (T : Addr) (kV doc pm : Value) (an : Option Addr) (cdv ct : Value) (us its : List Value), us.length = n → its.length = j →
      ∃ k, bindArgs (PySem.W.fnOf x qual params body scope (.ref T) kV doc pm an cdv ct) ⟨us, []⟩ = seqItems? (.ref T) >>= k ∧ k (some its.toArray) = pure (ps.zip (us ++ its.drop j))) (hn : n = ps.length := by rfl) : L2.Binds K fd ps [] := by
  obtain ⟨ds, v, b⟩ := F.binds1 n j hd (by omega) (fun T kV doc pm an cdv ct us its h1 h2 => h T kV doc pm an cdv ct us its h1 (by omega))
  rw [List.drop_eq_nil_of_le (by omega)] at v
  cases v
  exact b
theorem lc_mapG {T : Tb} {S : Os} {α : Type} {i : Nat} {te : TE} {vs : List Nat} {δ : List (Option Da)} {g f : α → Da} (hv : i ∈ vs) : ∀ {xs : List α}, (∀ x ∈ xs, EvD T S te ((wipeD δ vs).set i (some (g x))) (f x)) → LcD T S (gName i) tYes te vs δ (xs.map g) (xs.map f)
  | [], _ => .nil
  | x :: xs, h => .keep gd_name (fun j hj => by rw [List.mem_singleton.mp hj]; exact hv) et_yes (h x List.mem_cons_self) (lc_mapG hv fun y hy => h y (List.mem_cons_of_mem _ hy))
theorem lc_filtG {T : Tb} {S : Os} {α : Type} {i : Nat} {tt : TT} {te : TE} {vs : List Nat} {δ : List (Option Da)} {q : α → Bool} {g f : α → Da} (hv : i ∈ vs) : ∀ {xs : List α}, (∀ x ∈ xs, EvT T S tt ((wipeD δ vs).set i (some (g x))) (q x)) → (∀ x ∈ xs, q x = true → EvD T S te ((wipeD δ vs).set i (some (g x))) (f x)) → LcD T S (gName i) tt te vs δ (xs.map g) ((xs.filter q).map f)
  | [], _, _ => .nil
  | x :: xs, h, k => by
    have ih := lc_filtG (q := q) (f := f) hv (xs := xs) (fun y hy => h y (List.mem_cons_of_mem _ hy)) fun y hy => k y (List.mem_cons_of_mem _ hy)
    have hx := h x List.mem_cons_self
    cases e : q x with
    | true =>
      rw [List.filter_cons_of_pos e]
      exact .keep gd_name (fun j hj => by rw [List.mem_singleton.mp hj]; exact hv) (e ▸ hx) (k x List.mem_cons_self e) ih
    | false =>
      rw [List.filter_cons_of_neg (by rw [e]; exact Bool.false_ne_true)]
      exact .drop gd_name (fun j hj => by rw [List.mem_singleton.mp hj]; exact hv) (e ▸ hx) ih
/-- a loop that seeks -/
theorem for_seekR {T : Tb} {S : Os} (n : Nat) {g : TG} {tb : TS} {q : Nat → Bool} {it res : Nat → Da} {G : List (Option Da) → Prop} (yes : ∀ a δ, a < n → G δ → q a = true → ∃ δ1 sl, GD T S g (it a) δ δ1 sl ∧ SD T S tb δ1 (.ret (res a)))
    (no : ∀ a δ, a < n → G δ → q a = false → ∃ δ1 sl δ2, GD T S g (it a) δ δ1 sl ∧ SD T S tb δ1 (.nx δ2 S) ∧ G δ2) : ∀ (δ : List (Option Da)), G δ →
    (∀ a, (List.range n).find? q = some a → ForD T g tb S ((List.range n).map it) δ (.ret (res a))) ∧ ((List.range n).find? q = none → ∃ δ', G δ' ∧ ForD T g tb S ((List.range n).map it) δ (.nx δ' S)) := by
  have go : ∀ (xs : List Nat), (∀ a ∈ xs, a < n) → ∀ δ, G δ → (∀ a, xs.find? q = some a → ForD T g tb S (xs.map it) δ (.ret (res a))) ∧ (xs.find? q = none → ∃ δ', G δ' ∧ ForD T g tb S (xs.map it) δ (.nx δ' S)) := by
    intro xs
    induction xs with
    | nil => exact fun _ δ hG => ⟨fun a h => (by cases h), fun _ => ⟨δ, hG, .nil⟩⟩
    | cons x xs ih =>
      intro hx δ hG
      have hx0 := hx x List.mem_cons_self
      cases e : q x with
      | true =>
        rw [List.find?_cons_of_pos e]
        obtain ⟨δ1, sl, h1, h2⟩ := yes x δ hx0 hG e
        exact ⟨fun a h => by cases h; exact .ret h1 h2, fun h => by cases h⟩
      | false =>
        rw [List.find?_cons_of_neg (by rw [e]; exact Bool.false_ne_true)]
        obtain ⟨δ1, sl, δ2, h1, h2, h3⟩ := no x δ hx0 hG e
        obtain ⟨i1, i2⟩ := ih (fun a ha => hx a (List.mem_cons_of_mem _ ha)) δ2 h3
        exact ⟨fun a h => .next h1 h2 (i1 a h), fun h => by
          obtain ⟨δ', k1, k2⟩ := i2 h
          exact ⟨δ', k1, .next h1 h2 k2⟩⟩
  exact go _ fun a ha => List.mem_range.mp ha
theorem for_seekY {T : Tb} {S : Os} (n : Nat) {g : TG} {tb : TS} {q : Nat → Bool} {it res : Nat → Da} {G : List (Option Da) → Prop} {δ : List (Option Da)} {a : Nat} (yes : ∀ a δ, a < n → G δ → q a = true → ∃ δ1 sl, GD T S g (it a) δ δ1 sl ∧ SD T S tb δ1 (.ret (res a)))
    (no : ∀ a δ, a < n → G δ → q a = false → ∃ δ1 sl δ2, GD T S g (it a) δ δ1 sl ∧ SD T S tb δ1 (.nx δ2 S) ∧ G δ2) (hG : G δ) (e : (List.range n).find? q = some a) : ForD T g tb S ((List.range n).map it) δ (.ret (res a)) := (for_seekR n yes no δ hG).1 a e
theorem for_seekN {T : Tb} {S : Os} (n : Nat) {g : TG} {tb : TS} {q : Nat → Bool} {it res : Nat → Da} {G : List (Option Da) → Prop} {δ : List (Option Da)} (yes : ∀ a δ, a < n → G δ → q a = true → ∃ δ1 sl, GD T S g (it a) δ δ1 sl ∧ SD T S tb δ1 (.ret (res a)))
    (no : ∀ a δ, a < n → G δ → q a = false → ∃ δ1 sl δ2, GD T S g (it a) δ δ1 sl ∧ SD T S tb δ1 (.nx δ2 S) ∧ G δ2) (hG : G δ) (e : (List.range n).find? q = none) : ∃ δ', G δ' ∧ ForD T g tb S ((List.range n).map it) δ (.nx δ' S) := (for_seekR n yes no δ hG).2 e
theorem sd_forE {T : Tb} {S : Os} {g : TG} {ts tu : TS} {wi : TI} {items : List Da} {δ : List (Option Da)} {o : Out} {G : List (Option Da) → Prop} (hi : ItD T S wi δ items) (h : ∃ δ', G δ' ∧ ForD T g ts S items δ (.nx δ' S)) (k : ∀ δ', G δ' → SD T S tu δ' o) : SD T S (tSeq (tFor wi g ts) tu) δ o := by
  obtain ⟨δ', h1, h2⟩ := h
  exact sd_seq (sd_for hi h2) (k δ' h1)
theorem pairD_range (ns : List Int) : pairD (rngD 0 ((ns.map Da.int).length)) (ns.map Da.int) = (List.range ns.length).map fun i => .tup [.int (0 + (i : Nat)), .int (ns.getD i 0)] := by
  refine List.ext_getElem? fun i => ?_
  unfold pairD
  rw [List.getElem?_map, List.getElem?_map, List.length_map]
  by_cases h : i < ns.length
  · have h2 : (ns.map Da.int)[i]? = some (.int (ns.getD i 0)) := by
      rw [List.getElem?_map, List.getD_eq_getElem?_getD, List.getElem?_eq_getElem h]
      rfl
    have z : ((rngD 0 ns.length).zip (ns.map Da.int))[i]? = some (.int (0 + (i : Nat)), .int (ns.getD i 0)) := List.getElem?_zip_eq_some.mpr ⟨rngD_get 0 _ i h, h2⟩
    rw [z, List.getElem?_range h]
    rfl
  · rw [List.getElem?_eq_none (by rw [List.length_zip, rngD_length, List.length_map]; omega), List.getElem?_eq_none (by rw [List.length_range]; omega)]
    rfl
theorem sides_len (vs : List Ve) (p : Pt) : (sides vs p).length = vs.length := by unfold sides; rw [List.length_map, List.length_range]
theorem atI_at {ns : List Int} {i : Nat} (h : i < ns.length) : atI (ns.map Da.int) (0 + (i : Nat)) = some (.int (ns.getD i 0)) := by
  rw [Int.zero_add]
  refine atI_nat ?_
  rw [List.getElem?_map, List.getD_eq_getElem?_getD, List.getElem?_eq_getElem h]
  rfl
theorem atI_neg1 {α : Type} {xs : List α} (h : 0 < xs.length) : atI xs (-1) = xs[xs.length - 1]? := by
  unfold atI ixN
  rw [if_neg (by omega), if_pos (by omega)]
  show xs[(-1 + (xs.length : Int)).toNat]? = _
  rw [show (-1 + (xs.length : Int)).toNat = xs.length - 1 by omega]
theorem atI_prev {ns : List Int} {i : Nat} (h : i < ns.length) : atI (ns.map Da.int) (0 + (i : Nat) - 1) = some (.int (prev ns i)) := by
  unfold prev
  by_cases hi : i = 0
  · subst hi
    rw [if_pos rfl]
    show atI (ns.map Da.int) (-1) = _
    rw [atI_neg1 (by rw [List.length_map]; exact h), List.length_map, List.getElem?_map, List.getD_eq_getElem?_getD, List.getElem?_eq_getElem (by omega)]
    rfl
  · rw [if_neg hi]
    have e : (0 + (i : Nat) - 1 : Int) = 0 + ((i - 1 : Nat) : Int) := by omega
    rw [e]
    exact atI_at (by omega)
def optD : Option Nat → Da
  | none => .non
  | some i => .int (i : Nat)
/-- a point as the functions take it -/
structure PtOk (p : Pt) : Prop where
  d1 : 1 ≤ p.2.2
  d2 : p.2.2 ≤ 1000000
  g : Int.gcd (Int.gcd p.1 p.2.1 : Nat) p.2.2 = 1
  x1 : -(10000000000000000000000000000000000000000 * p.2.2) ≤ p.1
  x2 : p.1 ≤ 10000000000000000000000000000000000000000 * p.2.2
  y1 : -(10000000000000000000000000000000000000000 * p.2.2) ≤ p.2.1
  y2 : p.2.1 ≤ 10000000000000000000000000000000000000000 * p.2.2
theorem PtOk.b {p : Pt} (h : PtOk p) : PtB p := by
  have := h.d1; have := h.d2; have := h.x1; have := h.x2; have := h.y1; have := h.y2
  exact ⟨.of_le 10000000000000000000000000000000000000000000000 (by omega) (by omega), .of_le 10000000000000000000000000000000000000000000000 (by omega) (by omega), .of_le 1000000 (by omega) (by omega)⟩
def OutS (vs : List Ve) (p : Pt) : Prop := ∃ i, i < vs.length ∧ side vs (0 + (i : Nat)) p < 0
theorem minI : ∀ (x : Int) (xs : List Int), ∃ m, (m ∈ x :: xs ∧ ∀ y ∈ x :: xs, m ≤ y)
  | x, [] => ⟨x, List.mem_cons_self, fun y hy => by rw [List.mem_singleton.mp hy]; exact Int.le_refl _⟩
  | x, z :: xs => by
    obtain ⟨m, h1, h2⟩ := minI z xs
    by_cases h : x ≤ m
    · exact ⟨x, List.mem_cons_self, fun y hy => by
        rcases List.mem_cons.mp hy with e | e
        · rw [e]; exact Int.le_refl _
        · exact Int.le_trans h (h2 y e)⟩
    · exact ⟨m, List.mem_cons_of_mem _ h1, fun y hy => by
        rcases List.mem_cons.mp hy with e | e
        · rw [e]; omega
        · exact h2 y e⟩
section
variable {P : Program} {w : World} {K : PySem.W.Frag} {mg : Str → Option Value} {base : Heap} {T : Tb}
abbrev s_translated : Stmt := top 29
theorem sc_translated : FnScope ["point", "vector", "count", "x", "y", "denominator"] ["point", "vector", "count"] (defScope s_translated) := ⟨rfl, rfl, rfl, by decide +kernel, rfl, by decide +kernel, by decide +kernel⟩
def R_translated (ds : List Da) (d : Da) : Prop := ∃ (p : Pt) (v : Ve) (c : Int), ds = [p3 p, v2 v, .int c] ∧ Bd 300 c ∧ Bd 300 v.1 ∧ Bd 300 v.2 ∧ Bd 30 p.2.2 ∧ d = p3 (trans p v c)
theorem ri_translated {p : Pt} {v : Ve} {c : Int} (h0 : Bd 300 c) (h1 : Bd 300 v.1) (h2 : Bd 300 v.2) (h3 : Bd 30 p.2.2) : R_translated [p3 p, v2 v, .int c] (p3 (trans p v c)) := ⟨p, v, c, rfl, h0, h1, h2, h3, rfl⟩
theorem ok_translated {f : Addr} {fd : FuncData}  (F : FunD K "translated" "translated" (defArgs s_translated) (defBody s_translated) (defScope s_translated) [.int 1] [] f fd) (hm : mg "translated" = some (.ref f))   : C8.Cal P w K mg base 1 "translated" (Prm T R_translated) [] := by
  refine ⟨⟨f, fd, _, [], fn_pure F sc_translated (fun ds d h => ?_) fun cdv A outer s H E hr => ⟨_, (pss_cons (ps_asg (pv 0) (pg_tup (by rfl) (pgs_cons (pg_name (i := 3) sc_translated.nd rfl (Or.inl rfl)) (pgs_cons (pg_name (i := 4) sc_translated.nd rfl (Or.inl rfl)) (pgs_cons (pg_name (i := 5) sc_translated.nd rfl (Or.inl rfl)) pgs_nil))))) (pss_one (ps_ret (pe_tup (pa_cons (pe_op op_add (pv 3) (pe_op op_mulW (pe_op op_mulW (pv 2) (pe_ix ix_tup (pv 1) pe_int (fun _ _ => rfl))) (pv 5))) (pa_cons (pe_op op_add (pv 4) (pe_op op_mulW (pe_op op_mulW (pv 2) (pe_ix ix_tup (pv 1) pe_int (fun _ _ => rfl))) (pv 5))) (pa_cons (pv 5) pa_nil))))))), fun ds d h => ?_⟩, hm, F.kp, binds_full F 3 1 (by simp) rfl (fun _ _ _ _ _ _ _ us its h1 h2 => match us, its, h1, h2 with | [_, _, _], [_], _, _ => ⟨_, rfl, rfl⟩), .nil⟩⟩
  · obtain ⟨p, v, c, rfl, h1, h2, h3, h4, rfl⟩ := h
    rfl
  · obtain ⟨p, v, c, rfl, h1, h2, h3, h4, rfl⟩ := h
    exact .retE (sd_seq (sd_asgG (ev_var rfl) (gd_tup (gds_cons gd_name (gds_cons gd_name (gds_cons gd_name gds_nil))))) (sd_ret (ev_tup (ea_cons (ev_add (ev_var rfl) (ev_mulB (ev_mulB (ev_var rfl) (ev_ixT (ev_var rfl) ev_int rfl)) (ev_var rfl))) (ea_cons (ev_add (ev_var rfl) (ev_mulB (ev_mulB (ev_var rfl) (ev_ixT (ev_var rfl) ev_int rfl)) (ev_var rfl))) (ea_cons (ev_var rfl) ea_nil)))))) rfl
abbrev s_edge_sides : Stmt := top 32
theorem sc_edge_sides : FnScope ["polygon", "point", "index"] ["polygon", "point"] (defScope s_edge_sides) := ⟨rfl, rfl, rfl, by decide +kernel, rfl, by decide +kernel, by decide +kernel⟩
def R_edge_sides (C_Polygon : Addr) (ds : List Da) (d : Da) : Prop := ∃ (vs : List Ve) (p : Pt), ds = [poly C_Polygon vs, p3 p] ∧ PolB vs ∧ PtB p ∧ d = .lst ((sides vs p).map Da.int)
theorem ri_edge_sides {C_Polygon : Addr} {vs : List Ve} {p : Pt} (h0 : PolB vs) (h1 : PtB p) : (R_edge_sides C_Polygon) [poly C_Polygon vs, p3 p] (.lst ((sides vs p).map Da.int)) := ⟨vs, p, rfl, h0, h1, rfl⟩
theorem ok_edge_sides {f : Addr} {fd : FuncData} {C_Polygon : Addr} (F : FnP K "edge_sides" "edge_sides" s_edge_sides f fd) (hm : mg "edge_sides" = some (.ref f)) (fr_range : mg "range" = none) (fr_len : mg "len" = none) (m_PolygonU_lenU : C8.Met P w K mg base 1 C_Polygon "__len__" (Prm T (R_PolygonU_lenU C_Polygon)) []) (c_edge_side : C8.Cal P w K mg base 3 "edge_side" (Prm T (R_edge_side C_Polygon)) [])  : C8.Cal P w K mg base 4 "edge_sides" (Prm T (R_edge_sides C_Polygon)) [] := by
  refine ⟨⟨f, fd, _, [], fn_pure F sc_edge_sides (fun ds d h => ?_) fun cdv A outer s H E hr => ⟨_, (pss_one (ps_ret (pe_lc (by rfl) sc_edge_sides.nd (pi_range1 rfl fr_range (pa_cons (pe_callB (call_lenO m_PolygonU_lenU hr (by decide)) (by rfl) fr_len PySem.boot_len (pa_cons (pv 0) pa_nil)) pa_nil)) (blkOk_by (own := [("index", 2)]) (N := ["polygon", "point", "index"]) (sc := defScope s_edge_sides) (by decide +kernel)) (fun _ _ _ _ _ => (pg_name (i := 2) sc_edge_sides.nd rfl (Or.inl rfl))) (fun _ _ _ _ _ => pts_nil) (fun _ _ _ _ _ => (C8.pe_c c_edge_side hr (by decide) rfl (pa_cons (pv 0) (pa_cons (pv 2) (pa_cons (pv 1) pa_nil)))))))), fun ds d h => ?_⟩, hm, F.kp, F.bindsN (fun _ _ _ _ _ _ us hl => match us, hl with | [_, _], _ => rfl), .nil⟩⟩
  · obtain ⟨vs, p, rfl, hB, hp, rfl⟩ := h
    rfl
  · obtain ⟨vs, p, rfl, hB, hp, rfl⟩ := h
    have hl := hB.lo
    have hh := hB.hi
    refine .retE (sd_ret (ev_lc (items := rngD 0 ((vs.length : Nat) : Int).toNat) (it_rng1 (ea_cons (ev_lenO (ev_var rfl) ⟨_, rfl, hB, rfl⟩ (by have := hB.hi; omega)) ea_nil) (by omega)) (lc_mapG (i := 2) (xs := List.range ((vs.length : Nat) : Int).toNat) (f := fun i => .int (side vs (0 + (i : Nat)) p)) (by decide) fun i hi => ev_call (ea_cons (ev_var rfl) (ea_cons (ev_var rfl) (ea_cons (ev_var rfl) ea_nil))) ⟨vs, _, p, rfl, hB, hp, rfl⟩) (by rw [rngD_length]; omega))) ?_
    unfold sides
    rw [List.map_map, Int.toNat_natCast]
    rfl
abbrev s_is_point_shape : Stmt := top 26
theorem sc_is_point_shape : FnScope ["value", "number"] ["value"] (defScope s_is_point_shape) := ⟨rfl, rfl, rfl, by decide +kernel, rfl, by decide +kernel, by decide +kernel⟩
def R_is_point_shape (ds : List Da) (d : Da) : Prop := ∃ p : Pt, ds = [p3 p] ∧ PtOk p ∧ d = .bl true
theorem ri_is_point_shape {p : Pt} (h0 : PtOk p) : R_is_point_shape [p3 p] (.bl true) := ⟨p, rfl, h0, rfl⟩
theorem ok_is_point_shape {f : Addr} {fd : FuncData}  (F : FnP K "is_point_shape" "is_point_shape" s_is_point_shape f fd) (hm : mg "is_point_shape" = some (.ref f)) (fr_isinstance : mg "isinstance" = none) (fr_tuple : mg "tuple" = none) (fr_len : mg "len" = none) (fr_all : mg "all" = none) (c_is_int : C8.Cal P w K mg base 1 "is_int" (Prm T R_is_int) []) (c_gcd : C8.Cal P w K mg base 1 "gcd" (Prm T R_gcd) [])  : C8.Cal P w K mg base 2 "is_point_shape" (Prm T R_is_point_shape) [] := by
  refine ⟨⟨f, fd, _, [], fn_pure F sc_is_point_shape (fun ds d h => ?_) fun cdv A outer s H E hr => ⟨_, (pss_cons (ps_if (PW.pt (pw_or (pt_not (pt_val (pe_callB call_isi (by rfl) fr_isinstance (by decide +kernel) (pa_cons (pv 0) (pa_cons (pe_bltn (by rfl) fr_tuple (by decide +kernel) (v := .ty "tuple") rfl) pa_nil))))) (pw_or (pt_cmpR op_ne (pe_callB call_len_seq (by rfl) fr_len PySem.boot_len (pa_cons (pv 0) pa_nil)) pe_int (nomark _)) (pw_or1 (pt_not (pt_val (pe_callB (cr_all (by rfl)) (by rfl) fr_all (by decide +kernel) (pa_cons (pe_lc (by rfl) sc_is_point_shape.nd (pi_tup (pv 0)) (blkOk_by (own := [("number", 1)]) (N := ["value", "number"]) (sc := defScope s_is_point_shape) (by decide +kernel)) (fun _ _ _ _ _ => (pg_name (i := 1) sc_is_point_shape.nd rfl (Or.inl rfl))) (fun _ _ _ _ _ => pts_nil) (fun _ _ _ _ _ => (C8.pe_c c_is_int hr (by decide) rfl (pa_cons (pv 1) pa_nil)))) pa_nil)))))))) (pss_one (ps_ret pe_bl)) pss_nil) (pss_one (ps_ret (pe_and (pe_cmpR op_ge (pe_ix ix_tup (pv 0) pe_int (fun _ _ => rfl)) pe_int (nomark _)) (pe_one (pe_cmpR op_eq (C8.pe_c c_gcd hr (by decide) rfl (pa_cons (C8.pe_c c_gcd hr (by decide) rfl (pa_cons (pe_ix ix_tup (pv 0) pe_int (fun _ _ => rfl)) (pa_cons (pe_ix ix_tup (pv 0) pe_int (fun _ _ => rfl)) pa_nil))) (pa_cons (pe_ix ix_tup (pv 0) pe_int (fun _ _ => rfl)) pa_nil))) pe_int (nomark _))))))), fun ds d h => ?_⟩, hm, F.kp, F.bindsN (fun _ _ _ _ _ _ us hl => match us, hl with | [_], _ => rfl), .nil⟩⟩
  · obtain ⟨p, rfl, hp, rfl⟩ := h
    rfl
  · obtain ⟨p, rfl, hp, rfl⟩ := h
    refine .retE (sd_seq (sd_ifF (et_is (et_or (et_not (et_B (ev_isiT_tuple (ev_var rfl)))) fun _ => et_or (et_test (ev_neI (ev_cb (ea_cons (ev_var rfl) ea_nil) cd_lenT) ev_int)) fun _ => et_not (et_B (ev_cb (ea_cons (ev_lc (it_tup (ev_var rfl)) (lc_mapG (i := 1) (xs := [p.1, p.2.1, p.2.2]) (g := Da.int) (f := fun _ => .bl true) (by decide) fun i hi => ev_call (ea_cons (ev_var rfl) ea_nil) ⟨_, rfl, rfl⟩)) ea_nil) (cd_all (bs := [true, true, true]))))) rfl) sd_next) (sd_ret (ev_andV (ev_cmp (ev_ixT (ev_var rfl) ev_int rfl) ev_int) fun _ => ev_eqI (ev_call (ea_cons (ev_call (ea_cons (ev_ixT (ev_var rfl) ev_int rfl) (ea_cons (ev_ixT (ev_var rfl) ev_int rfl) ea_nil)) ⟨_, _, rfl, rfl⟩) (ea_cons (ev_ixT (ev_var rfl) ev_int rfl) ea_nil)) ⟨_, _, rfl, rfl⟩) ev_int))) ?_
    have h1 := hp.d1
    have h2 := hp.g
    show Da.bl (decide (1 ≤ p.2.2) && decide (((Int.gcd (Int.gcd p.1 p.2.1 : Nat) p.2.2 : Nat) : Int) = 1)) = _
    rw [h2, decide_eq_true h1]
    rfl
abbrev s_is_point : Stmt := top 27
theorem sc_is_point : FnScope ["value", "limit", "number"] ["value"] (defScope s_is_point) := ⟨rfl, rfl, rfl, by decide +kernel, rfl, by decide +kernel, by decide +kernel⟩
def R_is_point (ds : List Da) (d : Da) : Prop := ∃ p : Pt, ds = [p3 p] ∧ PtOk p ∧ d = .bl true
theorem ri_is_point {p : Pt} (h0 : PtOk p) : R_is_point [p3 p] (.bl true) := ⟨p, rfl, h0, rfl⟩
theorem ok_is_point {f : Addr} {fd : FuncData}  (F : FnP K "is_point" "is_point" s_is_point f fd) (hm : mg "is_point" = some (.ref f)) (c_is_point_shape : C8.Cal P w K mg base 2 "is_point_shape" (Prm T R_is_point_shape) []) (cs_MAX_DENOMINATOR : ∃ u, mg "MAX_DENOMINATOR" = some u ∧ RelV (.int 1000000) u) (cs_MAX_DISTANCE : ∃ u, mg "MAX_DISTANCE" = some u ∧ RelV (.int 10000000000000000000000000000000000000000) u) (fr_all : mg "all" = none) (c_is_int_in : C8.Cal P w K mg base 2 "is_int_in" (Prm T R_is_int_in) [])  : C8.Cal P w K mg base 3 "is_point" (Prm T R_is_point) [] := by
  refine ⟨⟨f, fd, _, [], fn_pure F sc_is_point (fun ds d h => ?_) fun cdv A outer s H E hr => ⟨_, (pss_cons (ps_if (PW.pt (pw_or (pt_not (pt_val (C8.pe_c c_is_point_shape hr (by decide) rfl (pa_cons (pv 0) pa_nil)))) (pw_or1 (pt_cmpR op_gt (pe_ix ix_tup (pv 0) pe_int (fun _ _ => rfl)) (C8.pe_gc rfl cs_MAX_DENOMINATOR) (nomark _))))) (pss_one (ps_ret pe_bl)) pss_nil) (pss_cons (ps_set (i := 1) sc_is_point.nd rfl (Or.inr rfl) (pe_op op_mulW (C8.pe_gc rfl cs_MAX_DISTANCE) (pe_ix ix_tup (pv 0) pe_int (fun _ _ => rfl)))) (pss_one (ps_ret (pe_callB (cr_all (by rfl)) (by rfl) fr_all (by decide +kernel) (pa_cons (pe_lc (by rfl) sc_is_point.nd (pi_tup (pe_slice sl_tup (pv 0) po_none (po_some pe_int))) (blkOk_by (own := [("number", 2)]) (N := ["value", "limit", "number"]) (sc := defScope s_is_point) (by decide +kernel)) (fun _ _ _ _ _ => (pg_name (i := 2) sc_is_point.nd rfl (Or.inl rfl))) (fun _ _ _ _ _ => pts_nil) (fun _ _ _ _ _ => (C8.pe_c c_is_int_in hr (by decide) rfl (pa_cons (pv 2) (pa_cons (pe_un un_neg (pv 1)) (pa_cons (pv 1) pa_nil)))))) pa_nil)))))), fun ds d h => ?_⟩, hm, F.kp, F.bindsN (fun _ _ _ _ _ _ us hl => match us, hl with | [_], _ => rfl), .nil⟩⟩
  · obtain ⟨p, rfl, hp, rfl⟩ := h
    rfl
  · obtain ⟨p, rfl, hp, rfl⟩ := h
    have := hp.b.d
    refine .retE (sd_seq (sd_ifF (et_is (et_or (et_not (et_B (ev_call (ea_cons (ev_var rfl) ea_nil) (ri_is_point_shape hp)))) fun _ => (et_test (ev_cmp (ev_ixT (ev_var rfl) ev_int rfl) ev_int))) ?_) sd_next) (sd_seq (sd_asg (ev_mul ev_int (ev_ixT (ev_var rfl) ev_int rfl) ?_)) (sd_ret (ev_cb (ea_cons (ev_lc (it_tup (ev_slT (ev_var rfl) eo_none (eo_some ev_int) (by show ¬ ((0 : Nat) = 0 ∧ (2 : Nat) = 3); decide))) (lc_mapG (i := 2) (xs := [p.1, p.2.1]) (g := Da.int) (f := fun _ => .bl true) (by decide) fun i hi => ev_is (ev_call (ea_cons (ev_var rfl) (ea_cons (ev_neg (ev_var rfl)) (ea_cons (ev_var rfl) ea_nil))) ⟨_, _, _, rfl, rfl⟩) ?_)) ea_nil) (cd_all (bs := [true, true])))))) rfl
    · have h1 := hp.d2
      show (!true || decide (1000000 < p.2.2)) = false
      rw [decide_eq_false (by omega)]
      rfl
    · exact bdOk (a := 200) (b := 30) ⟨by decide +kernel⟩ hp.b.d
    · have h1 := hp.x1; have h2 := hp.x2; have h3 := hp.y1; have h4 := hp.y2
      have e : ∀ j : Int, j ∈ [p.1, p.2.1] → (decide (-(10000000000000000000000000000000000000000 * p.2.2) ≤ j) && decide (j ≤ 10000000000000000000000000000000000000000 * p.2.2)) = true := fun j hj => by
        rw [Bool.and_eq_true, decide_eq_true_eq, decide_eq_true_eq]
        rcases List.mem_cons.mp hj with rfl | hj
        · exact ⟨h1, h2⟩
        · rw [List.mem_singleton.mp hj]; exact ⟨h3, h4⟩
      exact congrArg Da.bl (e i hi)
abbrev s_require_point : Stmt := top 28
theorem sc_require_point : FnScope ["point"] ["point"] (defScope s_require_point) := ⟨rfl, rfl, rfl, by decide +kernel, rfl, by decide +kernel, by decide +kernel⟩
def R_require_point (ds : List Da) (d : Da) : Prop := ∃ p : Pt, ds = [p3 p] ∧ PtOk p ∧ d = .non
theorem ri_require_point {p : Pt} (h0 : PtOk p) : R_require_point [p3 p] (.non) := ⟨p, rfl, h0, rfl⟩
theorem ok_require_point {f : Addr} {fd : FuncData}  (F : FnP K "require_point" "require_point" s_require_point f fd) (hm : mg "require_point" = some (.ref f)) (c_is_point : C8.Cal P w K mg base 3 "is_point" (Prm T R_is_point) [])  : C8.Cal P w K mg base 4 "require_point" (Prm T R_require_point) [] := by
  refine ⟨⟨f, fd, _, [], fn_pure F sc_require_point (fun ds d h => ?_) fun cdv A outer s H E hr => ⟨_, (pss_one (ps_if (pt_not (pt_val (C8.pe_c c_is_point hr (by decide) rfl (pa_cons (pv 0) pa_nil)))) (pss_one ps_never) pss_nil)), fun ds d h => ?_⟩, hm, F.kp, F.bindsN (fun _ _ _ _ _ _ us hl => match us, hl with | [_], _ => rfl), .nil⟩⟩
  · obtain ⟨p, rfl, hp, rfl⟩ := h
    rfl
  · obtain ⟨p, rfl, hp, rfl⟩ := h
    exact .nx (sd_ifF (et_not (et_B (ev_call (ea_cons (ev_var rfl) ea_nil) (ri_is_point hp)))) sd_next)
abbrev s_lies_outside : Stmt := top 33
theorem sc_lies_outside : FnScope ["polygon", "point"] ["polygon", "point"] (defScope s_lies_outside) := ⟨rfl, rfl, rfl, by decide +kernel, rfl, by decide +kernel, by decide +kernel⟩
def R_lies_outside (C_Polygon : Addr) (ds : List Da) (d : Da) : Prop := ∃ (vs : List Ve) (p : Pt), ds = [poly C_Polygon vs, p3 p] ∧ PolB vs ∧ PtB p ∧ OutS vs p ∧ d = .bl true
theorem ri_lies_outside {C_Polygon : Addr} {vs : List Ve} {p : Pt} (h0 : PolB vs) (h1 : PtB p) (h2 : OutS vs p) : (R_lies_outside C_Polygon) [poly C_Polygon vs, p3 p] (.bl true) := ⟨vs, p, rfl, h0, h1, h2, rfl⟩
theorem ok_lies_outside {f : Addr} {fd : FuncData} {C_Polygon : Addr} (F : FnP K "lies_outside" "lies_outside" s_lies_outside f fd) (hm : mg "lies_outside" = some (.ref f)) (fr_min : mg "min" = none) (c_edge_sides : C8.Cal P w K mg base 4 "edge_sides" (Prm T (R_edge_sides C_Polygon)) [])  : C8.Cal P w K mg base 5 "lies_outside" (Prm T (R_lies_outside C_Polygon)) [] := by
  refine ⟨⟨f, fd, _, [], fn_pure F sc_lies_outside (fun ds d h => ?_) fun cdv A outer s H E hr => ⟨_, (pss_one (ps_ret (pe_cmpR op_lt (pe_callB (cr_min (by rfl)) (by rfl) fr_min (by decide +kernel) (pa_cons (C8.pe_c c_edge_sides hr (by decide) rfl (pa_cons (pv 0) (pa_cons (pv 1) pa_nil))) pa_nil)) pe_int (nomark _)))), fun ds d h => ?_⟩, hm, F.kp, F.bindsN (fun _ _ _ _ _ _ us hl => match us, hl with | [_, _], _ => rfl), .nil⟩⟩
  · obtain ⟨vs, p, rfl, hB, hp, ho, rfl⟩ := h
    rfl
  · obtain ⟨vs, p, rfl, hB, hp, ho, rfl⟩ := h
    obtain ⟨i, hi, hs⟩ := ho
    have hm : side vs (0 + (i : Nat)) p ∈ sides vs p := List.mem_map.mpr ⟨i, List.mem_range.mpr hi, rfl⟩
    obtain ⟨m, h1, h2⟩ : ∃ m, m ∈ sides vs p ∧ ∀ y ∈ sides vs p, m ≤ y := by
      cases e : sides vs p with
      | nil => rw [e] at hm; cases hm
      | cons x xs => exact minI x xs
    refine .retE (sd_ret (ev_cmp (ev_cb (ea_cons (ev_call (ea_cons (ev_var rfl) (ea_cons (ev_var rfl) ea_nil)) (ri_edge_sides hB hp)) ea_nil) (cd_min ⟨h1, h2⟩)) ev_int)) ?_
    have h3 := h2 _ hm
    exact congrArg Da.bl (decide_eq_true (by omega))
abbrev s_require_outside : Stmt := top 34
theorem sc_require_outside : FnScope ["polygon", "point"] ["polygon", "point"] (defScope s_require_outside) := ⟨rfl, rfl, rfl, by decide +kernel, rfl, by decide +kernel, by decide +kernel⟩
def R_require_outside (C_Polygon : Addr) (ds : List Da) (d : Da) : Prop := ∃ (vs : List Ve) (p : Pt), ds = [poly C_Polygon vs, p3 p] ∧ PolB vs ∧ PtOk p ∧ OutS vs p ∧ d = .non
theorem ri_require_outside {C_Polygon : Addr} {vs : List Ve} {p : Pt} (h0 : PolB vs) (h1 : PtOk p) (h2 : OutS vs p) : (R_require_outside C_Polygon) [poly C_Polygon vs, p3 p] (.non) := ⟨vs, p, rfl, h0, h1, h2, rfl⟩
theorem ok_require_outside {f : Addr} {fd : FuncData} {C_Polygon : Addr} (F : FnP K "require_outside" "require_outside" s_require_outside f fd) (hm : mg "require_outside" = some (.ref f)) (c_require_point : C8.Cal P w K mg base 4 "require_point" (Prm T R_require_point) []) (c_lies_outside : C8.Cal P w K mg base 5 "lies_outside" (Prm T (R_lies_outside C_Polygon)) [])  : C8.Cal P w K mg base 6 "require_outside" (Prm T (R_require_outside C_Polygon)) [] := by
  refine ⟨⟨f, fd, _, [], fn_pure F sc_require_outside (fun ds d h => ?_) fun cdv A outer s H E hr => ⟨_, (pss_cons (ps_expr (C8.pe_c c_require_point hr (by decide) rfl (pa_cons (pv 1) pa_nil))) (pss_one (ps_if (pt_not (pt_val (C8.pe_c c_lies_outside hr (by decide) rfl (pa_cons (pv 0) (pa_cons (pv 1) pa_nil))))) (pss_one ps_never) pss_nil))), fun ds d h => ?_⟩, hm, F.kp, F.bindsN (fun _ _ _ _ _ _ us hl => match us, hl with | [_, _], _ => rfl), .nil⟩⟩
  · obtain ⟨vs, p, rfl, hB, hp, ho, rfl⟩ := h
    rfl
  · obtain ⟨vs, p, rfl, hB, hp, ho, rfl⟩ := h
    exact .nx (sd_seq (sd_drop (ev_call (ea_cons (ev_var rfl) ea_nil) (ri_require_point hp))) (sd_ifF (et_not (et_B (ev_call (ea_cons (ev_var rfl) (ea_cons (ev_var rfl) ea_nil)) (ri_lies_outside hB hp.b ho)))) sd_next))
abbrev s_tangent_index : Stmt := top 36
theorem sc_tangent_index : FnScope ["polygon", "point", "sides", "index", "side"] ["polygon", "point"] (defScope s_tangent_index) := ⟨rfl, rfl, rfl, by decide +kernel, rfl, by decide +kernel, by decide +kernel⟩
def R_tangent_index (C_Polygon : Addr) (ds : List Da) (d : Da) : Prop := ∃ (vs : List Ve) (p : Pt), ds = [poly C_Polygon vs, p3 p] ∧ PolB vs ∧ PtB p ∧ d = optD (tan vs p)
theorem ri_tangent_index {C_Polygon : Addr} {vs : List Ve} {p : Pt} (h0 : PolB vs) (h1 : PtB p) : (R_tangent_index C_Polygon) [poly C_Polygon vs, p3 p] (optD (tan vs p)) := ⟨vs, p, rfl, h0, h1, rfl⟩
theorem ok_tangent_index {f : Addr} {fd : FuncData} {C_Polygon : Addr} (F : FnP K "tangent_index" "tangent_index" s_tangent_index f fd) (hm : mg "tangent_index" = some (.ref f)) (c_edge_sides : C8.Cal P w K mg base 4 "edge_sides" (Prm T (R_edge_sides C_Polygon)) []) (fr_enumerate : mg "enumerate" = none)  : C8.Cal P w K mg base 5 "tangent_index" (Prm T (R_tangent_index C_Polygon)) [] := by
  refine ⟨⟨f, fd, _, [], fn_pure F sc_tangent_index (fun ds d h => ?_) fun cdv A outer s H E hr => ⟨_, (pss_cons (ps_set (i := 2) sc_tangent_index.nd rfl (Or.inl rfl) (C8.pe_c c_edge_sides hr (by decide) rfl (pa_cons (pv 0) (pa_cons (pv 1) pa_nil)))) (pss_cons (ps_for PassesOwn.never rfl (pi_enum (by rfl) fr_enumerate (pa_cons (pv 2) pa_nil)) (pg_tup (by rfl) (pgs_cons (pg_name (i := 3) sc_tangent_index.nd rfl (Or.inl rfl)) (pgs_cons (pg_name (i := 4) sc_tangent_index.nd rfl (Or.inl rfl)) pgs_nil))) (pss_one (ps_if (pt_chain op_lt op_lt (pe_ix ix_list (pv 2) (pe_op op_sub (pv 3) pe_int) (fun _ _ => rfl)) pe_int (pv 4)) (pss_one (ps_ret (pv 3))) pss_nil))) (pss_one (ps_ret pe_non)))), fun ds d h => ?_⟩, hm, F.kp, F.bindsN (fun _ _ _ _ _ _ us hl => match us, hl with | [_, _], _ => rfl), .nil⟩⟩
  · obtain ⟨vs, p, rfl, hB, hp, rfl⟩ := h
    rfl
  · obtain ⟨vs, p, rfl, hB, hp, rfl⟩ := h
    have hE := pairD_range (sides vs p)
    have hsl := sides_len vs p
    have gd : ∀ (i : Nat) (δ : List (Option Da)), (∃ a b, δ = [some (poly C_Polygon vs), some (p3 p), some (.lst ((sides vs p).map Da.int)), a, b]) → GD T [] (gTup K 2 (gCons (gName 3) (gCons (gName 4) gNil))) (.tup [.int (0 + (i : Nat)), .int ((sides vs p).getD i 0)]) δ [some (poly C_Polygon vs), some (p3 p), some (.lst ((sides vs p).map Da.int)), some (.int (0 + (i : Nat))), some (.int ((sides vs p).getD i 0))] [3, 4] := fun i δ ⟨a, b, e⟩ => by
      subst e
      exact gd_tup (gds_cons gd_name (gds_cons gd_name gds_nil))
    have hG : ∀ n (hn : n ≤ (sides vs p).length), (∀ a, (List.range n).find? (tanP (sides vs p)) = some a → a < (sides vs p).length) := fun n hn a h => by
      have := List.mem_range.mp (List.mem_of_find?_eq_some h)
      omega
    have hd : tan vs p = (List.range (sides vs p).length).find? (tanP (sides vs p)) := by rw [hsl]; rfl
    rw [hd]
    have first := sd_asg (i := 2) (T := T) (S := []) (δ := [some (poly C_Polygon vs), some (p3 p), none, none, none]) (ev_call (E := C8.E0) (ts := tCons (tVar 0) (tCons (tVar 1) tNil)) (R := R_edge_sides C_Polygon) (ea_cons (ev_var rfl) (ea_cons (ev_var rfl) ea_nil)) ⟨vs, p, rfl, hB, hp, rfl⟩)
    have items := it_enum (K := K) (T := T) (S := []) (δ := [some (poly C_Polygon vs), some (p3 p), some (.lst ((sides vs p).map Da.int)), none, none]) (ta := tCons (tVar 2) tNil) (ea_cons (ev_var rfl) ea_nil)
    rw [hE] at items
    cases e : (List.range (sides vs p).length).find? (tanP (sides vs p)) with
    | some a => exact .retE (sd_seq first (sd_seqR (sd_for items (for_seekY (sides vs p).length (G := fun δ => ∃ a b, δ = [some (poly C_Polygon vs), some (p3 p), some (.lst ((sides vs p).map Da.int)), a, b]) (res := fun i : Nat => .int (0 + (i : Nat))) (fun i δ hi h hq => ⟨_, _, gd i δ h, sd_ifT (et_is (et_test (ev_chain (ev_ixL (ev_var rfl) (ev_sub (ev_var rfl) ev_int) (atI_prev hi)) ev_int (ev_var rfl))) hq) (sd_ret (ev_var rfl))⟩) (fun i δ hi h hq => ⟨_, _, _, gd i δ h, sd_ifF (et_is (et_test (ev_chain (ev_ixL (ev_var rfl) (ev_sub (ev_var rfl) ev_int) (atI_prev hi)) ev_int (ev_var rfl))) hq) sd_next, _, _, rfl⟩) ⟨none, none, rfl⟩ e)))) (by show Da.int (0 + (a : Nat)) = .int (a : Nat); rw [Int.zero_add])
    | none =>
      exact .ret (sd_seq first (sd_forE items (for_seekN (sides vs p).length (G := fun δ => ∃ a b, δ = [some (poly C_Polygon vs), some (p3 p), some (.lst ((sides vs p).map Da.int)), a, b]) (res := fun i : Nat => .int (0 + (i : Nat))) (fun i δ hi h hq => ⟨_, _, gd i δ h, sd_ifT (et_is (et_test (ev_chain (ev_ixL (ev_var rfl) (ev_sub (ev_var rfl) ev_int) (atI_prev hi)) ev_int (ev_var rfl))) hq) (sd_ret (ev_var rfl))⟩) (fun i δ hi h hq => ⟨_, _, _, gd i δ h, sd_ifF (et_is (et_test (ev_chain (ev_ixL (ev_var rfl) (ev_sub (ev_var rfl) ev_int) (atI_prev hi)) ev_int (ev_var rfl))) hq) sd_next, _, _, rfl⟩) ⟨none, none, rfl⟩ e) fun δ' _ => sd_ret ev_non))
abbrev s_back_tangent_index : Stmt := top 37
theorem sc_back_tangent_index : FnScope ["polygon", "point", "sides", "index", "side"] ["polygon", "point"] (defScope s_back_tangent_index) := ⟨rfl, rfl, rfl, by decide +kernel, rfl, by decide +kernel, by decide +kernel⟩
def R_back_tangent_index (C_Polygon : Addr) (ds : List Da) (d : Da) : Prop := ∃ (vs : List Ve) (p : Pt), ds = [poly C_Polygon vs, p3 p] ∧ PolB vs ∧ PtB p ∧ d = optD (btan vs p)
theorem ri_back_tangent_index {C_Polygon : Addr} {vs : List Ve} {p : Pt} (h0 : PolB vs) (h1 : PtB p) : (R_back_tangent_index C_Polygon) [poly C_Polygon vs, p3 p] (optD (btan vs p)) := ⟨vs, p, rfl, h0, h1, rfl⟩
theorem ok_back_tangent_index {f : Addr} {fd : FuncData} {C_Polygon : Addr} (F : FnP K "back_tangent_index" "back_tangent_index" s_back_tangent_index f fd) (hm : mg "back_tangent_index" = some (.ref f)) (c_edge_sides : C8.Cal P w K mg base 4 "edge_sides" (Prm T (R_edge_sides C_Polygon)) []) (fr_enumerate : mg "enumerate" = none)  : C8.Cal P w K mg base 5 "back_tangent_index" (Prm T (R_back_tangent_index C_Polygon)) [] := by
  refine ⟨⟨f, fd, _, [], fn_pure F sc_back_tangent_index (fun ds d h => ?_) fun cdv A outer s H E hr => ⟨_, (pss_cons (ps_set (i := 2) sc_back_tangent_index.nd rfl (Or.inl rfl) (C8.pe_c c_edge_sides hr (by decide) rfl (pa_cons (pv 0) (pa_cons (pv 1) pa_nil)))) (pss_cons (ps_for PassesOwn.never rfl (pi_enum (by rfl) fr_enumerate (pa_cons (pv 2) pa_nil)) (pg_tup (by rfl) (pgs_cons (pg_name (i := 3) sc_back_tangent_index.nd rfl (Or.inl rfl)) (pgs_cons (pg_name (i := 4) sc_back_tangent_index.nd rfl (Or.inl rfl)) pgs_nil))) (pss_one (ps_if (pt_chain op_lt op_lt (pv 4) pe_int (pe_ix ix_list (pv 2) (pe_op op_sub (pv 3) pe_int) (fun _ _ => rfl))) (pss_one (ps_ret (pv 3))) pss_nil))) (pss_one (ps_ret pe_non)))), fun ds d h => ?_⟩, hm, F.kp, F.bindsN (fun _ _ _ _ _ _ us hl => match us, hl with | [_, _], _ => rfl), .nil⟩⟩
  · obtain ⟨vs, p, rfl, hB, hp, rfl⟩ := h
    rfl
  · obtain ⟨vs, p, rfl, hB, hp, rfl⟩ := h
    have hE := pairD_range (sides vs p)
    have hsl := sides_len vs p
    have gd : ∀ (i : Nat) (δ : List (Option Da)), (∃ a b, δ = [some (poly C_Polygon vs), some (p3 p), some (.lst ((sides vs p).map Da.int)), a, b]) → GD T [] (gTup K 2 (gCons (gName 3) (gCons (gName 4) gNil))) (.tup [.int (0 + (i : Nat)), .int ((sides vs p).getD i 0)]) δ [some (poly C_Polygon vs), some (p3 p), some (.lst ((sides vs p).map Da.int)), some (.int (0 + (i : Nat))), some (.int ((sides vs p).getD i 0))] [3, 4] := fun i δ ⟨a, b, e⟩ => by
      subst e
      exact gd_tup (gds_cons gd_name (gds_cons gd_name gds_nil))
    have hG : ∀ n (hn : n ≤ (sides vs p).length), (∀ a, (List.range n).find? (btanP (sides vs p)) = some a → a < (sides vs p).length) := fun n hn a h => by
      have := List.mem_range.mp (List.mem_of_find?_eq_some h)
      omega
    have hd : btan vs p = (List.range (sides vs p).length).find? (btanP (sides vs p)) := by rw [hsl]; rfl
    rw [hd]
    have first := sd_asg (i := 2) (T := T) (S := []) (δ := [some (poly C_Polygon vs), some (p3 p), none, none, none]) (ev_call (E := C8.E0) (ts := tCons (tVar 0) (tCons (tVar 1) tNil)) (R := R_edge_sides C_Polygon) (ea_cons (ev_var rfl) (ea_cons (ev_var rfl) ea_nil)) ⟨vs, p, rfl, hB, hp, rfl⟩)
    have items := it_enum (K := K) (T := T) (S := []) (δ := [some (poly C_Polygon vs), some (p3 p), some (.lst ((sides vs p).map Da.int)), none, none]) (ta := tCons (tVar 2) tNil) (ea_cons (ev_var rfl) ea_nil)
    rw [hE] at items
    cases e : (List.range (sides vs p).length).find? (btanP (sides vs p)) with
    | some a => exact .retE (sd_seq first (sd_seqR (sd_for items (for_seekY (sides vs p).length (G := fun δ => ∃ a b, δ = [some (poly C_Polygon vs), some (p3 p), some (.lst ((sides vs p).map Da.int)), a, b]) (res := fun i : Nat => .int (0 + (i : Nat))) (fun i δ hi h hq => ⟨_, _, gd i δ h, sd_ifT (et_is (et_test (ev_chain (ev_var rfl) ev_int (ev_ixL (ev_var rfl) (ev_sub (ev_var rfl) ev_int) (atI_prev hi)))) hq) (sd_ret (ev_var rfl))⟩) (fun i δ hi h hq => ⟨_, _, _, gd i δ h, sd_ifF (et_is (et_test (ev_chain (ev_var rfl) ev_int (ev_ixL (ev_var rfl) (ev_sub (ev_var rfl) ev_int) (atI_prev hi)))) hq) sd_next, _, _, rfl⟩) ⟨none, none, rfl⟩ e)))) (by show Da.int (0 + (a : Nat)) = .int (a : Nat); rw [Int.zero_add])
    | none =>
      exact .ret (sd_seq first (sd_forE items (for_seekN (sides vs p).length (G := fun δ => ∃ a b, δ = [some (poly C_Polygon vs), some (p3 p), some (.lst ((sides vs p).map Da.int)), a, b]) (res := fun i : Nat => .int (0 + (i : Nat))) (fun i δ hi h hq => ⟨_, _, gd i δ h, sd_ifT (et_is (et_test (ev_chain (ev_var rfl) ev_int (ev_ixL (ev_var rfl) (ev_sub (ev_var rfl) ev_int) (atI_prev hi)))) hq) (sd_ret (ev_var rfl))⟩) (fun i δ hi h hq => ⟨_, _, _, gd i δ h, sd_ifF (et_is (et_test (ev_chain (ev_var rfl) ev_int (ev_ixL (ev_var rfl) (ev_sub (ev_var rfl) ev_int) (atI_prev hi)))) hq) sd_next, _, _, rfl⟩) ⟨none, none, rfl⟩ e) fun δ' _ => sd_ret ev_non))
end
end O26
set_option Elab.async false
set_option linter.all false
set_option maxRecDepth 100000
set_option maxHeartbeats 4000000
namespace O26
open PySem PySem.Spec PyProof.Rows L2
def optI : Option Int → Da
  | none => .non
  | some i => .int i
/-- a point that may be reflected -/
structure PtS (p : Pt) : Prop where
  x : Bd 200 p.1
  y : Bd 200 p.2.1
  d : Bd 30 p.2.2
theorem PtS.b {p : Pt} (h : PtS p) : PtB p := ⟨h.x.up (by decide), h.y.up (by decide), h.d⟩
theorem PtS.r {p : Pt} {vs : List Ve} (h : PtS p) (hB : PolB vs) (i : Int) : PtB (refl p (vtx vs i)) := by
  have := hB.b1 i; have := hB.b2 i; have := h.x; have := h.y; have := h.d
  exact ⟨Bd.up (bdSub (x := bdMul (x := bdMul (x := bd2))) (i := 2 * (vtx vs i).1 * p.2.2)) (by decide : (2 + 6) + 30 + 200 + 1 ≤ 300), Bd.up (bdSub (x := bdMul (x := bdMul (x := bd2))) (i := 2 * (vtx vs i).2 * p.2.2)) (by decide : (2 + 6) + 30 + 200 + 1 ≤ 300), h.d⟩
theorem PtOk.s {p : Pt} (h : PtOk p) : PtS p := by
  have := h.d1; have := h.d2; have := h.x1; have := h.x2; have := h.y1; have := h.y2
  exact ⟨.of_le 10000000000000000000000000000000000000000000000 (by omega) (by omega), .of_le 10000000000000000000000000000000000000000000000 (by omega) (by omega), .of_le 1000000 (by omega) (by omega)⟩
theorem PolB.f1 {vs : List Ve} (h : PolB vs) (i j : Int) : Bd 20 (shft vs i j).1 := by
  have x := h.b1 i; have y := h.b1 j
  exact Bd.up (bdMul (x := bd2) (y := bdSub (x := y) (y := x))) (by decide : 2 + (6 + 6 + 1) ≤ 20)
theorem PolB.f2 {vs : List Ve} (h : PolB vs) (i j : Int) : Bd 20 (shft vs i j).2 := by
  have x := h.b2 i; have y := h.b2 j
  exact Bd.up (bdMul (x := bd2) (y := bdSub (x := y) (y := x))) (by decide : 2 + (6 + 6 + 1) ≤ 20)
theorem calAt {P : Program} {w : World} {K : PySem.W.Frag} {mg : Str → Option Value} {base : Heap} {k : Nat} {x : Str} {sp : Sp} (c : C8.Cal P w K mg base k x sp []) : ∃ f, mg x = some (.ref f) ∧ C8.CalAt P w K mg base k f sp := by
  obtain ⟨f, fd, ps, ds, F, hm, kp, b, v⟩ := c.ex
  cases v
  exact ⟨f, hm, ⟨fd, ps, F, kp, b⟩⟩
theorem ev_callV1 {T : Tb} {S : Os} {δ : List (Option Da)} {i : Nat} {f1 f2 : Addr} {R1 R2 : List Da → Da → Prop} {tz : TA} {ds : List Da} {d : Da} (hi : δ[i]? = some (some (.fn f1))) (h : EvA T S tz δ ds) (hR : R1 ds d) : EvD T S (C8.tCallV i f1 f2 (Prm T R1) (Prm T R2) tz) δ d := fun F H σ Q s e q => by
  obtain ⟨v, h1, h2⟩ := e.get hi
  obtain rfl := dr_fn h2
  exact .inl ⟨h1, h F H σ _ s e fun vs F1 H1 g1 r1 => ⟨F1, ds, d, g1.sg.bare, r1, hR, fun v F2 H2 g2 r2 => q v F2 H2 (g1.trans (g2.with g1.sg)) r2⟩⟩
theorem ev_callV2 {T : Tb} {S : Os} {δ : List (Option Da)} {i : Nat} {f1 f2 : Addr} {R1 R2 : List Da → Da → Prop} {tz : TA} {ds : List Da} {d : Da} (hi : δ[i]? = some (some (.fn f2))) (h : EvA T S tz δ ds) (hR : R2 ds d) : EvD T S (C8.tCallV i f1 f2 (Prm T R1) (Prm T R2) tz) δ d := fun F H σ Q s e q => by
  obtain ⟨v, h1, h2⟩ := e.get hi
  obtain rfl := dr_fn h2
  exact .inr ⟨h1, h F H σ _ s e fun vs F1 H1 g1 r1 => ⟨F1, ds, d, g1.sg.bare, r1, hR, fun v F2 H2 g2 r2 => q v F2 H2 (g1.trans (g2.with g1.sg)) r2⟩⟩
section
variable {P : Program} {w : World} {K : PySem.W.Frag} {mg : Str → Option Value} {base : Heap} {T : Tb}
abbrev s_next_pair : Stmt := top 39
theorem sc_next_pair : FnScope ["polygon", "point", "direction", "find", "first"] ["polygon", "point", "direction"] (defScope s_next_pair) := ⟨rfl, rfl, rfl, by decide +kernel, rfl, by decide +kernel, by decide +kernel⟩
def R_next_pair (C_Polygon : Addr) (ds : List Da) (d : Da) : Prop := ∃ (vs : List Ve) (p : Pt) (dir : Int), ds = [poly C_Polygon vs, p3 p, .int dir] ∧ PolB vs ∧ PtS p ∧ d = .tup [optD (nextP dir vs p).1, optD (nextP dir vs p).2]
theorem ri_next_pair {C_Polygon : Addr} {vs : List Ve} {p : Pt} {dir : Int} (hB : PolB vs) (hp : PtS p) : R_next_pair C_Polygon [poly C_Polygon vs, p3 p, .int dir] (.tup [optD (nextP dir vs p).1, optD (nextP dir vs p).2]) := ⟨vs, p, dir, rfl, hB, hp, rfl⟩
theorem ok_next_pair {C_Polygon : Addr} {f : Addr} {fd : FuncData} (F : FnP K "next_pair" "next_pair" s_next_pair f fd) (hm : mg "next_pair" = some (.ref f)) (c_tangent_index : C8.Cal P w K mg base 5 "tangent_index" (Prm T (R_tangent_index C_Polygon)) []) (c_back_tangent_index : C8.Cal P w K mg base 5 "back_tangent_index" (Prm T (R_back_tangent_index C_Polygon)) [])
    (c_reflected : C8.Cal P w K mg base 1 "reflected" (Prm T R_reflected) []) (m_Polygon_vertex : C8.Met P w K mg base 1 C_Polygon "vertex" (Prm T (R_Polygon_vertex C_Polygon)) []) : C8.Cal P w K mg base 6 "next_pair" (Prm T (R_next_pair C_Polygon)) [] := by
  obtain ⟨f1, m1, a1⟩ := calAt c_tangent_index
  obtain ⟨f2, m2, a2⟩ := calAt c_back_tangent_index
  refine ⟨f, fd, _, [], fn_pure F sc_next_pair (fun ds d h => ?_) fun cdv A outer s H E hr => ⟨_,
    (pss_cons (ps_set (i := 3) sc_next_pair.nd rfl (Or.inl rfl) (pe_ifExp (pt_cmpR op_eq (pv 2) pe_int (nomark _)) (C8.pe_gc (v := .ref f1) rfl ⟨_, m1, rfl⟩) (C8.pe_gc (v := .ref f2) rfl ⟨_, m2, rfl⟩)))
    (pss_cons (ps_set (i := 4) sc_next_pair.nd rfl (Or.inl rfl) (C8.pe_cv (i := 3) a1 a2 hr (by decide) (by decide) rfl (Or.inl rfl) (pa_cons (pv 0) (pa_cons (pv 1) pa_nil))))
    (pss_cons (ps_if (pt_cmpR op_isN (pv 4) pe_non (nomark _)) (pss_one (ps_ret (pe_tup (pa_cons pe_non (pa_cons pe_non pa_nil))))) pss_nil)
    (pss_one (ps_ret (pe_tup (pa_cons (pv 4) (pa_cons (C8.pe_cv (i := 3) a1 a2 hr (by decide) (by decide) rfl (Or.inl rfl) (pa_cons (pv 0) (pa_cons (C8.pe_c c_reflected hr (by decide) rfl (pa_cons (pv 1) (pa_cons (C8.pe_mt m_Polygon_vertex hr (by decide) (pv 0) (pa_cons (pv 4) pa_nil)) pa_nil))) pa_nil))) pa_nil)))))))), fun ds d h => ?_⟩, hm, F.kp, F.bindsN (fun _ _ _ _ _ _ us hl => match us, hl with | [_, _, _], _ => rfl), .nil⟩
  · obtain ⟨vs, p, dir, rfl, _⟩ := h
    rfl
  · obtain ⟨vs, p, dir, rfl, hB, hp, rfl⟩ := h
    by_cases hd : dir = 1
    · have t1 : ∀ q, tanD dir vs q = tan vs q := fun q => by unfold tanD; rw [if_pos hd]
      have first := sd_asg (T := T) (S := []) (i := 4) (δ := [some (poly C_Polygon vs), some (p3 p), some (.int dir), some (.fn f1), none]) (ev_callV1 (f2 := f2) (R2 := R_back_tangent_index C_Polygon) (i := 3) rfl (ea_cons (ev_var (i := 0) rfl) (ea_cons (ev_var (i := 1) rfl) ea_nil)) (ri_tangent_index (C_Polygon := C_Polygon) hB hp.b))
      refine .ret (sd_seq (sd_asg (ev_if (et_is (et_test (ev_eqI (ev_var rfl) ev_int)) (decide_eq_true hd)) (fun _ => ev_fn (a := f1)) (fun z => by cases z))) (sd_seq first ?_))
      unfold nextP
      rw [t1]
      cases e : tan vs p with
      | none => exact sd_seqR (sd_ifT (et_is (et_test (ev_isN (ev_var rfl))) rfl) (sd_ret (ev_tup (ea_cons ev_non (ea_cons ev_non ea_nil)))))
      | some i => exact sd_seq (sd_ifF (et_is (et_test (ev_isN (ev_var rfl))) rfl) sd_next) (sd_ret (ev_tup (ea_cons (ev_var rfl) (ea_cons (ev_is (ev_callV1 rfl (ea_cons (ev_var rfl) (ea_cons (ev_call (ea_cons (ev_var rfl) (ea_cons (ev_meth (ev_var rfl) (ea_cons (ev_var rfl) ea_nil) (ri_Polygon_vertex hB)) ea_nil)) (ri_reflected ((hB.b1 _).up (by decide)) ((hB.b2 _).up (by decide)) hp.d)) ea_nil)) (ri_tangent_index hB (hp.r hB _))) (by rw [← t1])) ea_nil))))
    · have t1 : ∀ q, tanD dir vs q = btan vs q := fun q => by unfold tanD; rw [if_neg hd]
      have first := sd_asg (T := T) (S := []) (i := 4) (δ := [some (poly C_Polygon vs), some (p3 p), some (.int dir), some (.fn f2), none]) (ev_callV2 (f1 := f1) (R1 := R_tangent_index C_Polygon) (i := 3) rfl (ea_cons (ev_var (i := 0) rfl) (ea_cons (ev_var (i := 1) rfl) ea_nil)) (ri_back_tangent_index (C_Polygon := C_Polygon) hB hp.b))
      refine .ret (sd_seq (sd_asg (ev_if (et_is (et_test (ev_eqI (ev_var rfl) ev_int)) (decide_eq_false hd)) (fun z => by cases z) (fun _ => ev_fn (a := f2)))) (sd_seq first ?_))
      unfold nextP
      rw [t1]
      cases e : btan vs p with
      | none => exact sd_seqR (sd_ifT (et_is (et_test (ev_isN (ev_var rfl))) rfl) (sd_ret (ev_tup (ea_cons ev_non (ea_cons ev_non ea_nil)))))
      | some i => exact sd_seq (sd_ifF (et_is (et_test (ev_isN (ev_var rfl))) rfl) sd_next) (sd_ret (ev_tup (ea_cons (ev_var rfl) (ea_cons (ev_is (ev_callV2 rfl (ea_cons (ev_var rfl) (ea_cons (ev_call (ea_cons (ev_var rfl) (ea_cons (ev_meth (ev_var rfl) (ea_cons (ev_var rfl) ea_nil) (ri_Polygon_vertex hB)) ea_nil)) (ri_reflected ((hB.b1 _).up (by decide)) ((hB.b2 _).up (by decide)) hp.d)) ea_nil)) (ri_back_tangent_index hB (hp.r hB _))) (by rw [← t1])) ea_nil))))
abbrev s_pair_shift : Stmt := top 40
theorem sc_pair_shift : FnScope ["polygon", "pair", "x", "y"] ["polygon", "pair"] (defScope s_pair_shift) := ⟨rfl, rfl, rfl, by decide +kernel, rfl, by decide +kernel, by decide +kernel⟩
def R_pair_shift (C_Polygon : Addr) (ds : List Da) (d : Da) : Prop := ∃ (vs : List Ve) (i j : Int), ds = [poly C_Polygon vs, i2 i j] ∧ PolB vs ∧ d = v2 (shft vs i j)
theorem ri_pair_shift {C_Polygon : Addr} {vs : List Ve} {i j : Int} (h0 : PolB vs) : (R_pair_shift C_Polygon) [poly C_Polygon vs, i2 i j] (v2 (shft vs i j)) := ⟨vs, i, j, rfl, h0, rfl⟩
theorem ok_pair_shift {f : Addr} {fd : FuncData} {C_Polygon : Addr} (F : FnP K "pair_shift" "pair_shift" s_pair_shift f fd) (hm : mg "pair_shift" = some (.ref f)) (m_Polygon_vertex : C8.Met P w K mg base 1 C_Polygon "vertex" (Prm T (R_Polygon_vertex C_Polygon)) []) (c_difference : C8.Cal P w K mg base 1 "difference" (Prm T R_difference) [])  : C8.Cal P w K mg base 2 "pair_shift" (Prm T (R_pair_shift C_Polygon)) [] := by
  refine ⟨⟨f, fd, _, [], fn_pure F sc_pair_shift (fun ds d h => ?_) fun cdv A outer s H E hr => ⟨_, (pss_cons (ps_asg (C8.pe_c c_difference hr (by decide) rfl (pa_cons (C8.pe_mt m_Polygon_vertex hr (by decide) (pv 0) (pa_cons (pe_ix ix_tup (pv 1) pe_int (fun _ _ => rfl)) pa_nil)) (pa_cons (C8.pe_mt m_Polygon_vertex hr (by decide) (pv 0) (pa_cons (pe_ix ix_tup (pv 1) pe_int (fun _ _ => rfl)) pa_nil)) pa_nil))) (pg_tup (by rfl) (pgs_cons (pg_name (i := 2) sc_pair_shift.nd rfl (Or.inl rfl)) (pgs_cons (pg_name (i := 3) sc_pair_shift.nd rfl (Or.inl rfl)) pgs_nil)))) (pss_one (ps_ret (pe_tup (pa_cons (pe_op op_mulW pe_int (pv 2)) (pa_cons (pe_op op_mulW pe_int (pv 3)) pa_nil)))))), fun ds d h => ?_⟩, hm, F.kp, F.bindsN (fun _ _ _ _ _ _ us hl => match us, hl with | [_, _], _ => rfl), .nil⟩⟩
  · obtain ⟨vs, i, j, rfl, hB, rfl⟩ := h
    rfl
  · obtain ⟨vs, i, j, rfl, hB, rfl⟩ := h
    have := hB.b1 i; have := hB.b1 j; have := hB.b2 i; have := hB.b2 j
    exact .retE (sd_seq (sd_asgG (ev_call (ea_cons (ev_meth (ev_var rfl) (ea_cons (ev_ixT (ev_var rfl) ev_int rfl) ea_nil) (ri_Polygon_vertex hB)) (ea_cons (ev_meth (ev_var rfl) (ea_cons (ev_ixT (ev_var rfl) ev_int rfl) ea_nil) (ri_Polygon_vertex hB)) ea_nil)) ri_difference) (gd_tup (gds_cons gd_name (gds_cons gd_name gds_nil)))) (sd_ret (ev_tup (ea_cons (ev_mulB ev_int (ev_var rfl)) (ea_cons (ev_mulB ev_int (ev_var rfl)) ea_nil))))) rfl
abbrev s_positive_count : Stmt := top 41
theorem sc_positive_count : FnScope ["value", "change"] ["value", "change"] (defScope s_positive_count) := ⟨rfl, rfl, rfl, by decide +kernel, rfl, by decide +kernel, by decide +kernel⟩
def R_positive_count (ds : List Da) (d : Da) : Prop := ∃ v c : Int, ds = [.int v, .int c] ∧ Bd 250 c ∧ d = optI (poscount v c)
theorem ri_positive_count {v c : Int} (h0 : Bd 250 c) : R_positive_count [.int v, .int c] (optI (poscount v c)) := ⟨v, c, rfl, h0, rfl⟩
theorem ok_positive_count {f : Addr} {fd : FuncData}  (F : FnP K "positive_count" "positive_count" s_positive_count f fd) (hm : mg "positive_count" = some (.ref f))   : C8.Cal P w K mg base 1 "positive_count" (Prm T R_positive_count) [] := by
  refine ⟨⟨f, fd, _, [], fn_pure F sc_positive_count (fun ds d h => ?_) fun cdv A outer s H E hr => ⟨_, (pss_one (ps_ret (pe_ifExp (pt_cmpR op_ge (pv 1) pe_int (nomark _)) pe_non (pe_op op_fdivW (pe_op op_sub (pe_op op_sub (pv 0) (pv 1)) pe_int) (pe_un un_neg (pv 1)))))), fun ds d h => ?_⟩, hm, F.kp, F.bindsN (fun _ _ _ _ _ _ us hl => match us, hl with | [_, _], _ => rfl), .nil⟩⟩
  · obtain ⟨v, c, rfl, h, rfl⟩ := h
    rfl
  · obtain ⟨v, c, rfl, h, rfl⟩ := h
    unfold poscount
    by_cases hc : c ≥ 0
    · rw [if_pos hc]
      exact .ret (sd_ret (ev_if (et_is (et_test (ev_cmp (ev_var rfl) ev_int)) (decide_eq_true hc)) (fun _ => ev_non) (fun z => by cases z)))
    · rw [if_neg hc]
      exact .ret (sd_ret (ev_if (et_is (et_test (ev_cmp (ev_var rfl) ev_int)) (decide_eq_false hc)) (fun z => by cases z) (fun _ => ev_fdiv (ev_sub (ev_sub (ev_var rfl) (ev_var rfl)) ev_int) (ev_neg (ev_var rfl)) (wide_div (b := 250) (by omega) (by rw [Int.natAbs_neg]; exact h.out) (by decide) (by decide)))))
end
end O26
set_option Elab.async false
set_option linter.all false
set_option maxRecDepth 100000
set_option maxHeartbeats 4000000
namespace O26
open PySem PySem.Spec PyProof.Rows L2
theorem sdl_mine {T : Tb} {ts : TS} {δ : List (Option Da)} {l : List Da} {i : Nat} (k : ∀ p, ∃ S', SD T [(p, .lst [])] ts (δ.set i (some (.fn p))) (.retO p S') ∧ S'.lookup p = some (.lst l)) : SDl T (tSeq (tAsg (tLst tNil) (gName i)) ts) δ l := fun F H σ D s e q =>
  ⟨Nat.zero_le _, fun p hp => by
    have g := GrS.mine (c := .lst []) s hp ⟨[], rfl, .nil⟩
    obtain ⟨S', h1, h2⟩ := k p
    refine h1 F _ _ { D with nx := _ } g.sg (e.set (.fn p) i) fun F2 H2 g2 => q p F2 H2 ((g.trans g2).weak fun r c e => ?_)
    rw [lookup_put] at e
    by_cases hr : r = p
    · rw [if_pos hr] at e; cases e; rw [hr]; exact h2
    · rw [if_neg hr] at e; cases e⟩
theorem mem_filterMap_id {l : List (Option Int)} : (l.filter fun o => !(optI o).isN).map optI = (l.filterMap id).map Da.int := by
  induction l with
  | nil => rfl
  | cons a l ih =>
    cases a with
    | none => rw [List.filter_cons_of_neg (by decide), List.filterMap_cons_none rfl]; exact ih
    | some i =>
      rw [List.filter_cons_of_pos (by rfl), List.map_cons, ih]
      rfl
theorem transTo_eq {p : Pt} {sh : Ve} {q : Pt} (h : q.2.2 = p.2.2) : transTo p sh q = if (if sh.1 * p.2.2 ≠ 0 then (q.1 - p.1).fdiv (sh.1 * p.2.2) else (q.2.1 - p.2.1).fdiv (sh.2 * p.2.2)) ≥ 0 ∧ (if sh.1 * p.2.2 ≠ 0 then (q.1 - p.1).fdiv (sh.1 * p.2.2) else (q.2.1 - p.2.1).fdiv (sh.2 * p.2.2)) * (sh.1 * p.2.2) = q.1 - p.1 ∧ (if sh.1 * p.2.2 ≠ 0 then (q.1 - p.1).fdiv (sh.1 * p.2.2) else (q.2.1 - p.2.1).fdiv (sh.2 * p.2.2)) * (sh.2 * p.2.2) = q.2.1 - p.2.1 then some (if sh.1 * p.2.2 ≠ 0 then (q.1 - p.1).fdiv (sh.1 * p.2.2) else (q.2.1 - p.2.1).fdiv (sh.2 * p.2.2)) else none := by
  unfold transTo
  rw [if_neg (fun z => z h)]
theorem fdiv_bd {x y : Int} (hx : Bd 601 x) : Bd 700 (x.fdiv y) := ⟨by
  have h1 := hx.out
  have h2 : (x.fdiv y).natAbs ≤ x.natAbs + 1 := by
    have h3 := Int.natAbs_ediv_le_natAbs x y
    rw [Int.fdiv_eq_ediv]
    split <;> omega
  have e : 2 ^ 601 + 2 ^ 601 ≤ 2 ^ 700 := by
    rw [← Nat.two_mul, ← Nat.pow_succ']
    exact Nat.pow_le_pow_right (by decide) (by decide)
  have := Nat.one_le_two_pow (n := 601)
  omega⟩
theorem ev_filt {T : Tb} {S : Os} {g : TG} {tt : TT} {te : TE} {vs : List Nat} {δ : List (Option Da)} {xs ys zs : List Da} (h : LcD T S g tt te vs δ xs ys) (e : ys = zs) : LcD T S g tt te vs δ xs zs := e ▸ h
section
variable {P : Program} {w : World} {K : PySem.W.Frag} {mg : Str → Option Value} {base : Heap} {T : Tb}
abbrev s_tangent_counts : Stmt := top 42
theorem sc_tangent_counts : FnScope ["polygon", "point", "index", "shift", "direction", "found", "edge", "sign", "change"] ["polygon", "point", "index", "shift", "direction"] (defScope s_tangent_counts) := ⟨rfl, rfl, rfl, by decide +kernel, rfl, by decide +kernel, by decide +kernel⟩
def R_tangent_counts (C_Polygon : Addr) (ds : List Da) (d : List Da) : Prop := ∃ (vs : List Ve) (p : Pt) (i : Int) (sh : Ve) (dir : Int), ds = [poly C_Polygon vs, p3 p, .int i, v2 sh, .int dir] ∧ PolB vs ∧ PtB p ∧ Bd 20 sh.1 ∧ Bd 20 sh.2 ∧ Bd 2 dir ∧ d = (tcounts vs p i sh dir).map optI
theorem ri_tangent_counts {C_Polygon : Addr} {vs : List Ve} {p : Pt} {i : Int} {sh : Ve} {dir : Int} (h0 : PolB vs) (h1 : PtB p) (h2 : Bd 20 sh.1) (h3 : Bd 20 sh.2) (h4 : Bd 2 dir) : (R_tangent_counts C_Polygon) [poly C_Polygon vs, p3 p, .int i, v2 sh, .int dir] ((tcounts vs p i sh dir).map optI) := ⟨vs, p, i, sh, dir, rfl, h0, h1, h2, h3, h4, rfl⟩
theorem ok_tangent_counts {f : Addr} {fd : FuncData} {C_Polygon : Addr} (F : FnP K "tangent_counts" "tangent_counts" s_tangent_counts f fd) (hm : mg "tangent_counts" = some (.ref f)) (m_Polygon_edge : C8.Met P w K mg base 2 C_Polygon "edge" (Prm T (R_Polygon_edge C_Polygon)) []) (c_cross : C8.Cal P w K mg base 1 "cross" (Prm T R_cross) []) (c_edge_side : C8.Cal P w K mg base 3 "edge_side" (Prm T (R_edge_side C_Polygon)) []) (c_positive_count : C8.Cal P w K mg base 1 "positive_count" (Prm T R_positive_count) [])  : C8.Cal P w K mg base 4 "tangent_counts" (PrmL T (R_tangent_counts C_Polygon)) [] := by
  refine ⟨⟨f, fd, _, [], fn_list F sc_tangent_counts (fun ds d h => ?_) fun cdv A outer s H E hr => ⟨_, (pss_cons (ps_set (i := 5) sc_tangent_counts.nd rfl (Or.inl rfl) (pe_lst pa_nil)) (pss_cons (ps_for PassesOwn.never rfl (pi_tup (pe_tup (pa_cons (pe_tup (pa_cons (pe_op op_sub (pv 2) pe_int) (pa_cons (pe_un un_neg (pv 4)) pa_nil))) (pa_cons (pe_tup (pa_cons (pv 2) (pa_cons (pv 4) pa_nil))) pa_nil)))) (pg_tup (by rfl) (pgs_cons (pg_name (i := 6) sc_tangent_counts.nd rfl (Or.inl rfl)) (pgs_cons (pg_name (i := 7) sc_tangent_counts.nd rfl (Or.inl rfl)) pgs_nil))) (pss_cons (ps_set (i := 8) sc_tangent_counts.nd rfl (Or.inl rfl) (pe_op op_mulW (pe_op op_mulW (pv 7) (pe_ix ix_tup (pv 1) pe_int (fun _ _ => rfl))) (C8.pe_c c_cross hr (by decide) rfl (pa_cons (C8.pe_mt m_Polygon_edge hr (by decide) (pv 0) (pa_cons (pv 6) pa_nil)) (pa_cons (pv 3) pa_nil))))) (pss_one (ps_expr (pe_bm PySem.F.plainAttrs_list PySem.F.slot_list_append PySem.F.type_list_append mt_append (pv 5) (pa_cons (C8.pe_c c_positive_count hr (by decide) rfl (pa_cons (pe_op op_mulW (pv 7) (C8.pe_c c_edge_side hr (by decide) rfl (pa_cons (pv 0) (pa_cons (pv 6) (pa_cons (pv 1) pa_nil))))) (pa_cons (pv 8) pa_nil))) pa_nil)))))) (pss_one (ps_ret (pv 5))))), fun ds d h => ?_⟩, hm, F.kp, F.bindsN (fun _ _ _ _ _ _ us hl => match us, hl with | [_, _, _, _, _], _ => rfl), .nil⟩⟩
  · obtain ⟨vs, p, i, sh, dir, rfl, hB, hp, h1, h2, h3, rfl⟩ := h
    rfl
  · obtain ⟨vs, p, i, sh, dir, rfl, hB, hp, h1, h2, h3, rfl⟩ := h
    have := hB.e1 i; have := hB.e1 (i - 1); have := hB.e2 i; have := hB.e2 (i - 1); have := hB.s hp i; have := hB.s hp (i - 1); have := hp.d
    exact sdl_mine fun p => ⟨_, sd_seq (sd_for (it_tup (ev_tup (ea_cons (ev_tup (ea_cons (ev_sub (ev_var rfl) ev_int) (ea_cons (ev_neg (ev_var rfl)) ea_nil))) (ea_cons (ev_tup (ea_cons (ev_var rfl) (ea_cons (ev_var rfl) ea_nil))) ea_nil)))) (.next (gd_tup (gds_cons gd_name (gds_cons gd_name gds_nil))) (sd_seq (sd_asg (ev_mulB (ev_mulB (ev_var rfl) (ev_ixT (ev_var rfl) ev_int rfl)) (ev_call (ea_cons (ev_meth (ev_var rfl) (ea_cons (ev_var rfl) ea_nil) (ri_Polygon_edge hB)) (ea_cons (ev_var rfl) ea_nil)) (ri_cross ((hB.e1 _).up (by decide)) ((hB.e2 _).up (by decide)) (h1.up (by decide)) (h2.up (by decide)))))) (sd_app (ev_var rfl) (ev_call (ea_cons (ev_mulB (ev_var rfl) (ev_call (ea_cons (ev_var rfl) (ea_cons (ev_var rfl) (ea_cons (ev_var rfl) ea_nil))) (ri_edge_side hB hp))) (ea_cons (ev_var rfl) ea_nil)) (ri_positive_count (Bd.up inferInstance (by decide : 2 + 30 + (13 + 20 + (13 + 20) + 1) ≤ 250)))) lk0 (by simp))) (.next (gd_tup (gds_cons gd_name (gds_cons gd_name gds_nil))) (sd_seq (sd_asg (ev_mulB (ev_mulB (ev_var rfl) (ev_ixT (ev_var rfl) ev_int rfl)) (ev_call (ea_cons (ev_meth (ev_var rfl) (ea_cons (ev_var rfl) ea_nil) (ri_Polygon_edge hB)) (ea_cons (ev_var rfl) ea_nil)) (ri_cross ((hB.e1 _).up (by decide)) ((hB.e2 _).up (by decide)) (h1.up (by decide)) (h2.up (by decide)))))) (sd_app (ev_var rfl) (ev_call (ea_cons (ev_mulB (ev_var rfl) (ev_call (ea_cons (ev_var rfl) (ea_cons (ev_var rfl) (ea_cons (ev_var rfl) ea_nil))) (ri_edge_side hB hp))) (ea_cons (ev_var rfl) ea_nil)) (ri_positive_count (Bd.up inferInstance (by decide : 2 + 30 + (13 + 20 + (13 + 20) + 1) ≤ 250)))) lk0 (by simp))) .nil))) (sd_retO (ev_var rfl)), lk0⟩
abbrev s_pair_count : Stmt := top 43
theorem sc_pair_count : FnScope ["polygon", "point", "pair", "direction", "x", "y", "middle", "found", "count"] ["polygon", "point", "pair", "direction"] (defScope s_pair_count) := ⟨rfl, rfl, rfl, by decide +kernel, rfl, by decide +kernel, by decide +kernel⟩
def R_pair_count (C_Polygon : Addr) (ds : List Da) (d : Da) : Prop := ∃ (vs : List Ve) (p : Pt) (i j dir m : Int), ds = [poly C_Polygon vs, p3 p, i2 i j, .int dir] ∧ PolB vs ∧ PtS p ∧ Bd 2 dir ∧ (m ∈ pcounts vs p i j dir ∧ ∀ y ∈ pcounts vs p i j dir, m ≤ y) ∧ d = .int m
theorem ri_pair_count {C_Polygon : Addr} {vs : List Ve} {p : Pt} {i j dir m : Int} (h0 : PolB vs) (h1 : PtS p) (h2 : Bd 2 dir) (h3 : (m ∈ pcounts vs p i j dir ∧ ∀ y ∈ pcounts vs p i j dir, m ≤ y)) : (R_pair_count C_Polygon) [poly C_Polygon vs, p3 p, i2 i j, .int dir] (.int m) := ⟨vs, p, i, j, dir, m, rfl, h0, h1, h2, h3, rfl⟩
theorem ok_pair_count {f : Addr} {fd : FuncData} {C_Polygon : Addr} (F : FnP K "pair_count" "pair_count" s_pair_count f fd) (hm : mg "pair_count" = some (.ref f)) (c_pair_shift : C8.Cal P w K mg base 2 "pair_shift" (Prm T (R_pair_shift C_Polygon)) []) (m_Polygon_vertex : C8.Met P w K mg base 1 C_Polygon "vertex" (Prm T (R_Polygon_vertex C_Polygon)) []) (c_reflected : C8.Cal P w K mg base 1 "reflected" (Prm T R_reflected) []) (c_tangent_counts : C8.Cal P w K mg base 4 "tangent_counts" (PrmL T (R_tangent_counts C_Polygon)) []) (fr_min : mg "min" = none)  : C8.Cal P w K mg base 5 "pair_count" (Prm T (R_pair_count C_Polygon)) [] := by
  refine ⟨⟨f, fd, _, [], fn_pure F sc_pair_count (fun ds d h => ?_) fun cdv A outer s H E hr => ⟨_, (pss_cons (ps_asg (C8.pe_c c_pair_shift hr (by decide) rfl (pa_cons (pv 0) (pa_cons (pv 2) pa_nil))) (pg_tup (by rfl) (pgs_cons (pg_name (i := 4) sc_pair_count.nd rfl (Or.inl rfl)) (pgs_cons (pg_name (i := 5) sc_pair_count.nd rfl (Or.inl rfl)) pgs_nil)))) (pss_cons (ps_set (i := 6) sc_pair_count.nd rfl (Or.inl rfl) (C8.pe_c c_reflected hr (by decide) rfl (pa_cons (pv 1) (pa_cons (C8.pe_mt m_Polygon_vertex hr (by decide) (pv 0) (pa_cons (pe_ix ix_tup (pv 2) pe_int (fun _ _ => rfl)) pa_nil)) pa_nil)))) (pss_cons (ps_set (i := 7) sc_pair_count.nd rfl (Or.inl rfl) (C8.pe_c c_tangent_counts hr (by decide) rfl (pa_cons (pv 0) (pa_cons (pv 1) (pa_cons (pe_ix ix_tup (pv 2) pe_int (fun _ _ => rfl)) (pa_cons (pe_tup (pa_cons (pv 4) (pa_cons (pv 5) pa_nil))) (pa_cons (pv 3) pa_nil))))))) (pss_cons (ps_expr (pe_bm PySem.F.plainAttrs_list PySem.F.slot_list_extend PySem.F.type_list_extend mt_extend (pv 7) (pa_cons (C8.pe_c c_tangent_counts hr (by decide) rfl (pa_cons (pv 0) (pa_cons (pv 6) (pa_cons (pe_ix ix_tup (pv 2) pe_int (fun _ _ => rfl)) (pa_cons (pe_tup (pa_cons (pe_un un_neg (pv 4)) (pa_cons (pe_un un_neg (pv 5)) pa_nil))) (pa_cons (pv 3) pa_nil)))))) pa_nil))) (pss_one (ps_ret (pe_callB (cr_min (by rfl)) (by rfl) fr_min (by decide +kernel) (pa_cons (pe_lc (by rfl) sc_pair_count.nd (pi_list (pv 7)) (blkOk_by (own := [("count", 8)]) (N := ["polygon", "point", "pair", "direction", "x", "y", "middle", "found", "count"]) (sc := defScope s_pair_count) (by decide +kernel)) (fun _ _ _ _ _ => (pg_name (i := 8) sc_pair_count.nd rfl (Or.inl rfl))) (fun _ _ _ _ _ => pts_one (pt_cmpR op_notN (pv 8) pe_non (nomark _))) (fun _ _ _ _ _ => (pv 8))) pa_nil)))))))), fun ds d h => ?_⟩, hm, F.kp, F.bindsN (fun _ _ _ _ _ _ us hl => match us, hl with | [_, _, _, _], _ => rfl), .nil⟩⟩
  · obtain ⟨vs, p, i, j, dir, m, rfl, hB, hp, h3, hm, rfl⟩ := h
    rfl
  · obtain ⟨vs, p, i, j, dir, m, rfl, hB, hp, h3, hm, rfl⟩ := h
    have := hB.b1 i; have := hB.b2 i
    refine .ret (sd_seq (sd_asgG (ev_call (ea_cons (ev_var rfl) (ea_cons (ev_var rfl) ea_nil)) (ri_pair_shift hB)) (gd_tup (gds_cons gd_name (gds_cons gd_name gds_nil)))) (sd_seq (sd_asg (ev_call (ea_cons (ev_var rfl) (ea_cons (ev_meth (ev_var rfl) (ea_cons (ev_ixT (ev_var rfl) ev_int rfl) ea_nil) (ri_Polygon_vertex hB)) ea_nil)) (ri_reflected ((hB.b1 _).up (by decide)) ((hB.b2 _).up (by decide)) hp.d)))
      (sd_callL (ea_cons (ev_var rfl) (ea_cons (ev_var rfl) (ea_cons (ev_ixT (ev_var rfl) ev_int rfl) (ea_cons (ev_tup (ea_cons (ev_var rfl) (ea_cons (ev_var rfl) ea_nil))) (ea_cons (ev_var rfl) ea_nil))))) (ri_tangent_counts hB hp.b (hB.f1 i j) (hB.f2 i j) h3) fun q => ?_)))
    refine sd_seq (sd_ext (ev_var rfl) (ev_callL (ea_cons (ev_var rfl) (ea_cons (ev_var rfl) (ea_cons (ev_ixT (ev_var rfl) ev_int rfl) (ea_cons (ev_tup (ea_cons (ev_neg (ev_var rfl)) (ea_cons (ev_neg (ev_var rfl)) ea_nil))) (ea_cons (ev_var rfl) ea_nil))))) (ri_tangent_counts (sh := (-(shft vs i j).1, -(shft vs i j).2)) hB (hp.r hB i) (bdNeg (x := hB.f1 i j)) (bdNeg (x := hB.f2 i j)) h3)) lk0 (by simp [tcounts])) (sd_fixL (i := 7) lk0 rfl (sd_ret (ev_cb (ea_cons (ev_lc (it_list (ev_is (ev_var rfl) (congrArg Da.lst (List.map_append (f := optI)).symm))) (ev_filt (lc_filtG (i := 8) (q := fun o => !(optI o).isN) (f := optI) (by decide) (fun o _ => et_test (ev_notN (ev_var rfl))) (fun o _ _ => ev_var rfl)) mem_filterMap_id) (by simp [tcounts])) ea_nil) (cd_min hm))))
abbrev s_translations_to : Stmt := top 46
theorem sc_translations_to : FnScope ["point", "shift", "goal", "x", "y", "step", "count"] ["point", "shift", "goal"] (defScope s_translations_to) := ⟨rfl, rfl, rfl, by decide +kernel, rfl, by decide +kernel, by decide +kernel⟩
def R_translations_to (ds : List Da) (d : Da) : Prop := ∃ (p : Pt) (sh : Ve) (q : Pt), ds = [p3 p, v2 sh, p3 q] ∧ PtB p ∧ PtB q ∧ (1 ≤ p.2.2 ∧ p.2.2 ≤ 1000000) ∧ (-480 ≤ sh.1 ∧ sh.1 ≤ 480 ∧ -480 ≤ sh.2 ∧ sh.2 ≤ 480) ∧ (sh.1 ≠ 0 ∨ sh.2 ≠ 0) ∧ d = optI (transTo p sh q)
theorem ri_translations_to {p : Pt} {sh : Ve} {q : Pt} (h0 : PtB p) (h1 : PtB q) (h2 : (1 ≤ p.2.2 ∧ p.2.2 ≤ 1000000)) (h3 : (-480 ≤ sh.1 ∧ sh.1 ≤ 480 ∧ -480 ≤ sh.2 ∧ sh.2 ≤ 480)) (h4 : (sh.1 ≠ 0 ∨ sh.2 ≠ 0)) : R_translations_to [p3 p, v2 sh, p3 q] (optI (transTo p sh q)) := ⟨p, sh, q, rfl, h0, h1, h2, h3, h4, rfl⟩
theorem ok_translations_to {f : Addr} {fd : FuncData}  (F : FnP K "translations_to" "translations_to" s_translations_to f fd) (hm : mg "translations_to" = some (.ref f))   : C8.Cal P w K mg base 1 "translations_to" (Prm T R_translations_to) [] := by
  refine ⟨⟨f, fd, _, [], fn_pure F sc_translations_to (fun ds d h => ?_) fun cdv A outer s H E hr => ⟨_, (pss_cons (ps_if (pt_cmpR op_ne (pe_ix ix_tup (pv 2) pe_int (fun _ _ => rfl)) (pe_ix ix_tup (pv 0) pe_int (fun _ _ => rfl)) (nomark _)) (pss_one (ps_ret pe_non)) pss_nil) (pss_cons (ps_par (i := 3) (j := 4) (by rfl) sc_translations_to.nd rfl rfl (by decide) rfl rfl (pa_cons (pe_op op_sub (pe_ix ix_tup (pv 2) pe_int (fun _ _ => rfl)) (pe_ix ix_tup (pv 0) pe_int (fun _ _ => rfl))) (pa_cons (pe_op op_sub (pe_ix ix_tup (pv 2) pe_int (fun _ _ => rfl)) (pe_ix ix_tup (pv 0) pe_int (fun _ _ => rfl))) pa_nil)) (by rfl)) (pss_cons (ps_set (i := 5) sc_translations_to.nd rfl (Or.inl rfl) (pe_tup (pa_cons (pe_op op_mulW (pe_ix ix_tup (pv 1) pe_int (fun _ _ => rfl)) (pe_ix ix_tup (pv 0) pe_int (fun _ _ => rfl))) (pa_cons (pe_op op_mulW (pe_ix ix_tup (pv 1) pe_int (fun _ _ => rfl)) (pe_ix ix_tup (pv 0) pe_int (fun _ _ => rfl))) pa_nil)))) (pss_cons (ps_set (i := 6) sc_translations_to.nd rfl (Or.inl rfl) (pe_ifExp (pt_cmpR op_ne (pe_ix ix_tup (pv 5) pe_int (fun _ _ => rfl)) pe_int (nomark _)) (pe_op op_fdivN (pv 3) (pe_ix ix_tup (pv 5) pe_int (fun _ _ => rfl))) (pe_op op_fdivN (pv 4) (pe_ix ix_tup (pv 5) pe_int (fun _ _ => rfl))))) (pss_one (ps_ret (pe_ifExp (PW.pt (pw_and (pt_cmpR op_ge (pv 6) pe_int (nomark _)) (pw_and1 (pt_cmpR (op_eqD hr.units) (pe_tup (pa_cons (pe_op op_mulW (pv 6) (pe_ix ix_tup (pv 5) pe_int (fun _ _ => rfl))) (pa_cons (pe_op op_mulW (pv 6) (pe_ix ix_tup (pv 5) pe_int (fun _ _ => rfl))) pa_nil))) (pe_tup (pa_cons (pv 3) (pa_cons (pv 4) pa_nil))) (nomark _))))) (pv 6) pe_non))))))), fun ds d h => ?_⟩, hm, F.kp, F.bindsN (fun _ _ _ _ _ _ us hl => match us, hl with | [_, _, _], _ => rfl), .nil⟩⟩
  · obtain ⟨p, sh, q, rfl, hp, hq, hd, ha, hz, rfl⟩ := h
    rfl
  · obtain ⟨p, sh, q, rfl, hp, hq, hd, ha, hz, rfl⟩ := h
    obtain ⟨d1, d2⟩ := hd
    obtain ⟨a1, a2, a3, a4⟩ := ha
    have := hp.x; have := hp.y; have := hp.d; have := hq.x; have := hq.y
    have bs1 : Bd 20 sh.1 := .of_le 480 (by omega) (by omega)
    have bs2 : Bd 20 sh.2 := .of_le 480 (by omega) (by omega)
    have m1 : ∀ s : Int, -480 ≤ s → s ≤ 480 → (s * p.2.2).natAbs < 1073741824 := fun s h1 h2 => by
      rw [Int.natAbs_mul]
      have e1 : s.natAbs ≤ 480 := by omega
      have e2 : p.2.2.natAbs ≤ 1000000 := by omega
      exact Nat.lt_of_le_of_lt (Nat.mul_le_mul e1 e2) (by decide)
    have z1 : ∀ s : Int, s ≠ 0 → s * p.2.2 ≠ 0 := fun s h e => by
      rcases Int.mul_eq_zero.mp e with e | e <;> omega
    by_cases hdd : q.2.2 ≠ p.2.2
    · unfold transTo
      rw [if_pos hdd]
      exact .ret (sd_seqR (sd_ifT (et_is (et_test (ev_neI (ev_ixT (ev_var rfl) ev_int rfl) (ev_ixT (ev_var rfl) ev_int rfl))) (by rw [Bool.not_eq_true', decide_eq_false_iff_not]; exact hdd)) (sd_ret ev_non)))
    rw [transTo_eq (Decidable.not_not.mp hdd)]
    have bc : Bd 700 (if sh.1 * p.2.2 ≠ 0 then (q.1 - p.1).fdiv (sh.1 * p.2.2) else (q.2.1 - p.2.1).fdiv (sh.2 * p.2.2)) := by
      have b1 : Bd 601 (q.1 - p.1) := bdSub (a := 300) (b := 300)
      have b2 : Bd 601 (q.2.1 - p.2.1) := bdSub (a := 300) (b := 300)
      split
      · exact fdiv_bd b1
      · exact fdiv_bd b2
    refine .ret (sd_seq (sd_ifF (et_is (et_test (ev_neI (ev_ixT (ev_var rfl) ev_int rfl) (ev_ixT (ev_var rfl) ev_int rfl))) (by rw [Bool.not_eq_false', decide_eq_true_eq]; exact Decidable.not_not.mp hdd)) sd_next) (sd_seq (sd_par (ea_cons (ev_sub (ev_ixT (ev_var rfl) ev_int rfl) (ev_ixT (ev_var rfl) ev_int rfl)) (ea_cons (ev_sub (ev_ixT (ev_var rfl) ev_int rfl) (ev_ixT (ev_var rfl) ev_int rfl)) ea_nil))) (sd_seq (sd_asg (ev_tup (ea_cons (ev_mulB (ev_ixT (ev_var rfl) ev_int rfl) (ev_ixT (ev_var rfl) ev_int rfl)) (ea_cons (ev_mulB (ev_ixT (ev_var rfl) ev_int rfl) (ev_ixT (ev_var rfl) ev_int rfl)) ea_nil)))) (sd_seq (sd_asg (x := .int (if sh.1 * p.2.2 ≠ 0 then (q.1 - p.1).fdiv (sh.1 * p.2.2) else (q.2.1 - p.2.1).fdiv (sh.2 * p.2.2))) ?_) (sd_ret ?_)))))
    · by_cases h0 : sh.1 * p.2.2 ≠ 0
      · rw [if_pos h0]
        exact ev_if (et_is (et_test (ev_neI (ev_ixT (ev_var rfl) ev_int rfl) ev_int)) (by rw [Bool.not_eq_true', decide_eq_false_iff_not]; exact h0)) (fun _ => ev_fdivN (ev_var rfl) (ev_ixT (ev_var rfl) ev_int rfl) ⟨h0, m1 _ a1 a2⟩) (fun z => by cases z)
      · rw [if_neg h0]
        have e1 : sh.1 = 0 := by
          rcases Int.mul_eq_zero.mp (Decidable.not_not.mp h0) with e | e <;> omega
        exact ev_if (et_is (et_test (ev_neI (ev_ixT (ev_var rfl) ev_int rfl) ev_int)) (by rw [Bool.not_eq_false', decide_eq_true_eq]; exact Decidable.not_not.mp h0)) (fun z => by cases z) (fun _ => ev_fdivN (ev_var rfl) (ev_ixT (ev_var rfl) ev_int rfl) ⟨z1 _ (by omega), m1 _ a3 a4⟩)
    · generalize (if sh.1 * p.2.2 ≠ 0 then (q.1 - p.1).fdiv (sh.1 * p.2.2) else (q.2.1 - p.2.1).fdiv (sh.2 * p.2.2)) = c at bc ⊢
      by_cases hk : c ≥ 0 ∧ c * (sh.1 * p.2.2) = q.1 - p.1 ∧ c * (sh.2 * p.2.2) = q.2.1 - p.2.1
      · rw [if_pos hk]
        exact ev_if (b := true) (et_is (et_and (et_test (ev_cmp (ev_var rfl) ev_int)) (fun _ => (et_test (ev_eqD (ev_tup (ea_cons (ev_mulB (ev_var rfl) (ev_ixT (ev_var rfl) ev_int rfl)) (ea_cons (ev_mulB (ev_var rfl) (ev_ixT (ev_var rfl) ev_int rfl)) ea_nil))) (ev_tup (ea_cons (ev_var rfl) (ea_cons (ev_var rfl) ea_nil))) rfl rfl rfl rfl)))) (by
          rw [decide_eq_true hk.1]
          show ((c * (sh.1 * p.2.2) == q.1 - p.1) && ((c * (sh.2 * p.2.2) == q.2.1 - p.2.1) && true)) = true
          rw [hk.2.1, hk.2.2]; simp)) (fun _ => ev_var rfl) (fun z => by cases z)
      · rw [if_neg hk]
        exact ev_if (b := false) (et_is (et_and (et_test (ev_cmp (ev_var rfl) ev_int)) (fun _ => (et_test (ev_eqD (ev_tup (ea_cons (ev_mulB (ev_var rfl) (ev_ixT (ev_var rfl) ev_int rfl)) (ea_cons (ev_mulB (ev_var rfl) (ev_ixT (ev_var rfl) ev_int rfl)) ea_nil))) (ev_tup (ea_cons (ev_var rfl) (ea_cons (ev_var rfl) ea_nil))) rfl rfl rfl rfl)))) (by
          by_cases h0 : c ≥ 0
          · rw [decide_eq_true h0]
            show ((c * (sh.1 * p.2.2) == q.1 - p.1) && ((c * (sh.2 * p.2.2) == q.2.1 - p.2.1) && true)) = false
            by_cases h1 : c * (sh.1 * p.2.2) = q.1 - p.1
            · have h2 : ¬ c * (sh.2 * p.2.2) = q.2.1 - p.2.1 := fun z => hk ⟨h0, h1, z⟩
              simp [h2]
            · simp [h1]
          · rw [decide_eq_false h0]; rfl)) (fun z => by cases z) (fun _ => ev_non)
end
end O26
set_option Elab.async false
set_option linter.all false
set_option maxRecDepth 100000
set_option maxHeartbeats 4000000
namespace O26
open PySem PySem.Spec PyProof.Rows L2
/-- a segment's fields -/
structure Sgm where
  p : Pt
  i : Int
  j : Int
  st : Int
  m : Int
def segF (C_Polygon : Addr) (vs : List Ve) (g : Sgm) : List (Str × Da) := [("polygon", poly C_Polygon vs), ("point", p3 g.p), ("pair", i2 g.i g.j), ("start", .int g.st), ("shift", v2 (shft vs g.i g.j)), ("count", .int g.m), ("stop", .int (g.st + 2 * g.m))]
def Sgm.at (vs : List Ve) (g : Sgm) (n : Int) : Pt := if (n - g.st) % 2 = 1 then refl (trans g.p (shft vs g.i g.j) ((n - g.st) / 2)) (vtx vs g.i) else trans g.p (shft vs g.i g.j) ((n - g.st) / 2)
def hit1 (vs : List Ve) (g : Sgm) (odd : Int) (q : Pt) : List Int := match transTo g.p (shft vs g.i g.j) q with
  | none => []
  | some c => if c < g.m then [g.st + 2 * c + odd] else []
abbrev segD (C_Polygon C_Segment : Addr) (vs : List Ve) (g : Sgm) : Da := .ins C_Segment (segF C_Polygon vs g)
def Sgm.hits (vs : List Ve) (g : Sgm) (q : Pt) : List Int := hit1 vs g 0 q ++ hit1 vs g 1 (refl q (vtx vs g.i))
theorem transTo_bd {p q : Pt} {sh : Ve} {c : Int} (hp : PtB p) (hq : PtB q) (h : transTo p sh q = some c) : Bd 700 c := by
  by_cases hd : q.2.2 ≠ p.2.2
  · unfold transTo at h
    rw [if_pos hd] at h; cases h
  · rw [transTo_eq (Decidable.not_not.mp hd)] at h
    have := hp.x; have := hp.y; have := hq.x; have := hq.y
    have b1 : Bd 601 (q.1 - p.1) := bdSub (a := 300) (b := 300)
    have b2 : Bd 601 (q.2.1 - p.2.1) := bdSub (a := 300) (b := 300)
    have bc : Bd 700 (if sh.1 * p.2.2 ≠ 0 then (q.1 - p.1).fdiv (sh.1 * p.2.2) else (q.2.1 - p.2.1).fdiv (sh.2 * p.2.2)) := by
      split
      · exact fdiv_bd b1
      · exact fdiv_bd b2
    generalize (if sh.1 * p.2.2 ≠ 0 then (q.1 - p.1).fdiv (sh.1 * p.2.2) else (q.2.1 - p.2.1).fdiv (sh.2 * p.2.2)) = z at bc h
    split at h
    · cases h; exact bc
    · cases h
theorem PolB.v1 {vs : List Ve} (h : PolB vs) (i : Int) : (-60 ≤ (vtx vs i).1 ∧ (vtx vs i).1 ≤ 60) ∧ -60 ≤ (vtx vs i).2 ∧ (vtx vs i).2 ≤ 60 := by
  have e := h.idx i
  unfold vtx
  rw [List.getD_eq_getElem?_getD, List.getElem?_eq_getElem e.1]
  exact h.co _ (List.getElem_mem _)
theorem PolB.sh {vs : List Ve} (h : PolB vs) (i j : Int) : -480 ≤ (shft vs i j).1 ∧ (shft vs i j).1 ≤ 480 ∧ -480 ≤ (shft vs i j).2 ∧ (shft vs i j).2 ≤ 480 := by
  have a := h.v1 i
  have b := h.v1 j
  unfold shft dif
  refine ⟨?_, ?_, ?_, ?_⟩ <;> simp only <;> omega
theorem hit1_none {vs : List Ve} {g : Sgm} {odd : Int} {q : Pt} (e : transTo g.p (shft vs g.i g.j) q = none) : hit1 vs g odd q = [] := by unfold hit1; rw [e]
theorem hit1_yes {vs : List Ve} {g : Sgm} {odd c : Int} {q : Pt} (e : transTo g.p (shft vs g.i g.j) q = some c) (h : c < g.m) : hit1 vs g odd q = [g.st + 2 * c + odd] := by unfold hit1; rw [e]; exact if_pos h
theorem hit1_no {vs : List Ve} {g : Sgm} {odd c : Int} {q : Pt} (e : transTo g.p (shft vs g.i g.j) q = some c) (h : ¬ c < g.m) : hit1 vs g odd q = [] := by unfold hit1; rw [e]; exact if_neg h
theorem sd_as {T : Tb} {S : Os} {ts : TS} {δ : List (Option Da)} {o : Out} (h : SD T S ts δ o) : SD T S ts δ o := h
section
variable {P : Program} {w : World} {K : PySem.W.Frag} {mg : Str → Option Value} {base : Heap} {T : Tb}
abbrev s_SegmentU_initU : Stmt := inClass (top 47) 0
theorem sc_SegmentU_initU : FnScope ["self", "polygon", "point", "pair", "direction", "start"] ["self", "polygon", "point", "pair", "direction", "start"] (defScope s_SegmentU_initU) := ⟨rfl, rfl, rfl, by decide +kernel, rfl, by decide +kernel, by decide +kernel⟩
def R_SegmentU_initU (C_Polygon : Addr) (ds : List Da) (fs : List (Str × Da)) : Prop := ∃ (vs : List Ve) (g : Sgm) (dir : Int), ds = [poly C_Polygon vs, p3 g.p, i2 g.i g.j, .int dir, .int g.st] ∧ PolB vs ∧ PtS g.p ∧ Bd 2 dir ∧ Bd 300 g.m ∧ (g.m ∈ pcounts vs g.p g.i g.j dir ∧ ∀ y ∈ pcounts vs g.p g.i g.j dir, g.m ≤ y) ∧ fs = segF C_Polygon vs g
theorem ok_SegmentU_initU {f : Addr} {fd : FuncData} {C_Polygon : Addr} {C_Segment : Addr} (F : FnP K "__init__" "Segment.__init__" s_SegmentU_initU f fd) (mk0 : Mk K C_Segment f) (hm : mg "Segment" = some (.ref C_Segment)) (cl_Segment : Cls K C_Segment) (na_Segment_polygon : NoAttr K C_Segment "polygon") (na_Segment_point : NoAttr K C_Segment "point") (na_Segment_pair : NoAttr K C_Segment "pair") (na_Segment_start : NoAttr K C_Segment "start") (c_pair_shift : C8.Cal P w K mg base 2 "pair_shift" (Prm T (R_pair_shift C_Polygon)) []) (na_Segment_shift : NoAttr K C_Segment "shift") (c_pair_count : C8.Cal P w K mg base 5 "pair_count" (Prm T (R_pair_count C_Polygon)) []) (na_Segment_count : NoAttr K C_Segment "count") (na_Segment_stop : NoAttr K C_Segment "stop")   : C8.Mak P w K mg base 6 "Segment" C_Segment (PrmI T C_Segment (R_SegmentU_initU C_Polygon)) [] := by
  refine ⟨f, fd, _, _, mk0, fn_init F sc_SegmentU_initU (fun ds d h => ?_) fun cdv A outer s H E hr => ⟨_, (pss_cons (ps_fld (pv 0) (pv 1) rfl) (pss_cons (ps_fld (pv 0) (pv 2) rfl) (pss_cons (ps_fld (pv 0) (pv 3) rfl) (pss_cons (ps_fld (pv 0) (pv 5) rfl) (pss_cons (ps_fld (pv 0) (C8.pe_c c_pair_shift hr (by decide) rfl (pa_cons (pv 1) (pa_cons (pv 3) pa_nil))) rfl) (pss_cons (ps_fld (pv 0) (C8.pe_c c_pair_count hr (by decide) rfl (pa_cons (pv 1) (pa_cons (pv 2) (pa_cons (pv 3) (pa_cons (pv 4) pa_nil))))) rfl) (pss_one (ps_fld (pv 0) (pe_op op_add (pv 5) (pe_op op_mulW pe_int (pe_fld (pv 0) rfl))) rfl)))))))), fun x ds fs h => ?_⟩, hm, (F.bindsN (fun _ _ _ _ _ _ us hl => match us, hl with | [_, _, _, _, _, _], _ => rfl)), .nil⟩
  · obtain ⟨vs, g, dir, rfl, hB, hp, h3, hb, hm, rfl⟩ := h
    rfl
  · obtain ⟨vs, g, dir, rfl, hB, hp, h3, hb, hm, rfl⟩ := h
    refine sdi_one (δ' := [some (.fn x), some (poly C_Polygon vs), some (p3 g.p), some (i2 g.i g.j), some (.int dir), some (.int g.st)]) (sd_seq (sd_fldN (ev_var rfl) (ev_var rfl) lk0 cl_Segment na_Segment_polygon) (sd_seq (sd_fldN (ev_var rfl) (ev_var rfl) lk0 cl_Segment na_Segment_point) (sd_seq (sd_fldN (ev_var rfl) (ev_var rfl) lk0 cl_Segment na_Segment_pair) (sd_seq (sd_fldN (ev_var rfl) (ev_var rfl) lk0 cl_Segment na_Segment_start) (sd_seq (sd_fldN (ev_call (ea_cons (ev_var rfl) (ea_cons (ev_var rfl) ea_nil)) (ri_pair_shift hB)) (ev_var rfl) lk0 cl_Segment na_Segment_shift) (sd_seq (sd_fldN (ev_call (ea_cons (ev_var rfl) (ea_cons (ev_var rfl) (ea_cons (ev_var rfl) (ea_cons (ev_var rfl) ea_nil)))) (ri_pair_count hB hp h3 hm)) (ev_var rfl) lk0 cl_Segment na_Segment_count) (sd_fldN (ev_add (ev_var rfl) (ev_mulB ev_int (ev_fldO (ev_var rfl) lk0 cl_Segment na_Segment_count rfl))) (ev_var rfl) lk0 cl_Segment na_Segment_stop))))))) lk0
abbrev s_Segment_point_at : Stmt := inClass (top 47) 1
theorem sc_Segment_point_at : FnScope ["self", "steps", "count", "odd", "here"] ["self", "steps"] (defScope s_Segment_point_at) := ⟨rfl, rfl, rfl, by decide +kernel, rfl, by decide +kernel, by decide +kernel⟩
def R_Segment_point_at (C_Polygon : Addr) (C_Segment : Addr) (ds : List Da) (d : Da) : Prop := ∃ (vs : List Ve) (g : Sgm) (n : Int), ds = [segD C_Polygon C_Segment vs g, .int n] ∧ PolB vs ∧ PtS g.p ∧ Bd 290 (n - g.st) ∧ d = p3 (g.at vs n)
theorem ri_Segment_point_at {C_Polygon : Addr} {C_Segment : Addr} {vs : List Ve} {g : Sgm} {n : Int} (h0 : PolB vs) (h1 : PtS g.p) (h2 : Bd 290 (n - g.st)) : (R_Segment_point_at C_Polygon C_Segment) [segD C_Polygon C_Segment vs g, .int n] (p3 (g.at vs n)) := ⟨vs, g, n, rfl, h0, h1, h2, rfl⟩
theorem ok_Segment_point_at {f : Addr} {fd : FuncData} {C_Polygon : Addr} {C_Segment : Addr} (F : FnP K "point_at" "Segment.point_at" s_Segment_point_at f fd) (cl0 : Cls K C_Segment) (me0 : Meth K C_Segment "point_at" f) (fr_divmod : mg "divmod" = none) (cl_Segment : Cls K C_Segment) (na_Segment_start : NoAttr K C_Segment "start") (na_Segment_point : NoAttr K C_Segment "point") (na_Segment_shift : NoAttr K C_Segment "shift") (c_translated : C8.Cal P w K mg base 1 "translated" (Prm T R_translated) []) (na_Segment_polygon : NoAttr K C_Segment "polygon") (m_Polygon_vertex : C8.Met P w K mg base 1 C_Polygon "vertex" (Prm T (R_Polygon_vertex C_Polygon)) []) (na_Segment_pair : NoAttr K C_Segment "pair") (c_reflected : C8.Cal P w K mg base 1 "reflected" (Prm T R_reflected) [])  : C8.Met P w K mg base 2 C_Segment "point_at" (Prm T (R_Segment_point_at C_Polygon C_Segment)) [] := by
  refine ⟨⟨f, fd, _, [], cl0, me0, fn_pure F sc_Segment_point_at (fun ds d h => ?_) fun cdv A outer s H E hr => ⟨_, (pss_cons (ps_asg (pe_callB call_divmod (by rfl) fr_divmod (by decide +kernel) (pa_cons (pe_op op_sub (pv 1) (pe_fld (pv 0) rfl)) (pa_cons pe_int pa_nil))) (pg_tup (by rfl) (pgs_cons (pg_name (i := 2) sc_Segment_point_at.nd rfl (Or.inl rfl)) (pgs_cons (pg_name (i := 3) sc_Segment_point_at.nd rfl (Or.inl rfl)) pgs_nil)))) (pss_cons (ps_set (i := 4) sc_Segment_point_at.nd rfl (Or.inl rfl) (C8.pe_c c_translated hr (by decide) rfl (pa_cons (pe_fld (pv 0) rfl) (pa_cons (pe_fld (pv 0) rfl) (pa_cons (pv 2) pa_nil))))) (pss_one (ps_ret (pe_ifExp (pt_cmpR op_eq (pv 3) pe_int (nomark _)) (C8.pe_c c_reflected hr (by decide) rfl (pa_cons (pv 4) (pa_cons (C8.pe_mt m_Polygon_vertex hr (by decide) (pe_fld (pv 0) rfl) (pa_cons (pe_ix ix_tup (pe_fld (pv 0) rfl) pe_int (fun _ _ => rfl)) pa_nil)) pa_nil))) (pv 4)))))), fun ds d h => ?_⟩, F.bindsN (fun _ _ _ _ _ _ us hl => match us, hl with | [_, _], _ => rfl), .nil⟩⟩
  · obtain ⟨vs, g, n, rfl, hB, hp, hn, rfl⟩ := h
    rfl
  · obtain ⟨vs, g, n, rfl, hB, hp, hn, rfl⟩ := h
    have hn2 : Bd 300 ((n - g.st) / 2) := ⟨by
      have := hn.out
      have h1 : ((n - g.st) / 2).natAbs ≤ (n - g.st).natAbs := by omega
      exact Nat.lt_of_lt_of_le (Nat.lt_of_le_of_lt h1 this) (Nat.pow_le_pow_right (by decide) (by decide))⟩
    refine .ret (sd_seq (sd_asgG (ev_cb (ea_cons (ev_sub (ev_var rfl) (ev_fld (ev_var rfl) cl_Segment na_Segment_start rfl)) (ea_cons ev_int ea_nil)) (cd_divmod ⟨by decide, by decide⟩)) (gd_tup (gds_cons gd_name (gds_cons gd_name gds_nil)))) (sd_seq (sd_asg (ev_call (ea_cons (ev_fld (ev_var rfl) cl_Segment na_Segment_point rfl) (ea_cons (ev_fld (ev_var rfl) cl_Segment na_Segment_shift rfl) (ea_cons (ev_var rfl) ea_nil))) (ri_translated hn2 ((hB.f1 _ _).up (by decide)) ((hB.f2 _ _).up (by decide)) hp.d))) (sd_ret ?_)))
    unfold Sgm.at
    by_cases ho : (n - g.st) % 2 = 1
    · rw [if_pos ho]
      exact ev_if (et_is (et_test (ev_eqI (ev_var rfl) ev_int)) (decide_eq_true ho)) (fun _ => ev_call (ea_cons (ev_var rfl) (ea_cons (ev_meth (ev_fld (ev_var rfl) cl_Segment na_Segment_polygon rfl) (ea_cons (ev_ixT (ev_fld (ev_var rfl) cl_Segment na_Segment_pair rfl) ev_int rfl) ea_nil) (ri_Polygon_vertex hB)) ea_nil)) (ri_reflected ((hB.b1 _).up (by decide)) ((hB.b2 _).up (by decide)) hp.d)) (fun z => by cases z)
    · rw [if_neg ho]
      exact ev_if (et_is (et_test (ev_eqI (ev_var rfl) ev_int)) (decide_eq_false ho)) (fun z => by cases z) (fun _ => ev_var rfl)
abbrev s_Segment_steps_to : Stmt := inClass (top 47) 2
theorem sc_Segment_steps_to : FnScope ["self", "goal", "found", "odd", "other", "count"] ["self", "goal"] (defScope s_Segment_steps_to) := ⟨rfl, rfl, rfl, by decide +kernel, rfl, by decide +kernel, by decide +kernel⟩
def R_Segment_steps_to (C_Polygon : Addr) (C_Segment : Addr) (ds : List Da) (d : List Da) : Prop := ∃ (vs : List Ve) (g : Sgm) (q : Pt), ds = [segD C_Polygon C_Segment vs g, p3 q] ∧ PolB vs ∧ PtS g.p ∧ PtS q ∧ (1 ≤ g.p.2.2 ∧ g.p.2.2 ≤ 1000000) ∧ ((shft vs g.i g.j).1 ≠ 0 ∨ (shft vs g.i g.j).2 ≠ 0) ∧ d = (g.hits vs q).map Da.int
theorem ri_Segment_steps_to {C_Polygon : Addr} {C_Segment : Addr} {vs : List Ve} {g : Sgm} {q : Pt} (h0 : PolB vs) (h1 : PtS g.p) (h2 : PtS q) (h3 : (1 ≤ g.p.2.2 ∧ g.p.2.2 ≤ 1000000)) (h4 : ((shft vs g.i g.j).1 ≠ 0 ∨ (shft vs g.i g.j).2 ≠ 0)) : (R_Segment_steps_to C_Polygon C_Segment) [segD C_Polygon C_Segment vs g, p3 q] ((g.hits vs q).map Da.int) := ⟨vs, g, q, rfl, h0, h1, h2, h3, h4, rfl⟩
theorem ok_Segment_steps_to {f : Addr} {fd : FuncData} {C_Polygon : Addr} {C_Segment : Addr} (F : FnP K "steps_to" "Segment.steps_to" s_Segment_steps_to f fd) (cl0 : Cls K C_Segment) (me0 : Meth K C_Segment "steps_to" f) (cl_Segment : Cls K C_Segment) (na_Segment_polygon : NoAttr K C_Segment "polygon") (m_Polygon_vertex : C8.Met P w K mg base 1 C_Polygon "vertex" (Prm T (R_Polygon_vertex C_Polygon)) []) (na_Segment_pair : NoAttr K C_Segment "pair") (c_reflected : C8.Cal P w K mg base 1 "reflected" (Prm T R_reflected) []) (na_Segment_point : NoAttr K C_Segment "point") (na_Segment_shift : NoAttr K C_Segment "shift") (c_translations_to : C8.Cal P w K mg base 1 "translations_to" (Prm T R_translations_to) []) (na_Segment_count : NoAttr K C_Segment "count") (na_Segment_start : NoAttr K C_Segment "start")  : C8.Met P w K mg base 2 C_Segment "steps_to" (PrmL T (R_Segment_steps_to C_Polygon C_Segment)) [] := by
  refine ⟨⟨f, fd, _, [], cl0, me0, fn_list F sc_Segment_steps_to (fun ds d h => ?_) fun cdv A outer s H E hr => ⟨_, (pss_cons (ps_set (i := 2) sc_Segment_steps_to.nd rfl (Or.inl rfl) (pe_lst pa_nil)) (pss_cons (ps_for PassesOwn.never rfl (pi_tup (pe_tup (pa_cons (pe_tup (pa_cons pe_int (pa_cons (pv 1) pa_nil))) (pa_cons (pe_tup (pa_cons pe_int (pa_cons (C8.pe_c c_reflected hr (by decide) rfl (pa_cons (pv 1) (pa_cons (C8.pe_mt m_Polygon_vertex hr (by decide) (pe_fld (pv 0) rfl) (pa_cons (pe_ix ix_tup (pe_fld (pv 0) rfl) pe_int (fun _ _ => rfl)) pa_nil)) pa_nil))) pa_nil))) pa_nil)))) (pg_tup (by rfl) (pgs_cons (pg_name (i := 3) sc_Segment_steps_to.nd rfl (Or.inl rfl)) (pgs_cons (pg_name (i := 4) sc_Segment_steps_to.nd rfl (Or.inl rfl)) pgs_nil))) (pss_cons (ps_set (i := 5) sc_Segment_steps_to.nd rfl (Or.inl rfl) (C8.pe_c c_translations_to hr (by decide) rfl (pa_cons (pe_fld (pv 0) rfl) (pa_cons (pe_fld (pv 0) rfl) (pa_cons (pv 4) pa_nil))))) (pss_one (ps_if (PW.pt (pw_and (pt_cmpR op_notN (pv 5) pe_non (nomark _)) (pw_and1 (pt_cmpR op_lt (pv 5) (pe_fld (pv 0) rfl) (nomark _))))) (pss_one (ps_expr (pe_bm PySem.F.plainAttrs_list PySem.F.slot_list_append PySem.F.type_list_append mt_append (pv 2) (pa_cons (pe_op op_add (pe_op op_add (pe_fld (pv 0) rfl) (pe_op op_mulW pe_int (pv 5))) (pv 3)) pa_nil)))) pss_nil)))) (pss_one (ps_ret (pv 2))))), fun ds d h => ?_⟩, F.bindsN (fun _ _ _ _ _ _ us hl => match us, hl with | [_, _], _ => rfl), .nil⟩⟩
  · obtain ⟨vs, g, q, rfl, hB, hp, hq, hd, hz, rfl⟩ := h
    rfl
  · obtain ⟨vs, g, q, rfl, hB, hp, hq, hd, hz, rfl⟩ := h
    have hz2 := hB.sh g.i g.j
    have hh : (hit1 vs g 0 q).length ≤ 1 := by
      unfold hit1
      split
      · exact Nat.zero_le _
      · split
        · exact Nat.le_refl _
        · exact Nat.zero_le _
    exact sdl_mine fun pr => ⟨_, sd_seq (sd_for (it_tup (ev_tup (ea_cons (ev_tup (ea_cons ev_int (ea_cons (ev_var rfl) ea_nil))) (ea_cons (ev_tup (ea_cons ev_int (ea_cons (ev_call (ea_cons (ev_var rfl) (ea_cons (ev_meth (ev_fld (ev_var rfl) cl_Segment na_Segment_polygon rfl) (ea_cons (ev_ixT (ev_fld (ev_var rfl) cl_Segment na_Segment_pair rfl) ev_int rfl) ea_nil) (ri_Polygon_vertex hB)) ea_nil)) (ri_reflected ((hB.b1 _).up (by decide)) ((hB.b2 _).up (by decide)) hq.d)) ea_nil))) ea_nil)))) (.next (gd_tup (gds_cons gd_name (gds_cons gd_name gds_nil))) (sd_as (o := .nx [some (segD C_Polygon C_Segment vs g), some (p3 q), some (.fn pr), some (.int 0), some (p3 q), some (optI (transTo g.p (shft vs g.i g.j) q))] [(pr, .lst ([] ++ (hit1 vs g 0 q).map Da.int))]) (by
      have ho : Bd 2 0 := ⟨by decide⟩
      have hq' : PtB q := hq.b
      refine sd_seq (sd_asg (ev_call (ea_cons (ev_fld (ev_var rfl) cl_Segment na_Segment_point rfl) (ea_cons (ev_fld (ev_var rfl) cl_Segment na_Segment_shift rfl) (ea_cons (ev_var rfl) ea_nil))) (ri_translations_to hp.b hq' hd hz2 hz))) ?_
      cases e : transTo g.p (shft vs g.i g.j) q with
      | none =>
        rw [hit1_none e, List.map_nil, List.append_nil]
        exact sd_ifF (et_is (et_and (et_test (ev_notN (ev_var rfl))) (b := true) (fun z => by cases z)) rfl) sd_next
      | some c =>
        have bc := transTo_bd hp.b hq' e
        by_cases hc : c < g.m
        · rw [hit1_yes e hc]
          exact sd_own (sd_ifT (et_is (et_and (et_test (ev_notN (ev_var rfl))) (fun _ => (et_test (ev_cmp (ev_var rfl) (ev_fld (ev_var rfl) cl_Segment na_Segment_count rfl))))) (decide_eq_true hc)) (sd_app (ev_var rfl) (ev_add (ev_add (ev_fld (ev_var rfl) cl_Segment na_Segment_start rfl) (ev_mulB ev_int (ev_var rfl))) (ev_var rfl)) lk0 (by simp; try omega))) (fun p c h => by
            rw [lookup_put] at h ⊢
            by_cases hp : p = pr
            · rw [if_pos hp] at h ⊢; exact h
            · rw [if_neg hp] at h; cases h)
        · rw [hit1_no e hc, List.map_nil, List.append_nil]
          exact sd_ifF (et_is (et_and (et_test (ev_notN (ev_var rfl))) (fun _ => (et_test (ev_cmp (ev_var rfl) (ev_fld (ev_var rfl) cl_Segment na_Segment_count rfl))))) (decide_eq_false hc)) sd_next)) (.next (gd_tup (gds_cons gd_name (gds_cons gd_name gds_nil))) (sd_as (o := .nx [some (segD C_Polygon C_Segment vs g), some (p3 q), some (.fn pr), some (.int 1), some (p3 (refl q (vtx vs g.i))), some (optI (transTo g.p (shft vs g.i g.j) (refl q (vtx vs g.i))))] [(pr, .lst (([] ++ (hit1 vs g 0 q).map Da.int) ++ (hit1 vs g 1 (refl q (vtx vs g.i))).map Da.int))]) (by
      have ho : Bd 2 1 := ⟨by decide⟩
      have hq' : PtB (refl q (vtx vs g.i)) := (hq.r hB _)
      refine sd_seq (sd_asg (ev_call (ea_cons (ev_fld (ev_var rfl) cl_Segment na_Segment_point rfl) (ea_cons (ev_fld (ev_var rfl) cl_Segment na_Segment_shift rfl) (ea_cons (ev_var rfl) ea_nil))) (ri_translations_to hp.b hq' hd hz2 hz))) ?_
      cases e : transTo g.p (shft vs g.i g.j) (refl q (vtx vs g.i)) with
      | none =>
        rw [hit1_none e, List.map_nil, List.append_nil]
        exact sd_ifF (et_is (et_and (et_test (ev_notN (ev_var rfl))) (b := true) (fun z => by cases z)) rfl) sd_next
      | some c =>
        have bc := transTo_bd hp.b hq' e
        by_cases hc : c < g.m
        · rw [hit1_yes e hc]
          exact sd_own (sd_ifT (et_is (et_and (et_test (ev_notN (ev_var rfl))) (fun _ => (et_test (ev_cmp (ev_var rfl) (ev_fld (ev_var rfl) cl_Segment na_Segment_count rfl))))) (decide_eq_true hc)) (sd_app (ev_var rfl) (ev_add (ev_add (ev_fld (ev_var rfl) cl_Segment na_Segment_start rfl) (ev_mulB ev_int (ev_var rfl))) (ev_var rfl)) lk0 (by simp; try omega))) (fun p c h => by
            rw [lookup_put] at h ⊢
            by_cases hp : p = pr
            · rw [if_pos hp] at h ⊢; exact h
            · rw [if_neg hp] at h; cases h)
        · rw [hit1_no e hc, List.map_nil, List.append_nil]
          exact sd_ifF (et_is (et_and (et_test (ev_notN (ev_var rfl))) (fun _ => (et_test (ev_cmp (ev_var rfl) (ev_fld (ev_var rfl) cl_Segment na_Segment_count rfl))))) (decide_eq_false hc)) sd_next)) .nil))) (sd_retO (ev_var rfl)), by
      rw [lk0, List.nil_append, ← List.map_append]; rfl⟩
end
end O26
set_option Elab.async false
set_option linter.all false
set_option maxRecDepth 100000
set_option maxHeartbeats 4000000
namespace O26
open PySem PySem.Spec PyProof.Rows L2
/-! what is one's own, told anew at the end of a statement -/
def Fixes (T : Tb) (S1 : Os) (δ1 : List (Option Da)) (S2 : Os) (δ2 : List (Option Da)) : Prop := ∀ F H σ, Sg T S1 F H → EnvR F σ δ1 → ∃ F2, GrS T S1 F H S2 F2 H ∧ EnvR F2 σ δ2
section
variable {T : Tb} {S S1 S2 S3 : Os} {δ δ1 δ2 δ3 : List (Option Da)} {ts : TS} {K : PySem.W.Frag} {te ta tb tk : TE} {d : Da} {C : Addr} {m : Str}
theorem sd_fix (h : SD T S ts δ (.nx δ1 S1)) (k : Fixes T S1 δ1 S2 δ2) : SD T S ts δ (.nx δ2 S2) := fun F H σ D s e q =>
  h F H σ D s e fun F1 H1 g1 σ1 e1 => by
    obtain ⟨F2, g2, e2⟩ := k F1 H1 σ1 g1.sg e1
    exact q F2 H1 (g1.trans g2) σ1 e2
theorem Fixes.trans (a : Fixes T S1 δ1 S2 δ2) (b : Fixes T S2 δ2 S3 δ3) : Fixes T S1 δ1 S3 δ3 := fun F H σ s e => by
  obtain ⟨F2, g2, e2⟩ := a F H σ s e
  obtain ⟨F3, g3, e3⟩ := b F2 H σ g2.sg e2
  exact ⟨F3, g2.trans g3, e3⟩
theorem Fixes.own (k : ∀ p c, S2.lookup p = some c → S1.lookup p = some c) : Fixes T S1 δ1 S2 δ1 := fun F H σ s e => ⟨F, (GrS.refl s).weak k, e⟩
theorem EnvR.forget {F : Hp} : ∀ {σ : L2.St} {δ : List (Option Da)}, EnvR F σ δ → EnvR F σ (List.replicate δ.length none)
  | _, _, .nil => .nil
  | _, _, .skip r => .skip (EnvR.forget r)
  | _, _, .cons _ r => .skip (EnvR.forget r)
theorem Fixes.forget {n : Nat} (h : δ1.length = n) : Fixes T S1 δ1 S1 (List.replicate n none) := fun F H σ s e => ⟨F, GrS.refl s, h ▸ e.forget⟩
theorem unown_lk {S : Os} {p q : Addr} : (unown S p).lookup q = if q = p then none else S.lookup q := by
  unfold unown
  induction S with
  | nil => simp
  | cons a S ih =>
    obtain ⟨r, cr⟩ := a
    by_cases hr : r = p
    · subst hr
      rw [List.filter_cons_of_neg (by simp), ih, lookup_put]
      by_cases hq : q = r
      · rw [if_pos hq, if_pos hq]
      · rw [if_neg hq, if_neg hq, if_neg hq]
    · rw [List.filter_cons_of_pos (by simp [hr]), lookup_put, lookup_put, ih]
      by_cases hq : q = r
      · rw [if_pos hq, if_pos hq, if_neg (fun z => hr (hq.symm.trans z))]
      · rw [if_neg hq, if_neg hq]
theorem DrF.see {F : Hp} {f : Str} {d0 d1 : Da} (k : ∀ v, Dr F v d0 → Dr F v d1) {ds2 : List (Str × Da)} : ∀ {fs : List (Str × V)} {ds1 : List (Str × Da)}, DrF F fs (ds1 ++ (f, d0) :: ds2) → DrF F fs (ds1 ++ (f, d1) :: ds2)
  | _, [], .cons a t => .cons (k _ a) t
  | _, _ :: _, .cons a t => .cons a (DrF.see k t)
/-- an own list that stands in a field of an own instance: fixed -/
theorem Fixes.field {x r : Addr} {f : Str} {fs1 fs2 : List (Str × Da)} {l : List Da} (hx : S1.lookup x = some (.ins C (fs1 ++ (f, .fn r) :: fs2))) (hr : S1.lookup r = some (.lst l)) (hne : x ≠ r) :
    Fixes T S1 δ1 ((x, .ins C (fs1 ++ (f, .lst l) :: fs2)) :: unown S1 r) δ1 := fun F H σ s e => by
  obtain ⟨o, h1, h2, xs, rfl, h3⟩ := s.own r _ hr
  have g := GrS.publish s hr h1
  have sp := same_pub (o := .lst xs) h2
  refine ⟨_, ⟨g.hh, g.ff, ⟨g.sg.ex, g.sg.tab, g.sg.nt, fun p c hp => ?_⟩, g.ow, fun p c hp n => ?_, g.th⟩, e.mono sp⟩
  · rw [lookup_put] at hp
    by_cases h : p = x
    · rw [if_pos h] at hp; cases hp; subst h
      obtain ⟨o2, k1, k2, dx, vs, rfl, k3⟩ := s.own p _ hx
      refine ⟨_, k1, by rw [upd_ne hne]; exact k2, dx, vs, rfl, DrF.see (fun v hv => ?_) (k3.mono sp)⟩
      obtain rfl := dr_fn hv
      exact .lst upd_same (h3.mono sp)
    · rw [if_neg h] at hp
      exact g.sg.own p c hp
  · rw [lookup_put] at hp
    by_cases h : p = x
    · rw [h, hx] at n; cases n
    · rw [if_neg h, unown_lk] at hp
      by_cases h2 : p = r
      · rw [if_pos h2] at hp; cases hp
      · rw [if_neg h2, n] at hp; cases hp
/-- a method's new list, as a value: fixed -/
theorem ev_methL {R : List Da → List Da → Prop} {E : XK} {fs : List (Str × Da)} {tz : TA} {ds l : List Da} (ho : EvD T S ta δ (.ins C fs)) (h : EvA T S tz δ ds) (hR : R (.ins C fs :: ds) l) (hm : fs.lookup m = none := by first | rfl | kernel_rfl) : EvD T S (tMeth C m (PrmL T R) [] E ta tz) δ (.lst l) := fun F H σ Q s e q =>
  ho F H σ _ s e fun v F1 H1 g1 r1 => by
    cases r1 with
    | ins h1 h2 =>
      rename_i a dx fs'
      refine ⟨a, dx, fs', rfl, g1.sg.ex _ _ h1, (h2.look (f := m)).2 hm, ?_⟩
      refine h F1 H1 σ _ g1.sg (e.mono g1.ff) fun vs F2 H2 g2 r2 => ?_
      refine ⟨F2, .ins C fs :: ds, l, g2.sg.bare, .cons (.ins (g2.ff _ _ h1) (h2.mono g2.ff)) (by rw [List.append_nil]; exact r2), hR, fun p F3 H3 g3 => ?_⟩
      obtain ⟨o2, k1, k2, xs, rfl, k3⟩ := g3.sg.own p _ lk0
      have g4 := GrS.publish g3.sg (c := .lst l) lk0 k1
      have g5 : GrS T [] F2 H2 [] (upd F3 p (.lst xs)) H3 := (g3.trans g4).drop
      exact q (.ref p) _ H3 ((g1.trans g2).trans (g5.gr.with g2.sg)) (.lst upd_same (k3.mono (same_pub k2)))
/-- o.m(..) of an own instance, changing what is one's own -/
theorem sd_methS {R : List Da → Os → Os → Da → Prop} {E : XK} {x : Addr} {fs : List (Str × Da)} {tz : TA} {ds : List Da} {S0 S' : Os} (ho : EvD T S ta δ (.fn x)) (hS : S.lookup x = some (.ins C fs)) (h : EvA T S tz δ ds) (hR : R (.fn x :: ds) S0 S' d)
    (h0 : ∀ q c, S0.lookup q = some c → S.lookup q = some c) (h1 : ∀ q c, S0.lookup q = some c → S'.lookup q ≠ none) (hm : fs.lookup m = none := by first | rfl | kernel_rfl) : SD T S (tDrop (tMeth C m (PrmS T R) [] E ta tz)) δ (.nx δ (S' ++ S)) := fun F H σ D s e q =>
  ho F H σ _ s e fun v F1 H1 g1 r1 => by
    obtain rfl := dr_fn r1
    obtain ⟨o2, k1, k2, dx, vs, rfl, k3⟩ := g1.sg.own x _ hS
    refine ⟨x, dx, vs, rfl, k1, (k3.look (f := m)).2 hm, ?_⟩
    refine h F1 H1 σ _ g1.sg (e.mono g1.ff) fun us F2 H2 g2 r2 => ?_
    refine ⟨F2, .fn x :: ds, S0, S', d, g2.sg.weak h0, .cons (.fn x) (by rw [List.append_nil]; exact r2), hR, fun v F3 H3 g3 r3 => ?_⟩
    exact q F3 H3 ((g1.trans g2).s.trans (g3.foot g2.sg h0 h1)) σ (((e.mono g1.ff).mono g2.ff).mono g3.ff)
end
/-! orbits -/
abbrev tlD (a : Int × Pt) : Da := .tup [.int a.1, p3 a.2]
def limOk (lim : Option Int) (n : Int) : Bool := match lim with
  | none => true
  | some l => decide (n ≤ l)
inductive OrbR (vs : List Ve) (dir : Int) (q : Pt) (lim : Option Int) : Pt → Int → List Sgm → List (Int × Pt) → Prop
  | lim {h : Pt} {n : Int} : limOk lim n = false → OrbR vs dir q lim h n [] []
  | fin0 {h : Pt} {n : Int} : limOk lim n = true → PtS h → nextP dir vs h = (none, none) → OrbR vs dir q lim h n [] [(n, h)]
  | fin1 {h : Pt} {n : Int} {i : Nat} : limOk lim n = true → PtS h → nextP dir vs h = (some i, none) → OrbR vs dir q lim h n [] [(n, h), (n + 1, refl h (vtx vs i))]
  | seg {h : Pt} {n m : Int} {i j : Nat} {segs : List Sgm} {tl : List (Int × Pt)} : limOk lim n = true → PtS h → (1 ≤ h.2.2 ∧ h.2.2 ≤ 1000000) → nextP dir vs h = (some i, some j) → Bd 280 m → (m ∈ pcounts vs h i j dir ∧ ∀ y ∈ pcounts vs h i j dir, m ≤ y) →
      ((shft vs i j).1 ≠ 0 ∨ (shft vs i j).2 ≠ 0) → ((⟨h, i, j, n, m⟩ : Sgm).hits vs q).filter (fun c => decide (0 < c)) = [] → OrbR vs dir q lim ((⟨h, i, j, n, m⟩ : Sgm).at vs (n + 2 * m)) (n + 2 * m) segs tl → OrbR vs dir q lim h n (⟨h, i, j, n, m⟩ :: segs) tl
def orbF (C_Polygon : Addr) (vs : List Ve) (sg tl : Da) : List (Str × Da) := [("polygon", poly C_Polygon vs), ("segments", sg), ("cycle", .non), ("tail", tl)]
abbrev orbD (C_Polygon C_Segment C_Orbit : Addr) (vs : List Ve) (segs : List Sgm) (tl : List (Int × Pt)) : Da := .ins C_Orbit (orbF C_Polygon vs (.lst (segs.map (segD C_Polygon C_Segment vs))) (.lst (tl.map tlD)))
def orbS (C_Polygon C_Segment C_Orbit : Addr) (vs : List Ve) (x r t : Addr) (segs : List Sgm) (tl : List (Int × Pt)) : Os := [(x, .ins C_Orbit (orbF C_Polygon vs (.fn r) (.fn t))), (r, .lst (segs.map (segD C_Polygon C_Segment vs))), (t, .lst (tl.map tlD))]
abbrev orbE (C_Polygon : Addr) (vs : List Ve) (q : Pt) (dir : Int) (lim : Option Int) (x : Addr) (h : Pt) (n : Int) (z7 z8 : Option Da) : List (Option Da) := [some (.fn x), some (poly C_Polygon vs), some (p3 q), some (.int dir), some (optI lim), some (p3 h), some (.int n), z7, z8, none]
section
variable {C_Polygon C_Segment C_Orbit x r t : Addr} {vs : List Ve} {q : Pt} {dir : Int} {lim : Option Int} {T : Tb} {tc : TT} {tb : TS}
theorem orbS_x {segs : List Sgm} {tl : List (Int × Pt)} : (orbS C_Polygon C_Segment C_Orbit vs x r t segs tl).lookup x = some (.ins C_Orbit (orbF C_Polygon vs (.fn r) (.fn t))) := lk0
theorem orbS_r {segs : List Sgm} {tl : List (Int × Pt)} (h1 : r ≠ x) : (orbS C_Polygon C_Segment C_Orbit vs x r t segs tl).lookup r = some (.lst (segs.map (segD C_Polygon C_Segment vs))) := lk1 h1 lk0
theorem orbS_t {segs : List Sgm} {tl : List (Int × Pt)} (h1 : t ≠ x) (h2 : t ≠ r) : (orbS C_Polygon C_Segment C_Orbit vs x r t segs tl).lookup t = some (.lst (tl.map tlD)) := lk1 h1 (lk1 h2 lk0)
theorem orb_loop (hcond : ∀ acc tl h n z7 z8, tl.length ≤ 2 → EvT T (orbS C_Polygon C_Segment C_Orbit vs x r t acc tl) tc (orbE C_Polygon vs q dir lim x h n z7 z8) (tl.isEmpty && limOk lim n))
    (hfin0 : ∀ acc h n z7 z8, PtS h → nextP dir vs h = (none, none) → ∃ z7', SD T (orbS C_Polygon C_Segment C_Orbit vs x r t acc []) tb (orbE C_Polygon vs q dir lim x h n z7 z8) (.nx (orbE C_Polygon vs q dir lim x h n z7' z8) (orbS C_Polygon C_Segment C_Orbit vs x r t acc [(n, h)])))
    (hfin1 : ∀ acc h n z7 z8 i, PtS h → nextP dir vs h = (some i, none) → ∃ z7', SD T (orbS C_Polygon C_Segment C_Orbit vs x r t acc []) tb (orbE C_Polygon vs q dir lim x h n z7 z8) (.nx (orbE C_Polygon vs q dir lim x h n z7' z8) (orbS C_Polygon C_Segment C_Orbit vs x r t acc [(n, h), (n + 1, refl h (vtx vs i))])))
    (hseg : ∀ acc h n z7 z8 (i j : Nat) m, acc.length ≤ 900 → PtS h → (1 ≤ h.2.2 ∧ h.2.2 ≤ 1000000) → nextP dir vs h = (some i, some j) → Bd 280 m → (m ∈ pcounts vs h i j dir ∧ ∀ y ∈ pcounts vs h i j dir, m ≤ y) →
      ((shft vs i j).1 ≠ 0 ∨ (shft vs i j).2 ≠ 0) → ((⟨h, i, j, n, m⟩ : Sgm).hits vs q).filter (fun c => decide (0 < c)) = [] → ∃ z7' z8', SD T (orbS C_Polygon C_Segment C_Orbit vs x r t acc []) tb (orbE C_Polygon vs q dir lim x h n z7 z8)
        (.nx (orbE C_Polygon vs q dir lim x ((⟨h, i, j, n, m⟩ : Sgm).at vs (n + 2 * m)) (n + 2 * m) z7' z8') (orbS C_Polygon C_Segment C_Orbit vs x r t (acc ++ [⟨h, i, j, n, m⟩]) []))) :
    ∀ {h : Pt} {n : Int} {segs : List Sgm} {tl : List (Int × Pt)}, OrbR vs dir q lim h n segs tl → ∀ acc z7 z8, acc.length + segs.length ≤ 900 →
      ∃ k h' n' z7' z8', WhileD T tc tb k (orbS C_Polygon C_Segment C_Orbit vs x r t acc []) (orbE C_Polygon vs q dir lim x h n z7 z8) (.nx (orbE C_Polygon vs q dir lim x h' n' z7' z8') (orbS C_Polygon C_Segment C_Orbit vs x r t (acc ++ segs) tl)) := by
  intro h n segs tl o
  induction o with
  | lim hl =>
    intro acc z7 z8 _
    rw [List.append_nil]
    exact ⟨0, _, _, _, _, .done (et_is (hcond acc [] _ _ z7 z8 (Nat.zero_le _)) (by rw [hl]; rfl))⟩
  | fin0 hl hp hn =>
    intro acc z7 z8 _
    rw [List.append_nil]
    obtain ⟨z7', k⟩ := hfin0 acc _ _ z7 z8 hp hn
    exact ⟨1, _, _, _, _, .next (et_is (hcond acc [] _ _ z7 z8 (Nat.zero_le _)) (by rw [hl]; rfl)) k (.done (et_is (hcond acc _ _ _ z7' z8 (Nat.le_of_ble_eq_true rfl)) rfl))⟩
  | fin1 hl hp hn =>
    intro acc z7 z8 _
    rw [List.append_nil]
    obtain ⟨z7', k⟩ := hfin1 acc _ _ z7 z8 _ hp hn
    exact ⟨1, _, _, _, _, .next (et_is (hcond acc [] _ _ z7 z8 (Nat.zero_le _)) (by rw [hl]; rfl)) k (.done (et_is (hcond acc _ _ _ z7' z8 (Nat.le_of_ble_eq_true rfl)) rfl))⟩
  | seg hl hp hd hn hb hm hs hf _ ih =>
    intro acc z7 z8 hlen
    rw [List.length_cons] at hlen
    obtain ⟨z7', z8', k⟩ := hseg acc _ _ z7 z8 _ _ _ (by omega) hp hd hn hb hm hs hf
    obtain ⟨k2, h', n', y7, y8, w⟩ := ih (acc ++ [⟨_, _, _, _, _⟩]) z7' z8' (by rw [List.length_append]; simp only [List.length_cons, List.length_nil]; omega)
    rw [List.append_assoc] at w
    exact ⟨k2 + 1, _, _, _, _, .next (et_is (hcond acc [] _ _ z7 z8 (Nat.zero_le _)) (by rw [hl]; rfl)) k w⟩
theorem sd_whileX {S1 S2 : Os} {S : Os} {δ δ2 : List (Option Da)} (h : ∃ k h' n' z7 z8, WhileD T tc tb k S δ (.nx (orbE C_Polygon vs q dir lim x h' n' z7 z8) S1)) (f : ∀ h' n' z7 z8, Fixes T S1 (orbE C_Polygon vs q dir lim x h' n' z7 z8) S2 δ2) : SD T S (tWhile tc tb) δ (.nx δ2 S2) := by
  obtain ⟨k, h', n', z7, z8, w⟩ := h
  exact sd_fix (sd_while w) (f h' n' z7 z8)
theorem orbS_pre {S0 : Os} {segs : List Sgm} {tl : List (Int × Pt)} (hx : S0.lookup x = some (.ins C_Orbit (orbF C_Polygon vs (.fn r) (.fn t)))) (hr : S0.lookup r = some (.lst (segs.map (segD C_Polygon C_Segment vs)))) (ht : S0.lookup t = some (.lst (tl.map tlD))) :
    ∀ p c, (orbS C_Polygon C_Segment C_Orbit vs x r t segs tl).lookup p = some c → S0.lookup p = some c := fun p c h => by
  unfold orbS at h
  rw [lookup_put] at h
  by_cases a : p = x
  · rw [if_pos a] at h; cases h; rw [a]; exact hx
  · rw [if_neg a, lookup_put] at h
    by_cases b : p = r
    · rw [if_pos b] at h; cases h; rw [b]; exact hr
    · rw [if_neg b, lookup_put] at h
      by_cases b : p = t
      · rw [if_pos b] at h; cases h; rw [b]; exact ht
      · rw [if_neg b] at h; cases h
theorem tl_plain {tl : List (Int × Pt)} (h : tl.length ≤ 2) : Da.plains (tl.map tlD) = true ∧ SeqAt.shaped (.list (Da.pys (tl.map tlD))) = true := by
  match tl, h with
  | [], _ => exact ⟨rfl, rfl⟩
  | [a], _ => exact ⟨rfl, rfl⟩
  | [a, b], _ => exact ⟨rfl, rfl⟩
  | _ :: _ :: _ :: _, h => exact absurd h (by simp only [List.length_cons]; omega)
theorem orb_fixes {δ : List (Option Da)} {n : Nat} {segs : List Sgm} {tl : List (Int × Pt)} (h1 : r ≠ x) (h2 : t ≠ x) (h3 : t ≠ r) (hn : δ.length = n) : Fixes T (orbS C_Polygon C_Segment C_Orbit vs x r t segs tl) δ [(x, .ins C_Orbit (orbF C_Polygon vs (.lst (segs.map (segD C_Polygon C_Segment vs))) (.lst (tl.map tlD))))] (List.replicate n none) :=
  (Fixes.field (fs1 := [("polygon", poly C_Polygon vs)]) (fs2 := [("cycle", .non), ("tail", .fn t)]) orbS_x (orbS_r h1) h1.symm).trans
    ((Fixes.field (fs1 := [("polygon", poly C_Polygon vs), ("segments", .lst (segs.map (segD C_Polygon C_Segment vs))), ("cycle", .non)]) (fs2 := []) lk0 (lk1 h2 (by rw [unown_lk, if_neg h3]; exact orbS_t h2 h3)) h2.symm).trans
      ((Fixes.own fun p c h => by
        rw [lookup_put] at h ⊢
        by_cases a : p = x
        · rw [if_pos a] at h ⊢; exact h
        · rw [if_neg a] at h; cases h).trans (Fixes.forget hn)))
theorem fin_h0 {segs : List Sgm} (h2 : t ≠ x) (h3 : t ≠ r) : ∀ p c, List.lookup p [(x, Oc.ins C_Orbit (orbF C_Polygon vs (.fn r) (.fn t))), (t, .lst [])] = some c → (orbS C_Polygon C_Segment C_Orbit vs x r t segs []).lookup p = some c := fun p c h => by
  rw [lookup_put] at h
  by_cases a : p = x
  · rw [if_pos a] at h; cases h; rw [a]; exact orbS_x
  · rw [if_neg a, lookup_put] at h
    by_cases b : p = t
    · rw [if_pos b] at h; cases h; rw [b]; exact orbS_t h2 h3
    · rw [if_neg b] at h; cases h
theorem fin_h1 {l : List Da} : ∀ p c, List.lookup p [(x, Oc.ins C_Orbit (orbF C_Polygon vs (.fn r) (.fn t))), (t, .lst [])] = some c → List.lookup p [(t, Oc.lst l), (x, Oc.ins C_Orbit (orbF C_Polygon vs (.fn r) (.fn t)))] ≠ none := fun p c h => by
  rw [lookup_put] at h
  rw [lookup_put, lookup_put]
  by_cases a : p = x
  · by_cases b : p = t
    · rw [if_pos b]; exact nofun
    · rw [if_neg b, if_pos a]; exact nofun
  · rw [if_neg a, lookup_put] at h
    by_cases b : p = t
    · rw [if_pos b]; exact nofun
    · rw [if_neg b] at h; cases h
theorem fin_pre {segs : List Sgm} {tl : List (Int × Pt)} (h2 : t ≠ x) (h3 : t ≠ r) : ∀ p c, (orbS C_Polygon C_Segment C_Orbit vs x r t segs tl).lookup p = some c → ([(t, Oc.lst (tl.map tlD)), (x, Oc.ins C_Orbit (orbF C_Polygon vs (.fn r) (.fn t)))] ++ orbS C_Polygon C_Segment C_Orbit vs x r t segs []).lookup p = some c := fun p c h => by
  unfold orbS at h
  rw [lookup_put] at h
  show List.lookup p ((t, Oc.lst (tl.map tlD)) :: (x, Oc.ins C_Orbit (orbF C_Polygon vs (.fn r) (.fn t))) :: orbS C_Polygon C_Segment C_Orbit vs x r t segs []) = some c
  by_cases a : p = x
  · rw [if_pos a] at h; cases h
    rw [lookup_put, if_neg (fun z => h2 (z.symm.trans a)), lookup_put, if_pos a]
  · rw [if_neg a, lookup_put] at h
    by_cases d : p = t
    · rw [if_neg (fun z => h3 (d.symm.trans z)), lookup_put, if_pos d] at h
      rw [lookup_put, if_pos d]; exact h
    · by_cases b : p = r
      · rw [if_pos b] at h; cases h
        rw [lookup_put, if_neg d, lookup_put, if_neg a]
        unfold orbS
        rw [lookup_put, if_neg a, lookup_put, if_pos b]
      · rw [if_neg b, lookup_put, if_neg d] at h; cases h
theorem lk0s {S : Os} {p : Addr} {segs : List Sgm} {g : Sgm} : List.lookup p ((p, Oc.lst (segs.map (segD C_Polygon C_Segment vs) ++ [segD C_Polygon C_Segment vs g])) :: S) = some (.lst ((segs ++ [g]).map (segD C_Polygon C_Segment vs))) := by rw [List.map_append]; exact lk0
theorem hits_len (vs : List Ve) (g : Sgm) (q : Pt) : ((g.hits vs q).map Da.int).length ≤ 100000 := by
  have h : ∀ odd q, (hit1 vs g odd q).length ≤ 1 := fun odd q => by
    unfold hit1
    split
    · exact Nat.zero_le _
    · split
      · exact Nat.le_refl _
      · exact Nat.zero_le _
  have h0 := h 0 q
  have h1 := h 1 (refl q (vtx vs g.i))
  unfold Sgm.hits
  rw [List.length_map, List.length_append]
  omega
end
section
variable {P : Program} {w : World} {K : PySem.W.Frag} {mg : Str → Option Value} {base : Heap} {T : Tb}
abbrev s_Orbit_finish : Stmt := inClass (top 48) 1
theorem sc_Orbit_finish : FnScope ["self", "point", "steps", "index"] ["self", "point", "steps", "index"] (defScope s_Orbit_finish) := ⟨rfl, rfl, rfl, by decide +kernel, rfl, by decide +kernel, by decide +kernel⟩
def R_Orbit_finish (C_Polygon : Addr) (C_Orbit : Addr) (ds : List Da) (S0 S1 : Os) (d : Da) : Prop := ∃ (vs : List Ve) (p : Pt) (n : Int) (oi : Option Nat) (x r t : Addr), ds = [.fn x, p3 p, .int n, optD oi] ∧ PolB vs ∧ PtS p ∧ x ≠ t ∧ S0 = [(x, .ins C_Orbit (orbF C_Polygon vs (.fn r) (.fn t))), (t, .lst [])] ∧ S1 = [(t, .lst ((match oi with | none => [(n, p)] | some i => [(n, p), (n + 1, refl p (vtx vs (i : Nat)))]).map tlD)), (x, .ins C_Orbit (orbF C_Polygon vs (.fn r) (.fn t)))] ∧ d = .non
theorem ok_Orbit_finish {f : Addr} {fd : FuncData} {C_Polygon : Addr} {C_Orbit : Addr} (F : FnP K "finish" "Orbit.finish" s_Orbit_finish f fd) (cl0 : Cls K C_Orbit) (me0 : Meth K C_Orbit "finish" f) (cl_Orbit : Cls K C_Orbit) (na_Orbit_tail : NoAttr K C_Orbit "tail") (na_Orbit_polygon : NoAttr K C_Orbit "polygon") (m_Polygon_vertex : C8.Met P w K mg base 1 C_Polygon "vertex" (Prm T (R_Polygon_vertex C_Polygon)) []) (c_reflected : C8.Cal P w K mg base 1 "reflected" (Prm T R_reflected) [])  : C8.Met P w K mg base 2 C_Orbit "finish" (PrmS T (R_Orbit_finish C_Polygon C_Orbit)) [] := by
  refine ⟨f, fd, _, [], cl0, me0, fn_own F sc_Orbit_finish (fun ds S0 S1 d h => ?_) fun cdv A outer s H E hr => ⟨_, (pss_cons (ps_expr (pe_bm PySem.F.plainAttrs_list PySem.F.slot_list_append PySem.F.type_list_append mt_append (pe_fld (pv 0) rfl) (pa_cons (pe_tup (pa_cons (pv 2) (pa_cons (pv 1) pa_nil))) pa_nil))) (pss_one (ps_if (pt_cmpR op_notN (pv 3) pe_non (nomark _)) (pss_one (ps_expr (pe_bm PySem.F.plainAttrs_list PySem.F.slot_list_append PySem.F.type_list_append mt_append (pe_fld (pv 0) rfl) (pa_cons (pe_tup (pa_cons (pe_op op_add (pv 2) pe_int) (pa_cons (C8.pe_c c_reflected hr (by decide) rfl (pa_cons (pv 1) (pa_cons (C8.pe_mt m_Polygon_vertex hr (by decide) (pe_fld (pv 0) rfl) (pa_cons (pv 3) pa_nil)) pa_nil))) pa_nil))) pa_nil)))) pss_nil))), fun ds S0 S1 d h => ?_⟩, F.bindsN (fun _ _ _ _ _ _ us hl => match us, hl with | [_, _, _, _], _ => rfl), .nil⟩
  · obtain ⟨vs, p, n, oi, x, r, t, rfl, hB, hp, hne, rfl, rfl, rfl⟩ := h
    rfl
  · obtain ⟨vs, p, n, oi, x, r, t, rfl, hB, hp, hne, rfl, rfl, rfl⟩ := h
    cases oi with
    | none => exact SDo.nx (sd_seq (sd_app (ev_fldO (ev_var rfl) lk0 cl_Orbit na_Orbit_tail rfl) (ev_tup (ea_cons (ev_var rfl) (ea_cons (ev_var rfl) ea_nil))) (lk1 hne.symm lk0) (Nat.zero_le _)) (sd_ifF (et_is (et_test (ev_notN (ev_var rfl))) rfl) sd_next)) (fun p c h => by
        have h : List.lookup p [(t, _), (x, _)] = some c := h
        show List.lookup p ([(t, _), (x, _)] ++ [(t, Oc.lst [])]) = some c
        rw [lookup_app]
        exact congrArg (fun z => Option.or z (List.lookup p [(t, Oc.lst [])])) h)
    | some i => exact SDo.nx (sd_seq (sd_app (ev_fldO (ev_var rfl) lk0 cl_Orbit na_Orbit_tail rfl) (ev_tup (ea_cons (ev_var rfl) (ea_cons (ev_var rfl) ea_nil))) (lk1 hne.symm lk0) (Nat.zero_le _)) (sd_ifT (et_is (et_test (ev_notN (ev_var rfl))) rfl) (sd_app (ev_fldO (ev_var rfl) (lk1 hne lk0) cl_Orbit na_Orbit_tail rfl) (ev_tup (ea_cons (ev_add (ev_var rfl) ev_int) (ea_cons (ev_call (ea_cons (ev_var rfl) (ea_cons (ev_meth (ev_fldO (ev_var rfl) (lk1 hne lk0) cl_Orbit na_Orbit_polygon rfl) (ea_cons (ev_var rfl) ea_nil) (ri_Polygon_vertex hB)) ea_nil)) (ri_reflected ((hB.b1 _).up (by decide)) ((hB.b2 _).up (by decide)) hp.d)) ea_nil))) lk0 (Nat.le_of_ble_eq_true rfl)))) (fun p c h => by
        have h : List.lookup p ((t, _) :: [(x, _)]) = some c := h
        show List.lookup p ((t, _) :: (t, _) :: ([(x, _)] ++ [(t, Oc.lst [])])) = some c
        by_cases a : p = t
        · rw [lookup_put, if_pos a] at h ⊢; exact h
        · rw [lookup_put, if_neg a] at h ⊢
          rw [lookup_put, if_neg a, lookup_app]
          exact congrArg (fun z => Option.or z (List.lookup p [(t, Oc.lst [])])) h)
abbrev s_OrbitU_initU : Stmt := inClass (top 48) 0
theorem sc_OrbitU_initU : FnScope ["self", "polygon", "point", "direction", "limit", "here", "steps", "pair", "segment", "count"] ["self", "polygon", "point", "direction", "limit"] (defScope s_OrbitU_initU) := ⟨rfl, rfl, rfl, by decide +kernel, rfl, by decide +kernel, by decide +kernel⟩
def R_OrbitU_initU (C_Polygon : Addr) (C_Segment : Addr) (C_Orbit : Addr) (ds : List Da) (fs : List (Str × Da)) : Prop := ∃ (vs : List Ve) (q : Pt) (dir : Int) (lim : Option Int) (segs : List Sgm) (tl : List (Int × Pt)), ds = [poly C_Polygon vs, p3 q, .int dir, optI lim] ∧ PolB vs ∧ PtS q ∧ Bd 2 dir ∧ OrbR vs dir q lim q 0 segs tl ∧ segs.length ≤ 900 ∧ fs = orbF C_Polygon vs (.lst (segs.map (segD C_Polygon C_Segment vs))) (.lst (tl.map tlD))
theorem ok_OrbitU_initU {f : Addr} {fd : FuncData} {C_Polygon : Addr} {C_Segment : Addr} {C_Orbit : Addr} (F : FunD K "__init__" "Orbit.__init__" (defArgs s_OrbitU_initU) (defBody s_OrbitU_initU) (defScope s_OrbitU_initU) [.int 1, .non] [] f fd) (mk0 : Mk K C_Orbit f) (hm : mg "Orbit" = some (.ref C_Orbit)) (cl_Orbit : Cls K C_Orbit) (na_Orbit_polygon : NoAttr K C_Orbit "polygon") (na_Orbit_segments : NoAttr K C_Orbit "segments") (na_Orbit_cycle : NoAttr K C_Orbit "cycle") (na_Orbit_tail : NoAttr K C_Orbit "tail") (c_next_pair : C8.Cal P w K mg base 6 "next_pair" (Prm T (R_next_pair C_Polygon)) []) (m_Orbit_finish : C8.Met P w K mg base 2 C_Orbit "finish" (PrmS T (R_Orbit_finish C_Polygon C_Orbit)) []) (k_Segment : C8.Mak P w K mg base 6 "Segment" C_Segment (PrmI T C_Segment (R_SegmentU_initU C_Polygon)) []) (fr_min : mg "min" = none) (m_Segment_steps_to : C8.Met P w K mg base 2 C_Segment "steps_to" (PrmL T (R_Segment_steps_to C_Polygon C_Segment)) []) (m_Segment_point_at : C8.Met P w K mg base 2 C_Segment "point_at" (Prm T (R_Segment_point_at C_Polygon C_Segment)) []) (cl_Segment : Cls K C_Segment) (na_Segment_stop : NoAttr K C_Segment "stop")  {dvs : List V} (bv : ∃ ds, Vals dvs ds ∧ Binds K fd ["self", "polygon", "point", "direction", "limit"] ds) : C8.Mak P w K mg base 8 "Orbit" C_Orbit (PrmI T C_Orbit (R_OrbitU_initU C_Polygon C_Segment C_Orbit)) dvs := by
  obtain ⟨its, vv, bb⟩ := bv
  refine ⟨f, fd, _, _, mk0, fn_init F sc_OrbitU_initU (fun ds d h => ?_) fun cdv A outer s H E hr => ⟨_, (pss_cons (ps_fld (pv 0) (pv 1) rfl) (pss_cons (ps_fld (pv 0) (pe_lst pa_nil) rfl) (pss_cons (ps_fld (pv 0) pe_non rfl) (pss_cons (ps_fld (pv 0) (pe_lst pa_nil) rfl) (pss_cons (ps_par (i := 5) (j := 6) (by rfl) sc_OrbitU_initU.nd rfl rfl (by decide) rfl rfl (pa_cons (pv 2) (pa_cons pe_int pa_nil)) (by rfl)) (pss_one (ps_while PassesOwn.never (PW.pt (pw_and (pt_cmpR op_isN (pe_fld (pv 0) rfl) pe_non (nomark _)) (pw_and (pt_cmpR (op_eqD hr.units) (pe_fld (pv 0) rfl) (pe_lst pa_nil) (nomark _)) (pw_and1 (PW.pt (pw_or (pt_cmpR op_isN (pv 4) pe_non (nomark _)) (pw_or1 (pt_cmpR op_le (pv 6) (pv 4) (nomark _))))))))) (pss_cons (ps_set (i := 7) sc_OrbitU_initU.nd rfl (Or.inl rfl) (C8.pe_c c_next_pair hr (by decide) rfl (pa_cons (pv 1) (pa_cons (pv 5) (pa_cons (pv 3) pa_nil))))) (pss_one (ps_if (pt_cmpR op_in_seq pe_non (pv 7) (by rfl)) (pss_one (ps_expr (C8.pe_mt m_Orbit_finish hr (by decide) (pv 0) (pa_cons (pv 5) (pa_cons (pv 6) (pa_cons (pe_ix ix_tup (pv 7) pe_int (fun _ _ => rfl)) pa_nil)))))) (pss_cons (ps_set (i := 8) sc_OrbitU_initU.nd rfl (Or.inl rfl) (C8.pe_mk k_Segment hr (by decide) rfl (pa_cons (pv 1) (pa_cons (pv 5) (pa_cons (pv 7) (pa_cons (pv 3) (pa_cons (pv 6) pa_nil))))))) (pss_cons (ps_expr (pe_bm PySem.F.plainAttrs_list PySem.F.slot_list_append PySem.F.type_list_append mt_append (pe_fld (pv 0) rfl) (pa_cons (pv 8) pa_nil))) (pss_cons (ps_fld (pv 0) (pe_callBK (cr_minDfl (by rfl) hr.units) (by rfl) fr_min (by decide +kernel) (pa_cons (pe_lc (by rfl) sc_OrbitU_initU.nd (pi_list (C8.pe_mt m_Segment_steps_to hr (by decide) (pv 8) (pa_cons (pv 2) pa_nil))) (blkOk_by (own := [("count", 9)]) (N := ["self", "polygon", "point", "direction", "limit", "here", "steps", "pair", "segment", "count"]) (sc := defScope s_OrbitU_initU) (by decide +kernel)) (fun _ _ _ _ _ => (pg_name (i := 9) sc_OrbitU_initU.nd rfl (Or.inl rfl))) (fun _ _ _ _ _ => pts_one (pt_cmpR op_gt (pv 9) pe_int (nomark _))) (fun _ _ _ _ _ => (pv 9))) pa_nil) (pk_cons pe_non pk_nil)) rfl) (pss_one (ps_par (i := 5) (j := 6) (by rfl) sc_OrbitU_initU.nd rfl rfl (by decide) rfl rfl (pa_cons (C8.pe_mt m_Segment_point_at hr (by decide) (pv 8) (pa_cons (pe_fld (pv 8) rfl) pa_nil)) (pa_cons (pe_fld (pv 8) rfl) pa_nil)) (by rfl)))))))))))))))), fun x ds fs h => ?_⟩, hm, bb, vv⟩
  · obtain ⟨vs, q, dir, lim, segs, tl, rfl, hB, hq, h3, hO, hlen, rfl⟩ := h
    rfl
  · obtain ⟨vs, q, dir, lim, segs, tl, rfl, hB, hq, h3, hO, hlen, rfl⟩ := h
    refine sdi_one (δ' := List.replicate 10 none) (S' := [(x, .ins C_Orbit (orbF C_Polygon vs (.lst (segs.map (segD C_Polygon C_Segment vs))) (.lst (tl.map tlD))))]) ?_ lk0
    refine sd_seq (sd_fldN (ev_var rfl) (ev_var rfl) lk0 cl_Orbit na_Orbit_polygon) (sd_fldL (ev_var rfl) lk0 cl_Orbit na_Orbit_segments fun r hrx hr2 => sd_seq (sd_fldN ev_non (ev_var rfl) lk0 cl_Orbit na_Orbit_cycle) (sd_fldL (ev_var rfl) lk0 cl_Orbit na_Orbit_tail fun t htx ht2 => ?_))
    have hxr : x ≠ r := Ne.symm hrx
    have hxt : x ≠ t := Ne.symm htx
    have htr : t ≠ r := fun z => by
      rw [z, lk1 hrx (lk1 hrx lk0)] at ht2; cases ht2
    refine sd_pre (S := orbS C_Polygon C_Segment C_Orbit vs x r t [] []) ?_ (orbS_pre lk0 (lk1 hrx (lk1 htr.symm (lk1 hrx (lk1 hrx lk0)))) (lk1 htx lk0))
    refine sd_seq (sd_par (ea_cons (ev_var rfl) (ea_cons ev_int ea_nil))) (sd_whileX (S1 := orbS C_Polygon C_Segment C_Orbit vs x r t ([] ++ segs) tl) (orb_loop ?_ ?_ ?_ ?_ hO [] none none (by rw [List.length_nil]; omega)) fun h' n' z7 z8 => orb_fixes hrx htx htr rfl)
    · intro acc tl h n z7 z8 hl
      have hp := tl_plain hl
      refine et_is (et_and (et_is (et_test (ev_isN (ev_fldO (ev_var rfl) lk0 cl_Orbit na_Orbit_cycle rfl))) (rfl : _ = true)) (fun _ => et_and (et_eqNil (ev_fldO (ev_var rfl) orbS_x cl_Orbit na_Orbit_tail rfl) (orbS_t htx htr) hp.1 hp.2) (b := limOk lim n) (fun _ => ?_))) (by cases tl <;> rfl)
      cases lim with
      | none => exact et_is (et_or (b := true) (et_is (et_test (ev_isN (ev_var rfl))) (rfl : _ = true)) (fun z => by cases z)) rfl
      | some l => exact et_is (et_or (et_is (et_test (ev_isN (ev_var rfl))) (rfl : _ = false)) (fun _ => (et_test (ev_cmp (ev_var rfl) (ev_var rfl))))) rfl
    · intro acc h n z7 z8 hp hn
      refine ⟨some (.tup [.non, .non]), sd_seq (sd_asg (ev_is (ev_call (ea_cons (ev_var rfl) (ea_cons (ev_var rfl) (ea_cons (ev_var rfl) ea_nil))) (ri_next_pair hB hp)) (by rw [hn]; rfl))) (sd_ifT (et_is (et_test (ev_in (l := [.non, .non]) ev_non (ev_var rfl) ⟨rfl, rfl⟩)) rfl) (sd_own (sd_methS (ev_var rfl) orbS_x (ea_cons (ev_var rfl) (ea_cons (ev_var rfl) (ea_cons (ev_ixT (ev_var rfl) ev_int rfl) ea_nil))) ⟨vs, h, n, none, x, r, t, rfl, hB, hp, hxt, rfl, rfl, rfl⟩ (fin_h0 htx htr) fin_h1) (fin_pre htx htr)))⟩
    · intro acc h n z7 z8 i hp hn
      refine ⟨some (.tup [.int i, .non]), sd_seq (sd_asg (ev_is (ev_call (ea_cons (ev_var rfl) (ea_cons (ev_var rfl) (ea_cons (ev_var rfl) ea_nil))) (ri_next_pair hB hp)) (by rw [hn]; rfl))) (sd_ifT (et_is (et_test (ev_in (l := [.int i, .non]) ev_non (ev_var rfl) ⟨rfl, rfl⟩)) rfl) (sd_own (sd_methS (ev_var rfl) orbS_x (ea_cons (ev_var rfl) (ea_cons (ev_var rfl) (ea_cons (ev_ixT (ev_var rfl) ev_int rfl) ea_nil))) ⟨vs, h, n, some i, x, r, t, rfl, hB, hp, hxt, rfl, rfl, rfl⟩ (fin_h0 htx htr) fin_h1) (fin_pre htx htr)))⟩
    · intro acc h n z7 z8 i j m hl hp hd hn hb hm hs hf
      have hb2 : Bd 290 ((n + 2 * m) - n) := ⟨by
        have := hb.out
        have e : ((n + 2 * m) - n).natAbs = 2 * m.natAbs := by omega
        rw [e]
        exact Nat.lt_of_lt_of_le (Nat.mul_lt_mul_of_pos_left this (by decide)) (by decide +kernel)⟩
      refine ⟨some (i2 i j), some (segD C_Polygon C_Segment vs ⟨h, i, j, n, m⟩), sd_seq (sd_asg (ev_is (ev_call (ea_cons (ev_var rfl) (ea_cons (ev_var rfl) (ea_cons (ev_var rfl) ea_nil))) (ri_next_pair hB hp)) (by rw [hn]; rfl))) (sd_ifF (et_is (et_test (ev_in (l := [.int i, .int j]) ev_non (ev_var rfl) ⟨rfl, rfl⟩)) rfl) (sd_seq (sd_asg (ev_make (ea_cons (ev_var rfl) (ea_cons (ev_var rfl) (ea_cons (ev_var rfl) (ea_cons (ev_var rfl) (ea_cons (ev_var rfl) ea_nil))))) (fun _ => .nil) ⟨vs, ⟨h, i, j, n, m⟩, dir, rfl, hB, hp, h3, hb.up (by decide), hm, rfl⟩)) (sd_seq (sd_app (ev_fldO (ev_var rfl) orbS_x cl_Orbit na_Orbit_segments rfl) (ev_var rfl) (orbS_r hrx) (by rw [List.length_map]; omega)) (sd_seq (sd_fldR (fs1 := [("polygon", _), ("segments", _)]) (fs2 := [("tail", _)]) (ev_minDfl (ev_lc (it_list (ev_methL (ev_var rfl) (ea_cons (ev_var rfl) ea_nil) ⟨vs, ⟨h, i, j, n, m⟩, q, rfl, hB, hp, hq, hd, hs, rfl⟩)) (ev_filt (lc_filtG (i := 9) (q := fun c => decide (0 < c)) (f := Da.int) (by decide) (fun c _ => (et_test (ev_cmp (ev_var rfl) ev_int))) (fun c _ _ => ev_var rfl)) (by rw [hf]; rfl)) (hits_len vs _ q)) ev_non) (ev_var rfl) (lk1 hxr orbS_x) cl_Orbit na_Orbit_cycle) (sd_own (sd_par (ea_cons (ev_meth (ev_var rfl) (ea_cons (ev_fld (ev_var rfl) cl_Segment na_Segment_stop rfl) ea_nil) (ri_Segment_point_at hB hp hb2)) (ea_cons (ev_fld (ev_var rfl) cl_Segment na_Segment_stop rfl) ea_nil))) (orbS_pre lk0 (lk1 hrx lk0s) (lk1 htx (lk1 htr (orbS_t htx htr)))))))))⟩
end
end O26
set_option Elab.async false
set_option linter.all false
set_option maxRecDepth 100000
set_option maxHeartbeats 4000000
namespace O26
open PySem PySem.Spec PyProof.Rows L2
abbrev Tl := List (Int × Pt)
abbrev IP := Int × Pt
theorem pg_tupK {X : Cx} {pos : Pos} {K : PySem.W.Frag} {es : List Expr} {k : Nat} {t : TGs} {n : Nat} (hK : X.K = K) (hc : X.calm = true) (h : PGs X es t) (hn : (assignEach es X.env).length = n := by rfl) (hst : (assignEach es X.env).findIdx? (·.1) = none := by rfl) : PG X (.Tuple es k pos) (gTup K n t) := by
  subst hK
  exact pg_tup hc h hn hst
theorem lc_filtD {T : Tb} {S : Os} {α : Type} {g : TG} {tt : TT} {te : TE} {vs sl : List Nat} {δ : List (Option Da)} {q : α → Bool} {it f : α → Da} (E' : α → List (Option Da)) (hg : ∀ x, GD T S g (it x) (wipeD δ vs) (E' x) sl) (hv : ∀ j ∈ sl, j ∈ vs) : ∀ {xs : List α}, (∀ x ∈ xs, EvT T S tt (E' x) (q x)) → (∀ x ∈ xs, q x = true → EvD T S te (E' x) (f x)) → LcD T S g tt te vs δ (xs.map it) ((xs.filter q).map f)
  | [], _, _ => .nil
  | x :: xs, h, k => by
    have ih := lc_filtD (q := q) (f := f) E' hg hv (xs := xs) (fun y hy => h y (List.mem_cons_of_mem _ hy)) fun y hy => k y (List.mem_cons_of_mem _ hy)
    have hx := h x List.mem_cons_self
    cases e : q x with
    | true =>
      rw [List.filter_cons_of_pos e]
      exact .keep (hg x) hv (e ▸ hx) (k x List.mem_cons_self e) ih
    | false =>
      rw [List.filter_cons_of_neg (by rw [e]; exact Bool.false_ne_true)]
      exact .drop (hg x) hv (e ▸ hx) ih
theorem lc_mapD {T : Tb} {S : Os} {α : Type} {g : TG} {te : TE} {vs sl : List Nat} {δ : List (Option Da)} {it f : α → Da} (E' : α → List (Option Da)) (hg : ∀ x, GD T S g (it x) (wipeD δ vs) (E' x) sl) (hv : ∀ j ∈ sl, j ∈ vs) : ∀ {xs : List α}, (∀ x ∈ xs, EvD T S te (E' x) (f x)) → LcD T S g tYes te vs δ (xs.map it) (xs.map f)
  | [], _ => .nil
  | x :: xs, h => .keep (hg x) hv et_yes (h x List.mem_cons_self) (lc_mapD E' hg hv fun y hy => h y (List.mem_cons_of_mem _ hy))
theorem bs_loop {T : Tb} {S : Os} {tc : TT} {tb : TS} {k len : Nat} {E : Nat → Nat → Option Da → List (Option Da)} (hcond : ∀ lo hi z, EvT T S tc (E lo hi z) (decide (lo < hi)))
    (hstep : ∀ lo hi z, lo < hi → hi ≤ len → ∃ z', SD T S tb (E lo hi z) (.nx (if (lo + hi) / 2 < k then E ((lo + hi) / 2 + 1) hi z' else E lo ((lo + hi) / 2) z') S)) : ∀ n lo hi z, hi - lo ≤ n → lo ≤ k → k ≤ hi → hi ≤ len → ∃ m z', WhileD T tc tb m S (E lo hi z) (.nx (E k k z') S)
  | 0, lo, hi, z, h1, h2, h3, h4 => by
    have e1 : lo = k := by omega
    have e2 : hi = k := by omega
    subst e1; subst e2
    exact ⟨0, z, .done (et_is (hcond _ _ z) (decide_eq_false (Nat.lt_irrefl _)))⟩
  | n + 1, lo, hi, z, h1, h2, h3, h4 => by
    by_cases hl : lo < hi
    · obtain ⟨z', hs⟩ := hstep lo hi z hl h4
      by_cases hk : (lo + hi) / 2 < k
      · rw [if_pos hk] at hs
        obtain ⟨m, z2, w⟩ := bs_loop hcond hstep n ((lo + hi) / 2 + 1) hi z' (by omega) (by omega) h3 h4
        exact ⟨m + 1, z2, .next (et_is (hcond _ _ z) (decide_eq_true hl)) hs w⟩
      · rw [if_neg hk] at hs
        obtain ⟨m, z2, w⟩ := bs_loop hcond hstep n lo ((lo + hi) / 2) z' (by omega) h2 (by omega) (by omega)
        exact ⟨m + 1, z2, .next (et_is (hcond _ _ z) (decide_eq_true hl)) hs w⟩
    · have e1 : lo = k := by omega
      have e2 : hi = k := by omega
      subst e1; subst e2
      exact ⟨0, z, .done (et_is (hcond _ _ z) (decide_eq_false hl))⟩
theorem sd_whileY {T : Tb} {S S1 : Os} {tc : TT} {tb ts : TS} {δ : List (Option Da)} {o : Out} {E : Option Da → List (Option Da)} (h : ∃ m z', WhileD T tc tb m S δ (.nx (E z') S1)) (k : ∀ z', SD T S1 ts (E z') o) : SD T S (tSeq (tWhile tc tb) ts) δ o := by
  obtain ⟨m, z', w⟩ := h
  exact sd_seq (sd_while w) (k z')
/-- where a step lies: before stop k and behind the others -/
structure AtK (vs : List Ve) (segs : List Sgm) (tl : List (Int × Pt)) (n : Int) (k : Nat) (p : Pt) : Prop where
  le : k ≤ segs.length
  cut : ∀ i g, segs[i]? = some g → (g.st + 2 * g.m ≤ n ↔ i < k)
  one : ∀ g, segs[k]? = some g → PtS g.p ∧ Bd 290 (n - g.st) ∧ p = g.at vs n
  end_ : segs[k]? = none → ∃ r, tl.filter (fun a => decide (a.1 = n)) = (n, p) :: r
section
variable {P : Program} {w : World} {K : PySem.W.Frag} {mg : Str → Option Value} {base : Heap} {T : Tb}
abbrev s_Orbit_last_step : Stmt := inClass (top 48) 2
theorem sc_Orbit_last_step : FnScope ["self"] ["self"] (defScope s_Orbit_last_step) := ⟨rfl, rfl, rfl, by decide +kernel, rfl, by decide +kernel, by decide +kernel⟩
def R_Orbit_last_step (C_Polygon : Addr) (C_Segment : Addr) (C_Orbit : Addr) (ds : List Da) (d : Da) : Prop := ∃ (vs : List Ve) (segs : List Sgm) (tl : Tl) (a : IP), ds = [orbD C_Polygon C_Segment C_Orbit vs segs tl] ∧ tl.getLast? = some a ∧ d = .int a.1
theorem ri_Orbit_last_step {C_Polygon : Addr} {C_Segment : Addr} {C_Orbit : Addr} {vs : List Ve} {segs : List Sgm} {tl : Tl} {a : IP} (h0 : tl.getLast? = some a) : (R_Orbit_last_step C_Polygon C_Segment C_Orbit) [orbD C_Polygon C_Segment C_Orbit vs segs tl] (.int a.1) := ⟨vs, segs, tl, a, rfl, h0, rfl⟩
theorem ok_Orbit_last_step {f : Addr} {fd : FuncData} {C_Polygon : Addr} {C_Segment : Addr} {C_Orbit : Addr} (F : FnP K "last_step" "Orbit.last_step" s_Orbit_last_step f fd) (cl0 : Cls K C_Orbit) (me0 : Meth K C_Orbit "last_step" f) (cl_Orbit : Cls K C_Orbit) (na_Orbit_tail : NoAttr K C_Orbit "tail")  : C8.Met P w K mg base 1 C_Orbit "last_step" (Prm T (R_Orbit_last_step C_Polygon C_Segment C_Orbit)) [] := by
  refine ⟨⟨f, fd, _, [], cl0, me0, fn_pure F sc_Orbit_last_step (fun ds d h => ?_) fun cdv A outer s H E hr => ⟨_, (pss_one (ps_ret (pe_ix ix_tup (pe_ix ix_list (pe_fld (pv 0) rfl) (pe_un un_neg pe_int) (fun _ _ => rfl)) pe_int (fun _ _ => rfl)))), fun ds d h => ?_⟩, F.bindsN (fun _ _ _ _ _ _ us hl => match us, hl with | [_], _ => rfl), .nil⟩⟩
  · obtain ⟨vs, segs, tl, a, rfl, hl, rfl⟩ := h
    rfl
  · obtain ⟨vs, segs, tl, a, rfl, hl, rfl⟩ := h
    have hp : 0 < tl.length := by
      cases tl with
      | nil => cases hl
      | cons _ _ => exact Nat.zero_lt_succ _
    refine .ret (sd_ret (ev_ixT (l := [.int a.1, p3 a.2]) (ev_ixL (ev_fld (ev_var rfl) cl_Orbit na_Orbit_tail rfl) (ev_neg ev_int) ?_) ev_int rfl))
    rw [atI_neg1 (by rw [List.length_map]; exact hp), List.length_map, List.getElem?_map, ← List.getLast?_eq_getElem?, hl]
    rfl
abbrev s_Orbit_point_at : Stmt := inClass (top 48) 3
theorem sc_Orbit_point_at : FnScope ["self", "steps", "low", "high", "middle", "count", "point"] ["self", "steps"] (defScope s_Orbit_point_at) := ⟨rfl, rfl, rfl, by decide +kernel, rfl, by decide +kernel, by decide +kernel⟩
def R_Orbit_point_at (C_Polygon : Addr) (C_Segment : Addr) (C_Orbit : Addr) (ds : List Da) (d : Da) : Prop := ∃ (vs : List Ve) (segs : List Sgm) (tl : Tl) (n : Int) (k : Nat) (p : Pt), ds = [orbD C_Polygon C_Segment C_Orbit vs segs tl, .int n] ∧ PolB vs ∧ segs.length ≤ 900 ∧ tl.length ≤ 900 ∧ AtK vs segs tl n k p ∧ d = p3 p
theorem ri_Orbit_point_at {C_Polygon : Addr} {C_Segment : Addr} {C_Orbit : Addr} {vs : List Ve} {segs : List Sgm} {tl : Tl} {n : Int} {k : Nat} {p : Pt} (h0 : PolB vs) (h1 : segs.length ≤ 900) (h2 : tl.length ≤ 900) (h3 : AtK vs segs tl n k p) : (R_Orbit_point_at C_Polygon C_Segment C_Orbit) [orbD C_Polygon C_Segment C_Orbit vs segs tl, .int n] (p3 p) := ⟨vs, segs, tl, n, k, p, rfl, h0, h1, h2, h3, rfl⟩
theorem ok_Orbit_point_at {f : Addr} {fd : FuncData} {C_Polygon : Addr} {C_Segment : Addr} {C_Orbit : Addr} (F : FnP K "point_at" "Orbit.point_at" s_Orbit_point_at f fd) (cl0 : Cls K C_Orbit) (me0 : Meth K C_Orbit "point_at" f) (fr_len : mg "len" = none) (cl_Orbit : Cls K C_Orbit) (na_Orbit_segments : NoAttr K C_Orbit "segments") (cl_Segment : Cls K C_Segment) (na_Segment_stop : NoAttr K C_Segment "stop") (m_Segment_point_at : C8.Met P w K mg base 2 C_Segment "point_at" (Prm T (R_Segment_point_at C_Polygon C_Segment)) []) (na_Orbit_tail : NoAttr K C_Orbit "tail")  : C8.Met P w K mg base 3 C_Orbit "point_at" (Prm T (R_Orbit_point_at C_Polygon C_Segment C_Orbit)) [] := by
  refine ⟨⟨f, fd, _, [], cl0, me0, fn_pure F sc_Orbit_point_at (fun ds d h => ?_) fun cdv A outer s H E hr => ⟨_, (pss_cons (ps_par (i := 2) (j := 3) (by rfl) sc_Orbit_point_at.nd rfl rfl (by decide) rfl rfl (pa_cons pe_int (pa_cons (pe_callB call_len_seq (by rfl) fr_len PySem.boot_len (pa_cons (pe_fld (pv 0) rfl) pa_nil)) pa_nil)) (by rfl)) (pss_cons (ps_while PassesOwn.never (pt_cmpR op_lt (pv 2) (pv 3) (nomark _)) (pss_cons (ps_set (i := 4) sc_Orbit_point_at.nd rfl (Or.inl rfl) (pe_op op_fdivW (pe_op op_add (pv 2) (pv 3)) pe_int)) (pss_one (ps_if (pt_cmpR op_le (pe_fld (pe_ix ix_list (pe_fld (pv 0) rfl) (pv 4) (fun _ _ => rfl)) rfl) (pv 1) (nomark _)) (pss_one (ps_set (i := 2) sc_Orbit_point_at.nd rfl (Or.inl rfl) (pe_op op_add (pv 4) pe_int))) (pss_one (ps_set (i := 3) sc_Orbit_point_at.nd rfl (Or.inl rfl) (pv 4))))))) (pss_cons (ps_if (pt_cmpR op_lt (pv 2) (pe_callB call_len_seq (by rfl) fr_len PySem.boot_len (pa_cons (pe_fld (pv 0) rfl) pa_nil)) (nomark _)) (pss_one (ps_ret (C8.pe_mt m_Segment_point_at hr (by decide) (pe_ix ix_list (pe_fld (pv 0) rfl) (pv 2) (fun _ _ => rfl)) (pa_cons (pv 1) pa_nil)))) pss_nil) (pss_one (ps_ret (pe_ix ix_list (pe_lc (by rfl) sc_Orbit_point_at.nd (pi_list (pe_fld (pv 0) rfl)) (blkOk_by (own := [("count", 5), ("point", 6)]) (N := ["self", "steps", "low", "high", "middle", "count", "point"]) (sc := defScope s_Orbit_point_at) (by decide +kernel)) (fun _ _ _ _ _ => (pg_tupK (K := K) (n := 2) rfl (by rfl) (pgs_cons (pg_name (i := 5) sc_Orbit_point_at.nd rfl (Or.inl rfl)) (pgs_cons (pg_name (i := 6) sc_Orbit_point_at.nd rfl (Or.inl rfl)) pgs_nil)))) (fun _ _ _ _ _ => pts_one (pt_cmpR op_eq (pv 5) (pv 1) (nomark _))) (fun _ _ _ _ _ => (pv 6))) pe_int (fun _ _ => rfl))))))), fun ds d h => ?_⟩, F.bindsN (fun _ _ _ _ _ _ us hl => match us, hl with | [_, _], _ => rfl), .nil⟩⟩
  · obtain ⟨vs, segs, tl, n, k, p, rfl, hB, hlen, htl, hk, rfl⟩ := h
    rfl
  · obtain ⟨vs, segs, tl, n, k, p, rfl, hB, hlen, htl, hk, rfl⟩ := h
    refine .ret (sd_seq (sd_par (ea_cons ev_int (ea_cons (ev_cb (ea_cons (ev_fld (ev_var rfl) cl_Orbit na_Orbit_segments rfl) ea_nil) cd_lenL) ea_nil))) (sd_whileY (E := fun z => [some (orbD C_Polygon C_Segment C_Orbit vs segs tl), some (.int n), some (.int (k : Nat)), some (.int (k : Nat)), z, none, none]) (bs_loop (len := segs.length) (E := fun lo hi z => [some (orbD C_Polygon C_Segment C_Orbit vs segs tl), some (.int n), some (.int (lo : Nat)), some (.int (hi : Nat)), z, none, none]) ?_ ?_ segs.length 0 _ none (by simp) (Nat.zero_le _) (by simpa using hk.le) (by simp)) fun z => ?_))
    · intro lo hi z
      exact et_is (et_test (ev_cmp (ev_var rfl) (ev_var rfl))) (by simp)
    · intro lo hi z h1 h2
      have hm : (lo + hi) / 2 < segs.length := by omega
      obtain ⟨g, hg⟩ : ∃ g, segs[(lo + hi) / 2]? = some g := ⟨_, List.getElem?_eq_getElem hm⟩
      have em : ((lo : Int) + (hi : Int)) / 2 = (((lo + hi) / 2 : Nat) : Int) := by omega
      refine ⟨some (.int (((lo + hi) / 2 : Nat) : Int)), sd_seq (sd_asg (ev_is (ev_fdiv (ev_add (ev_var rfl) (ev_var rfl)) ev_int (wide_div (b := 2) (by decide) (by decide) (by decide) (by decide))) (by rw [em]))) ?_⟩
      by_cases hk' : (lo + hi) / 2 < k
      · rw [if_pos hk']
        exact sd_ifT (et_is (et_test (ev_cmp (ev_fld (ev_ixL (ev_fld (ev_var rfl) cl_Orbit na_Orbit_segments rfl) (ev_var rfl) (atI_nat (by rw [List.getElem?_map, hg]; rfl))) cl_Segment na_Segment_stop rfl) (ev_var rfl))) (decide_eq_true ((hk.cut _ _ hg).mpr hk'))) (sd_asg (ev_is (ev_add (ev_var rfl) ev_int) (by simp)))
      · rw [if_neg hk']
        exact sd_ifF (et_is (et_test (ev_cmp (ev_fld (ev_ixL (ev_fld (ev_var rfl) cl_Orbit na_Orbit_segments rfl) (ev_var rfl) (atI_nat (by rw [List.getElem?_map, hg]; rfl))) cl_Segment na_Segment_stop rfl) (ev_var rfl))) (decide_eq_false fun z => hk' ((hk.cut _ _ hg).mp z))) (sd_asg (ev_var rfl))
    · cases hg : segs[k]? with
      | some g =>
        obtain ⟨o1, o2, o3⟩ := hk.one g hg
        have hlt : k < segs.length := by
          obtain ⟨h, _⟩ := List.getElem?_eq_some_iff.mp hg
          exact h
        exact sd_seqR (sd_ifT (et_is (et_test (ev_cmp (ev_var rfl) (ev_cb (ea_cons (ev_fld (ev_var rfl) cl_Orbit na_Orbit_segments rfl) ea_nil) cd_lenL))) (decide_eq_true (by rw [List.length_map]; omega))) (sd_ret (ev_is (ev_meth (ev_ixL (ev_fld (ev_var rfl) cl_Orbit na_Orbit_segments rfl) (ev_var rfl) (atI_nat (by rw [List.getElem?_map, hg]; rfl))) (ea_cons (ev_var rfl) ea_nil) (ri_Segment_point_at hB o1 o2)) (by rw [o3]))))
      | none =>
        have hge : segs.length ≤ k := List.getElem?_eq_none_iff.mp hg
        obtain ⟨r, hr'⟩ := hk.end_ hg
        refine sd_seq (sd_ifF (et_is (et_test (ev_cmp (ev_var rfl) (ev_cb (ea_cons (ev_fld (ev_var rfl) cl_Orbit na_Orbit_segments rfl) ea_nil) cd_lenL))) (decide_eq_false (by rw [List.length_map]; omega))) sd_next) (sd_ret (ev_ixL (l := (tl.filter (fun a => decide (a.1 = n))).map fun a => p3 a.2) (ev_lc (it_list (ev_fld (ev_var rfl) cl_Orbit na_Orbit_tail rfl)) (lc_filtD (q := fun a : IP => decide (a.1 = n)) (f := fun a => p3 a.2) (fun a => [some (orbD C_Polygon C_Segment C_Orbit vs segs tl), some (.int n), some (.int (k : Nat)), some (.int (k : Nat)), z, some (.int a.1), some (p3 a.2)]) (fun a => gd_tup (gds_cons gd_name (gds_cons gd_name gds_nil))) (by decide) (fun a _ => (et_test (ev_eqI (ev_var rfl) (ev_var rfl)))) (fun a _ _ => ev_var rfl)) (by rw [List.length_map]; omega)) ev_int ?_))
        exact atI_nat (j := 0) (by rw [hr']; rfl)
end
end O26
set_option Elab.async false
set_option linter.all false
set_option maxRecDepth 100000
set_option maxHeartbeats 4000000
namespace O26
open PySem PySem.Spec PyProof.Rows L2
/-- an orbit that is told -/
structure OrbO (vs : List Ve) (dir : Int) (q : Pt) (lim : Option Int) (segs : List Sgm) (tl : Tl) : Prop where
  o : OrbR vs dir q lim q 0 segs tl
  len : segs.length ≤ 900
section
variable {P : Program} {w : World} {K : PySem.W.Frag} {mg : Str → Option Value} {base : Heap} {T : Tb}
abbrev s_require_steps : Stmt := top 49
theorem sc_require_steps : FnScope ["steps", "minimum"] ["steps", "minimum"] (defScope s_require_steps) := ⟨rfl, rfl, rfl, by decide +kernel, rfl, by decide +kernel, by decide +kernel⟩
def R_require_steps (ds : List Da) (d : Da) : Prop := ∃ n lo : Int, ds = [.int n, .int lo] ∧ lo ≤ n ∧ n ≤ 10000000000000000000000000000000000000000 ∧ d = .non
theorem ri_require_steps {n lo : Int} (h0 : lo ≤ n) (h1 : n ≤ 10000000000000000000000000000000000000000) : R_require_steps [.int n, .int lo] (.non) := ⟨n, lo, rfl, h0, h1, rfl⟩
theorem ok_require_steps {f : Addr} {fd : FuncData}  (F : FnP K "require_steps" "require_steps" s_require_steps f fd) (hm : mg "require_steps" = some (.ref f)) (cs_MAX_STEPS : ∃ u, mg "MAX_STEPS" = some u ∧ RelV (.int 10000000000000000000000000000000000000000) u) (c_is_int_in : C8.Cal P w K mg base 2 "is_int_in" (Prm T R_is_int_in) [])  : C8.Cal P w K mg base 3 "require_steps" (Prm T R_require_steps) [] := by
  refine ⟨⟨f, fd, _, [], fn_pure F sc_require_steps (fun ds d h => ?_) fun cdv A outer s H E hr => ⟨_, (pss_one (ps_if (pt_not (pt_val (C8.pe_c c_is_int_in hr (by decide) rfl (pa_cons (pv 0) (pa_cons (pv 1) (pa_cons (C8.pe_gc rfl cs_MAX_STEPS) pa_nil)))))) (pss_one ps_never) pss_nil)), fun ds d h => ?_⟩, hm, F.kp, F.bindsN (fun _ _ _ _ _ _ us hl => match us, hl with | [_, _], _ => rfl), .nil⟩⟩
  · obtain ⟨n, lo, rfl, h1, h2, rfl⟩ := h
    rfl
  · obtain ⟨n, lo, rfl, h1, h2, rfl⟩ := h
    exact .nx (sd_ifF (et_is (et_not (et_B (ev_call (ea_cons (ev_var rfl) (ea_cons (ev_var rfl) (ea_cons ev_int ea_nil))) ri_is_int_in))) (by rw [decide_eq_true h1, decide_eq_true h2]; rfl)) sd_next)
abbrev s_period_from : Stmt := top 52
theorem sc_period_from : FnScope ["polygon", "point"] ["polygon", "point"] (defScope s_period_from) := ⟨rfl, rfl, rfl, by decide +kernel, rfl, by decide +kernel, by decide +kernel⟩
def R_period_from (C_Polygon : Addr) (C_Segment : Addr) (C_Orbit : Addr) (ds : List Da) (d : Da) : Prop := ∃ (vs : List Ve) (q : Pt) (segs : List Sgm) (tl : Tl), ds = [poly C_Polygon vs, p3 q] ∧ PolB vs ∧ PtS q ∧ OrbO vs 1 q none segs tl ∧ d = .non
theorem ri_period_from {C_Polygon : Addr} {C_Segment : Addr} {C_Orbit : Addr} {vs : List Ve} {q : Pt} {segs : List Sgm} {tl : Tl} (h0 : PolB vs) (h1 : PtS q) (h2 : OrbO vs 1 q none segs tl) : (R_period_from C_Polygon C_Segment C_Orbit) [poly C_Polygon vs, p3 q] (.non) := ⟨vs, q, segs, tl, rfl, h0, h1, h2, rfl⟩
theorem ok_period_from {f : Addr} {fd : FuncData} {C_Polygon : Addr} {C_Segment : Addr} {C_Orbit : Addr} (F : FnP K "period_from" "period_from" s_period_from f fd) (hm : mg "period_from" = some (.ref f)) (k_Orbit_2 : C8.Mak P w K mg base 8 "Orbit" C_Orbit (PrmI T C_Orbit (R_OrbitU_initU C_Polygon C_Segment C_Orbit)) [.int 1, .non]) (cl_Orbit : Cls K C_Orbit) (na_Orbit_cycle : NoAttr K C_Orbit "cycle")  : C8.Cal P w K mg base 10 "period_from" (Prm T (R_period_from C_Polygon C_Segment C_Orbit)) [] := by
  refine ⟨⟨f, fd, _, [], fn_pure F sc_period_from (fun ds d h => ?_) fun cdv A outer s H E hr => ⟨_, (pss_one (ps_ret (pe_fld (C8.pe_mk k_Orbit_2 hr (by decide) rfl (pa_cons (pv 0) (pa_cons (pv 1) pa_nil))) rfl))), fun ds d h => ?_⟩, hm, F.kp, F.bindsN (fun _ _ _ _ _ _ us hl => match us, hl with | [_, _], _ => rfl), .nil⟩⟩
  · obtain ⟨vs, q, segs, tl, rfl, hB, hq, hO, rfl⟩ := h
    rfl
  · obtain ⟨vs, q, segs, tl, rfl, hB, hq, hO, rfl⟩ := h
    exact .ret (sd_ret (ev_fld (ev_make (ea_cons (ev_var rfl) (ea_cons (ev_var rfl) ea_nil)) (fun _ => .cons (.int _) (.cons .non .nil)) ⟨vs, q, 1, none, segs, tl, rfl, hB, hq, ⟨by decide⟩, hO.o, hO.len, rfl⟩) cl_Orbit na_Orbit_cycle rfl))
abbrev s_end_steps : Stmt := top 54
theorem sc_end_steps : FnScope ["polygon", "point", "orbit"] ["polygon", "point"] (defScope s_end_steps) := ⟨rfl, rfl, rfl, by decide +kernel, rfl, by decide +kernel, by decide +kernel⟩
def R_end_steps (C_Polygon : Addr) (C_Segment : Addr) (C_Orbit : Addr) (ds : List Da) (d : Da) : Prop := ∃ (vs : List Ve) (q : Pt) (segs segs2 : List Sgm) (tl tl2 : Tl) (a b : IP), ds = [poly C_Polygon vs, p3 q] ∧ PolB vs ∧ PtS q ∧ OrbO vs 1 q none segs tl ∧ OrbO vs (-1) q none segs2 tl2 ∧ tl.getLast? = some a ∧ tl2.getLast? = some b ∧ d = i2 b.1 a.1
theorem ri_end_steps {C_Polygon : Addr} {C_Segment : Addr} {C_Orbit : Addr} {vs : List Ve} {q : Pt} {segs segs2 : List Sgm} {tl tl2 : Tl} {a b : IP} (h0 : PolB vs) (h1 : PtS q) (h2 : OrbO vs 1 q none segs tl) (h3 : OrbO vs (-1) q none segs2 tl2) (h4 : tl.getLast? = some a) (h5 : tl2.getLast? = some b) : (R_end_steps C_Polygon C_Segment C_Orbit) [poly C_Polygon vs, p3 q] (i2 b.1 a.1) := ⟨vs, q, segs, segs2, tl, tl2, a, b, rfl, h0, h1, h2, h3, h4, h5, rfl⟩
theorem ok_end_steps {f : Addr} {fd : FuncData} {C_Polygon : Addr} {C_Segment : Addr} {C_Orbit : Addr} (F : FnP K "end_steps" "end_steps" s_end_steps f fd) (hm : mg "end_steps" = some (.ref f)) (k_Orbit_2 : C8.Mak P w K mg base 8 "Orbit" C_Orbit (PrmI T C_Orbit (R_OrbitU_initU C_Polygon C_Segment C_Orbit)) [.int 1, .non]) (cl_Orbit : Cls K C_Orbit) (na_Orbit_cycle : NoAttr K C_Orbit "cycle") (k_Orbit_3 : C8.Mak P w K mg base 8 "Orbit" C_Orbit (PrmI T C_Orbit (R_OrbitU_initU C_Polygon C_Segment C_Orbit)) [.non]) (m_Orbit_last_step : C8.Met P w K mg base 1 C_Orbit "last_step" (Prm T (R_Orbit_last_step C_Polygon C_Segment C_Orbit)) [])  : C8.Cal P w K mg base 10 "end_steps" (Prm T (R_end_steps C_Polygon C_Segment C_Orbit)) [] := by
  refine ⟨⟨f, fd, _, [], fn_pure F sc_end_steps (fun ds d h => ?_) fun cdv A outer s H E hr => ⟨_, (pss_cons (ps_set (i := 2) sc_end_steps.nd rfl (Or.inl rfl) (C8.pe_mk k_Orbit_2 hr (by decide) rfl (pa_cons (pv 0) (pa_cons (pv 1) pa_nil)))) (pss_one (ps_ret (pe_ifExp (pt_cmpR op_notN (pe_fld (pv 2) rfl) pe_non (nomark _)) (pe_tup (pa_cons pe_non (pa_cons pe_non pa_nil))) (pe_tup (pa_cons (C8.pe_mt0 m_Orbit_last_step hr (by decide) (C8.pe_mk k_Orbit_3 hr (by decide) rfl (pa_cons (pv 0) (pa_cons (pv 1) (pa_cons (pe_un un_neg pe_int) pa_nil))))) (pa_cons (C8.pe_mt0 m_Orbit_last_step hr (by decide) (pv 2)) pa_nil))))))), fun ds d h => ?_⟩, hm, F.kp, F.bindsN (fun _ _ _ _ _ _ us hl => match us, hl with | [_, _], _ => rfl), .nil⟩⟩
  · obtain ⟨vs, q, segs, segs2, tl, tl2, a, b, rfl, hB, hq, hO, hO2, ha, hb, rfl⟩ := h
    rfl
  · obtain ⟨vs, q, segs, segs2, tl, tl2, a, b, rfl, hB, hq, hO, hO2, ha, hb, rfl⟩ := h
    exact .ret (sd_seq (sd_asg (ev_make (ea_cons (ev_var rfl) (ea_cons (ev_var rfl) ea_nil)) (fun _ => .cons (.int _) (.cons .non .nil)) ⟨vs, q, 1, none, segs, tl, rfl, hB, hq, ⟨by decide⟩, hO.o, hO.len, rfl⟩)) (sd_ret (ev_if (b := false) (et_is (et_test (ev_notN (ev_fld (ev_var rfl) cl_Orbit na_Orbit_cycle rfl))) rfl) (fun z => by cases z) (fun _ => ev_tup (ea_cons (ev_meth (ev_make (ea_cons (ev_var rfl) (ea_cons (ev_var rfl) (ea_cons (ev_neg ev_int) ea_nil))) (fun _ => .cons .non .nil) ⟨vs, q, -1, none, segs2, tl2, rfl, hB, hq, ⟨by decide⟩, hO2.o, hO2.len, rfl⟩) ea_nil (ri_Orbit_last_step hb)) (ea_cons (ev_meth (ev_var rfl) ea_nil (ri_Orbit_last_step ha)) ea_nil))))))
end
end O26
set_option Elab.async false
set_option linter.all false
set_option maxRecDepth 100000
set_option maxHeartbeats 4000000
namespace O26
open PySem PySem.Spec PyProof.Rows L2
theorem ix_tupK {X : Cx} {K : PySem.W.Frag} (h : X.K = K) : IxR X (rIxT K) := by subst h; exact ix_tup
theorem ix_listK {X : Cx} {K : PySem.W.Frag} (h : X.K = K) : IxR X (rIxL K) := by subst h; exact ix_list
theorem len_seqK {X : Cx} {K : PySem.W.Frag} (h : X.K = K) : CallR X (.builtin "len") (fun xs H Q => ∃ p ys, xs = [.ref p] ∧ (SqL K H p ys ∨ SqT K H p ys) ∧ Q (.int ys.length) H) := by subst h; exact call_len_seq
theorem cd_allT {T : Tb} {S : Os} {K : PySem.W.Frag} {α : Type} {xs : List α} : CaD T S (rAll K) [.lst (xs.map fun _ => Da.bl true)] (.bl true) := by
  have h := cd_all (T := T) (S := S) (K := K) (bs := xs.map fun _ => true)
  rw [List.map_map] at h
  have e : (xs.map fun _ => true).all id = true := by
    rw [List.all_eq_true]
    intro b hb
    obtain ⟨_, _, rfl⟩ := List.mem_map.mp hb
    rfl
  rw [e] at h
  exact h
theorem room65 {k : Nat} {A : Around} (hr : Room k A) : A.units + 65 < cLine := by have := hr.un; omega
/-- strictly convex, anticlockwise -/
def Cvx (vs : List Ve) : Prop := ∀ i : Nat, i < vs.length → ∀ o : Nat, o < vs.length - 2 → 0 < crs (dif (vtx vs ((i : Int) + 1)) (vtx vs i)) (dif (vtx vs ((i : Int) + (2 + (o : Int)))) (vtx vs i))
theorem cutD_all {l : List Da} : cutD l (some 0) none = l := by
  unfold cutD HT.sIx
  simp
theorem cutD_none {l : List Da} : cutD l none (some 0) = [] := by
  unfold cutD HT.sIx
  simp
theorem for_nat {T : Tb} (n : Nat) {g : TG} {tb : TS} {it : Nat → Da} (G : Nat → List (Option Da) → Os → Prop) (step : ∀ a δ S, a < n → G a δ S → ∃ δ1 sl δ2 S2, GD T S g (it a) δ δ1 sl ∧ SD T S tb δ1 (.nx δ2 S2) ∧ G (a + 1) δ2 S2) {δ : List (Option Da)} {S : Os} (h : G 0 δ S) :
    ∃ δ' S', G n δ' S' ∧ ForD T g tb S ((List.range n).map it) δ (.nx δ' S') := by
  have go : ∀ m k, k + m = n → ∀ δ S, G k δ S → ∃ δ' S', G n δ' S' ∧ ForD T g tb S ((List.range' k m).map it) δ (.nx δ' S') := by
    intro m
    induction m with
    | zero => intro k hk δ S h; rw [Nat.add_zero] at hk; subst hk; exact ⟨δ, S, h, .nil⟩
    | succ m ih =>
      intro k hk δ S h
      obtain ⟨δ1, sl, δ2, S2, h1, h2, h3⟩ := step k δ S (by omega) h
      obtain ⟨δ', S', k1, k2⟩ := ih (k + 1) (by omega) δ2 S2 h3
      exact ⟨δ', S', k1, .next h1 h2 k2⟩
  obtain ⟨δ', S', h1, h2⟩ := go n 0 (by omega) δ S h
  rw [← List.range_eq_range'] at h2
  exact ⟨δ', S', h1, h2⟩
theorem sd_forS {T : Tb} {S : Os} {g : TG} {ts tu : TS} {wi : TI} {items : List Da} {δ : List (Option Da)} {o : Out} {G : List (Option Da) → Os → Prop} (hi : ItD T S wi δ items) (h : ∃ δ' S', G δ' S' ∧ ForD T g ts S items δ (.nx δ' S')) (k : ∀ δ' S', G δ' S' → SD T S' tu δ' o) : SD T S (tSeq (tFor wi g ts) tu) δ o := by
  obtain ⟨δ', S', h1, h2⟩ := h
  exact sd_seq (sd_for hi h2) (k δ' S' h1)
theorem it_is {T : Tb} {S : Os} {wi : TI} {δ : List (Option Da)} {l m : List Da} (h : ItD T S wi δ l) (e : l = m) : ItD T S wi δ m := e ▸ h
theorem pairD_nat {l : List Da} : pairD (rngD 0 l.length) l = (List.range l.length).map fun i => .tup [.int (0 + (i : Nat)), l.getD i .non] := by
  refine List.ext_getElem? fun i => ?_
  unfold pairD
  rw [List.getElem?_map, List.getElem?_map]
  by_cases h : i < l.length
  · have h2 : l[i]? = some (l.getD i .non) := by
      rw [List.getD_eq_getElem?_getD, List.getElem?_eq_getElem h]
      rfl
    have z : ((rngD 0 l.length).zip l)[i]? = some (.int (0 + (i : Nat)), l.getD i .non) := List.getElem?_zip_eq_some.mpr ⟨rngD_get 0 _ i h, h2⟩
    rw [z, List.getElem?_range h]
    rfl
  · rw [List.getElem?_eq_none (by rw [List.length_zip, rngD_length]; omega), List.getElem?_eq_none (by rw [List.length_range]; omega)]
    rfl
theorem vtx_nat {vs : List Ve} {i : Nat} (h : i < vs.length) : vs.getD i (0, 0) = vtx vs i := by
  unfold vtx
  rw [show ((i : Int) % (vs.length : Nat)).toNat = i by
    have : ((i : Int) % ((vs.length : Nat) : Int)) = i := Int.emod_eq_of_lt (by omega) (by omega)
    omega]
theorem pair_vs {vs : List Ve} : pairD (rngD 0 (vs.map v2).length) (vs.map v2) = (List.range vs.length).map fun i => .tup [.int (i : Nat), v2 (vtx vs i)] := by
  rw [pairD_nat, List.length_map]
  refine List.map_congr_left fun i hi => ?_
  have hi := List.mem_range.mp hi
  have e : (vs.map v2).getD i .non = v2 (vtx vs i) := by
    rw [← vtx_nat hi, List.getD_eq_getElem?_getD, List.getElem?_map, List.getElem?_eq_getElem hi, List.getD_eq_getElem?_getD, List.getElem?_eq_getElem hi]
    rfl
  rw [e, Int.zero_add]
section
variable {P : Program} {w : World} {K : PySem.W.Frag} {mg : Str → Option Value} {base : Heap} {T : Tb}
abbrev s_is_vertex : Stmt := top 60
theorem sc_is_vertex : FnScope ["value", "number"] ["value"] (defScope s_is_vertex) := ⟨rfl, rfl, rfl, by decide +kernel, rfl, by decide +kernel, by decide +kernel⟩
def R_is_vertex (ds : List Da) (d : Da) : Prop := ∃ v : Ve, ds = [v2 v] ∧ ((-60 ≤ v.1 ∧ v.1 ≤ 60) ∧ -60 ≤ v.2 ∧ v.2 ≤ 60) ∧ d = .bl true
theorem ri_is_vertex {v : Ve} (h0 : ((-60 ≤ v.1 ∧ v.1 ≤ 60) ∧ -60 ≤ v.2 ∧ v.2 ≤ 60)) : R_is_vertex [v2 v] (.bl true) := ⟨v, rfl, h0, rfl⟩
theorem ok_is_vertex {f : Addr} {fd : FuncData}  (F : FnP K "is_vertex" "is_vertex" s_is_vertex f fd) (hm : mg "is_vertex" = some (.ref f)) (fr_isinstance : mg "isinstance" = none) (fr_tuple : mg "tuple" = none) (fr_len : mg "len" = none) (fr_all : mg "all" = none) (cs_MAX_COORDINATE : ∃ u, mg "MAX_COORDINATE" = some u ∧ RelV (.int 60) u) (c_is_int_in : C8.Cal P w K mg base 2 "is_int_in" (Prm T R_is_int_in) [])  : C8.Cal P w K mg base 3 "is_vertex" (Prm T R_is_vertex) [] := by
  refine ⟨⟨f, fd, _, [], fn_pure F sc_is_vertex (fun ds d h => ?_) fun cdv A outer s H E hr => ⟨_, (pss_cons (ps_if (PW.pt (pw_or (pt_not (pt_val (pe_callB call_isi (by rfl) fr_isinstance (by decide +kernel) (pa_cons (pv 0) (pa_cons (pe_bltn (by rfl) fr_tuple (by decide +kernel) (v := .ty "tuple") rfl) pa_nil))))) (pw_or1 (pt_cmpR op_ne (pe_callB call_len_seq (by rfl) fr_len PySem.boot_len (pa_cons (pv 0) pa_nil)) pe_int (nomark _))))) (pss_one (ps_ret pe_bl)) pss_nil) (pss_one (ps_ret (pe_callB (cr_all (by rfl)) (by rfl) fr_all (by decide +kernel) (pa_cons (pe_lc (by rfl) sc_is_vertex.nd (pi_tup (pv 0)) (blkOk_by (own := [("number", 1)]) (N := ["value", "number"]) (sc := defScope s_is_vertex) (by decide +kernel)) (fun _ _ _ _ _ => (pg_name (i := 1) sc_is_vertex.nd rfl (Or.inl rfl))) (fun _ _ _ _ _ => pts_nil) (fun _ _ _ _ _ => (C8.pe_c c_is_int_in hr (by decide) rfl (pa_cons (pv 1) (pa_cons (pe_un un_neg (C8.pe_gc rfl cs_MAX_COORDINATE)) (pa_cons (C8.pe_gc rfl cs_MAX_COORDINATE) pa_nil)))))) pa_nil))))), fun ds d h => ?_⟩, hm, F.kp, F.bindsN (fun _ _ _ _ _ _ us hl => match us, hl with | [_], _ => rfl), .nil⟩⟩
  · obtain ⟨v, rfl, hv, rfl⟩ := h
    rfl
  · obtain ⟨v, rfl, hv, rfl⟩ := h
    refine .retE (sd_seq (sd_ifF (et_is (et_or (et_not (et_B (ev_isiT_tuple (ev_var rfl)))) (fun _ => (et_test (ev_neI (ev_cb (ea_cons (ev_var rfl) ea_nil) cd_lenT) ev_int)))) rfl) sd_next) (sd_ret (ev_cb (ea_cons (ev_lc (it_tup (ev_var rfl)) (lc_mapG (i := 1) (xs := [v.1, v.2]) (g := Da.int) (f := fun _ => .bl true) (by decide) fun i hi => ev_is (ev_call (ea_cons (ev_var rfl) (ea_cons (ev_neg ev_int) (ea_cons ev_int ea_nil))) ri_is_int_in) ?_)) ea_nil) (cd_all (bs := [true, true]))))) rfl
    obtain ⟨⟨a1, a2⟩, a3, a4⟩ := hv
    rcases List.mem_cons.mp hi with e | e
    · subst e; rw [decide_eq_true a1, decide_eq_true a2]; rfl
    · rcases List.mem_cons.mp e with e | e
      · subst e; rw [decide_eq_true a3, decide_eq_true a4]; rfl
      · cases e
abbrev s_is_convex : Stmt := top 61
theorem sc_is_convex : FnScope ["vertices", "index", "vertex", "direction", "others", "offset", "other"] ["vertices"] (defScope s_is_convex) := ⟨rfl, rfl, rfl, by decide +kernel, rfl, by decide +kernel, by decide +kernel⟩
def R_is_convex (ds : List Da) (d : Da) : Prop := ∃ vs : List Ve, ds = [.lst (vs.map v2)] ∧ PolB vs ∧ Cvx vs ∧ d = .bl true
theorem ri_is_convex {vs : List Ve} (h0 : PolB vs) (h1 : Cvx vs) : R_is_convex [.lst (vs.map v2)] (.bl true) := ⟨vs, rfl, h0, h1, rfl⟩
theorem ok_is_convex {f : Addr} {fd : FuncData}  (F : FnP K "is_convex" "is_convex" s_is_convex f fd) (hm : mg "is_convex" = some (.ref f)) (fr_enumerate : mg "enumerate" = none) (fr_len : mg "len" = none) (c_difference : C8.Cal P w K mg base 1 "difference" (Prm T R_difference) []) (fr_range : mg "range" = none) (fr_all : mg "all" = none) (c_cross : C8.Cal P w K mg base 1 "cross" (Prm T R_cross) [])  : C8.Cal P w K mg base 2 "is_convex" (Prm T R_is_convex) [] := by
  refine ⟨⟨f, fd, _, [], fn_pure F sc_is_convex (fun ds d h => ?_) fun cdv A outer s H E hr => ⟨_, (pss_cons (ps_for PassesOwn.never rfl (pi_enum (by rfl) fr_enumerate (pa_cons (pv 0) pa_nil)) (pg_tup (by rfl) (pgs_cons (pg_name (i := 1) sc_is_convex.nd rfl (Or.inr rfl)) (pgs_cons (pg_name (i := 2) sc_is_convex.nd rfl (Or.inr rfl)) pgs_nil))) (pss_cons (ps_set (i := 3) sc_is_convex.nd rfl (Or.inr rfl) (C8.pe_c c_difference hr (by decide) rfl (pa_cons (pe_ix ix_list (pv 0) (pe_op op_mod (pe_op op_add (pv 1) pe_int) (pe_callB call_len_seq (by rfl) fr_len PySem.boot_len (pa_cons (pv 0) pa_nil))) (fun _ _ => rfl)) (pa_cons (pv 2) pa_nil)))) (pss_cons (ps_setLc (i := 4) (by rfl) sc_is_convex.nd rfl rfl (sw_true rfl rfl rfl (by decide +kernel)) (pi_range2 rfl fr_range (pa_cons pe_int (pa_cons (pe_callB call_len_seq (by rfl) fr_len PySem.boot_len (pa_cons (pv 0) pa_nil)) pa_nil))) (blkOk_by (own := [("offset", 5)]) (N := ["vertices", "index", "vertex", "direction", "others", "offset", "other"]) (sc := defScope s_is_convex) (by decide +kernel)) (fun _ _ _ _ _ => (pg_name (i := 5) sc_is_convex.nd rfl (Or.inl rfl))) (fun _ _ _ _ _ => pts_nil) (fun _ _ _ _ _ => (pe_ix (ix_listK (K := K) rfl) (pv 0) (pe_op op_mod (pe_op op_add (pv 1) (pv 5)) (pe_callB (len_seqK (K := K) rfl) (by rfl) fr_len PySem.boot_len (pa_cons (pv 0) pa_nil))) (fun _ _ => rfl)))) (pss_one (ps_if (pt_not (pt_val (pe_callB (cr_all (by rfl)) (by rfl) fr_all (by decide +kernel) (pa_cons (pe_lc (by rfl) sc_is_convex.nd (pi_list (pv 4)) (blkOk_by (own := [("other", 6)]) (N := ["vertices", "index", "vertex", "direction", "others", "offset", "other"]) (sc := defScope s_is_convex) (by decide +kernel)) (fun _ _ _ _ _ => (pg_name (i := 6) sc_is_convex.nd rfl (Or.inl rfl))) (fun _ _ _ _ _ => pts_nil) (fun _ _ _ _ _ => (pe_cmpR op_gt (C8.pe_c c_cross hr (by decide) rfl (pa_cons (pv 3) (pa_cons (C8.pe_c c_difference hr (by decide) rfl (pa_cons (pv 6) (pa_cons (pv 2) pa_nil))) pa_nil))) pe_int (nomark _)))) pa_nil)))) (pss_one (ps_ret pe_bl)) pss_nil))))) (pss_one (ps_ret pe_bl))), fun ds d h => ?_⟩, hm, F.kp, F.bindsN (fun _ _ _ _ _ _ us hl => match us, hl with | [_], _ => rfl), .nil⟩⟩
  · obtain ⟨vs, rfl, hB, hC, rfl⟩ := h
    rfl
  · obtain ⟨vs, rfl, hB, hC, rfl⟩ := h
    have hl := hB.lo
    have hh := hB.hi
    refine .ret (sd_forS (G := fun δ' S' => S' = [] ∧ ∃ z1 z2 z3 z4, δ' = [some (.lst (vs.map v2)), z1, z2, z3, z4, none, none]) (it_is (it_enum (ea_cons (ev_var rfl) ea_nil)) pair_vs) (for_nat vs.length (fun _ δ' S' => S' = [] ∧ ∃ z1 z2 z3 z4, δ' = [some (.lst (vs.map v2)), z1, z2, z3, z4, none, none]) ?_ ⟨rfl, none, none, none, none, rfl⟩) ?_)
    · rintro a δ S ha ⟨rfl, z1, z2, z3, z4, rfl⟩
      have := hB.b1 a; have := hB.b2 a; have := hB.b1 (a + 1); have := hB.b2 (a + 1)
      have d1 : Bd 100 (dif (vtx vs ((a : Int) + 1)) (vtx vs a)).1 := Bd.up (bdSub (a := 6) (b := 6)) (by decide)
      have d2 : Bd 100 (dif (vtx vs ((a : Int) + 1)) (vtx vs a)).2 := Bd.up (bdSub (a := 6) (b := 6)) (by decide)
      refine ⟨_, _, _, [], gd_tup (gds_cons gd_name (gds_cons gd_name gds_nil)), sd_seq (sd_asg (ev_call (ea_cons (ev_ixL (ev_var rfl) (ev_mod (ev_add (ev_var rfl) ev_int) (ev_cb (ea_cons (ev_var rfl) ea_nil) cd_lenL) (by rw [List.length_map]; omega)) (hB.atI _)) (ea_cons (ev_var rfl) ea_nil)) ri_difference)) (sd_seq (sd_asg (ev_lc (items := rngD 2 (vs.length - 2)) (it_is (it_rng2 (ea_cons ev_int (ea_cons (ev_cb (ea_cons (ev_var rfl) ea_nil) cd_lenL) ea_nil)) (by rw [List.length_map]; omega)) (by rw [List.length_map]; congr 1; omega)) (lc_mapG (i := 5) (xs := List.range (vs.length - 2)) (f := fun o : Nat => v2 (vtx vs ((a : Int) + (2 + (o : Int))))) (by decide) fun o ho => ev_ixL (ev_var rfl) (ev_mod (ev_add (ev_var rfl) (ev_var rfl)) (ev_cb (ea_cons (ev_var rfl) ea_nil) cd_lenL) (by rw [List.length_map]; omega)) (hB.atI _)) (by rw [rngD_length]; omega))) (sd_ifF (et_is (et_not (et_B (ev_cb (ea_cons (ev_lc (it_list (ev_var rfl)) (lc_mapG (i := 6) (xs := List.range (vs.length - 2)) (g := fun o : Nat => v2 (vtx vs ((a : Int) + (2 + (o : Int))))) (f := fun _ => .bl true) (by decide) fun o ho => ?_) (by rw [List.length_map, List.length_range]; omega)) ea_nil) cd_allT))) rfl) sd_next)), ⟨rfl, _, _, _, _, rfl⟩⟩
      · have := hB.b1 ((a : Int) + (2 + (o : Int))); have := hB.b2 ((a : Int) + (2 + (o : Int)))
        have f1 : Bd 100 (dif (vtx vs ((a : Int) + (2 + (o : Int)))) (vtx vs a)).1 := Bd.up (bdSub (a := 6) (b := 6)) (by decide)
        have f2 : Bd 100 (dif (vtx vs ((a : Int) + (2 + (o : Int)))) (vtx vs a)).2 := Bd.up (bdSub (a := 6) (b := 6)) (by decide)
        exact ev_is (ev_cmp (ev_call (ea_cons (ev_var rfl) (ea_cons (ev_call (ea_cons (ev_var rfl) (ea_cons (ev_var rfl) ea_nil)) ri_difference) ea_nil)) (ri_cross (d1.up (by decide)) (d2.up (by decide)) (f1.up (by decide)) (f2.up (by decide)))) ev_int) (congrArg Da.bl (decide_eq_true (hC a ha o (List.mem_range.mp ho))))
    · rintro δ S ⟨rfl, z1, z2, z3, z4, rfl⟩
      exact (sd_ret ev_bl)
abbrev s_require_vertices : Stmt := top 62
theorem sc_require_vertices : FnScope ["value", "vertex"] ["value"] (defScope s_require_vertices) := ⟨rfl, rfl, rfl, by decide +kernel, rfl, by decide +kernel, by decide +kernel⟩
def R_require_vertices (ds : List Da) (d : Da) : Prop := ∃ vs : List Ve, ds = [.lst (vs.map v2)] ∧ PolB vs ∧ Cvx vs ∧ d = .non
theorem ri_require_vertices {vs : List Ve} (h0 : PolB vs) (h1 : Cvx vs) : R_require_vertices [.lst (vs.map v2)] (.non) := ⟨vs, rfl, h0, h1, rfl⟩
theorem ok_require_vertices {f : Addr} {fd : FuncData}  (F : FnP K "require_vertices" "require_vertices" s_require_vertices f fd) (hm : mg "require_vertices" = some (.ref f)) (fr_isinstance : mg "isinstance" = none) (fr_list : mg "list" = none) (fr_tuple : mg "tuple" = none) (cs_MIN_VERTICES : ∃ u, mg "MIN_VERTICES" = some u ∧ RelV (.int 3) u) (fr_len : mg "len" = none) (cs_MAX_VERTICES : ∃ u, mg "MAX_VERTICES" = some u ∧ RelV (.int 6) u) (fr_all : mg "all" = none) (c_is_vertex : C8.Cal P w K mg base 3 "is_vertex" (Prm T R_is_vertex) []) (c_is_convex : C8.Cal P w K mg base 2 "is_convex" (Prm T R_is_convex) [])  : C8.Cal P w K mg base 4 "require_vertices" (Prm T R_require_vertices) [] := by
  refine ⟨⟨f, fd, _, [], fn_pure F sc_require_vertices (fun ds d h => ?_) fun cdv A outer s H E hr => ⟨_, (pss_cons (ps_if (PW.pt (pw_or (pt_not (pt_val (pe_callB call_isiT (by rfl) fr_isinstance (by decide +kernel) (pa_cons (pv 0) (pa_cons (pe_tup (pa_cons (pe_bltn (by rfl) fr_list (by decide +kernel) (v := .ty "list") rfl) (pa_cons (pe_bltn (by rfl) fr_tuple (by decide +kernel) (v := .ty "tuple") rfl) pa_nil))) pa_nil))))) (pw_or1 (pt_not (pt_chain op_le op_le (C8.pe_gc rfl cs_MIN_VERTICES) (pe_callB call_len_seq (by rfl) fr_len PySem.boot_len (pa_cons (pv 0) pa_nil)) (C8.pe_gc rfl cs_MAX_VERTICES)))))) (pss_one ps_never) pss_nil) (pss_cons (ps_if (pt_not (pt_val (pe_callB (cr_all (by rfl)) (by rfl) fr_all (by decide +kernel) (pa_cons (pe_lc (by rfl) sc_require_vertices.nd (pi_list (pv 0)) (blkOk_by (own := [("vertex", 1)]) (N := ["value", "vertex"]) (sc := defScope s_require_vertices) (by decide +kernel)) (fun _ _ _ _ _ => (pg_name (i := 1) sc_require_vertices.nd rfl (Or.inl rfl))) (fun _ _ _ _ _ => pts_nil) (fun _ _ _ _ _ => (C8.pe_c c_is_vertex hr (by decide) rfl (pa_cons (pv 1) pa_nil)))) pa_nil)))) (pss_one ps_never) pss_nil) (pss_one (ps_if (pt_not (pt_val (C8.pe_c c_is_convex hr (by decide) rfl (pa_cons (pv 0) pa_nil)))) (pss_one ps_never) pss_nil)))), fun ds d h => ?_⟩, hm, F.kp, F.bindsN (fun _ _ _ _ _ _ us hl => match us, hl with | [_], _ => rfl), .nil⟩⟩
  · obtain ⟨vs, rfl, hB, hC, rfl⟩ := h
    rfl
  · obtain ⟨vs, rfl, hB, hC, rfl⟩ := h
    have hl := hB.lo
    have hh := hB.hi
    exact .nx (sd_seq (sd_ifF (et_is (et_or (et_not (et_B (ev_isiLT (ev_var rfl)))) (fun _ => et_not (et_test (ev_chain ev_int (ev_cb (ea_cons (ev_var rfl) ea_nil) cd_lenL) ev_int)))) (by rw [List.length_map, decide_eq_true (by omega), decide_eq_true (by omega)]; rfl)) sd_next) (sd_seq (sd_ifF (et_is (et_not (et_B (ev_cb (ea_cons (ev_lc (it_list (ev_var rfl)) (lc_mapG (i := 1) (xs := vs) (g := v2) (f := fun _ => .bl true) (by decide) fun v hv => ev_call (ea_cons (ev_var rfl) ea_nil) (ri_is_vertex (hB.co v hv))) (by rw [List.length_map]; omega)) ea_nil) cd_allT))) rfl) sd_next) (sd_ifF (et_is (et_not (et_B (ev_call (ea_cons (ev_var rfl) ea_nil) (ri_is_convex hB hC)))) rfl) sd_next)))
abbrev s_PolygonU_initU : Stmt := inClass (top 63) 0
theorem sc_PolygonU_initU : FnScope ["self", "vertices", "first"] ["self", "vertices"] (defScope s_PolygonU_initU) := ⟨rfl, rfl, rfl, by decide +kernel, rfl, by decide +kernel, by decide +kernel⟩
def R_PolygonU_initU (ds : List Da) (fs : List (Str × Da)) : Prop := ∃ (v : Ve) (r : List Ve), ds = [.lst ((v :: r).map v2)] ∧ PolB (v :: r) ∧ Cvx (v :: r) ∧ leastV v r = v ∧ fs = ([("cycle", Da.lst ((v :: r).map v2))] : List (Str × Da))
theorem ok_PolygonU_initU {f : Addr} {fd : FuncData} {C_Polygon : Addr} (F : FnP K "__init__" "Polygon.__init__" s_PolygonU_initU f fd) (mk0 : Mk K C_Polygon f) (hm : mg "Polygon" = some (.ref C_Polygon)) (c_require_vertices : C8.Cal P w K mg base 4 "require_vertices" (Prm T R_require_vertices) []) (fr_list : mg "list" = none) (fr_min : mg "min" = none) (cl_Polygon : Cls K C_Polygon) (na_Polygon_cycle : NoAttr K C_Polygon "cycle")   : C8.Mak P w K mg base 5 "Polygon" C_Polygon (PrmI T C_Polygon R_PolygonU_initU) [] := by
  refine ⟨f, fd, _, _, mk0, fn_init F sc_PolygonU_initU (fun ds d h => ?_) fun cdv A outer s H E hr => ⟨_, (pss_cons (ps_expr (C8.pe_c c_require_vertices hr (by decide) rfl (pa_cons (pv 1) pa_nil))) (pss_cons (ps_set (i := 2) sc_PolygonU_initU.nd rfl (Or.inl rfl) (pe_bm PySem.F.plainAttrs_list PySem.F.slot_list_index PySem.F.type_list_index (mt_indexD (room65 hr)) (pe_callTy call_list_of (by rfl) fr_list (by decide +kernel) (pa_cons (pv 1) pa_nil)) (pa_cons (pe_callB (cr_minPy (by rfl) hr.units) (by rfl) fr_min (by decide +kernel) (pa_cons (pv 1) pa_nil)) pa_nil))) (pss_one (ps_fld (pv 0) (pe_op op_cat (pe_callTy call_list_of (by rfl) fr_list (by decide +kernel) (pa_cons (pe_slice sl_list (pv 1) (po_some (pv 2)) po_none) pa_nil)) (pe_callTy call_list_of (by rfl) fr_list (by decide +kernel) (pa_cons (pe_slice sl_list (pv 1) po_none (po_some (pv 2))) pa_nil))) rfl)))), fun x ds fs h => ?_⟩, hm, (F.bindsN (fun _ _ _ _ _ _ us hl => match us, hl with | [_, _], _ => rfl)), .nil⟩
  · obtain ⟨v, r, rfl, hB, hC, hv, rfl⟩ := h
    rfl
  · obtain ⟨v, r, rfl, hB, hC, hv, rfl⟩ := h
    have hh := hB.hi
    refine sdi_one (δ' := [some (.fn x), some (.lst ((v :: r).map v2)), some (.int (0 : Nat))]) (sd_seq (sd_drop (ev_call (ea_cons (ev_var rfl) ea_nil) (ri_require_vertices hB hC))) (sd_seq (sd_asg (ev_indexV (j := 0) (v := v) (vs := v :: r) (ev_cb (ea_cons (ev_var rfl) ea_nil) cd_listL) (ev_is (ev_cb (ea_cons (ev_var rfl) ea_nil) cd_minV) (by rw [hv])) ⟨rfl, fun m hm => absurd hm (Nat.not_lt_zero m)⟩)) (sd_fldN (ev_is (ev_catL (ev_cb (ea_cons (ev_slL (ev_var rfl) (eo_some (ev_var rfl)) eo_none) ea_nil) cd_listL) (ev_cb (ea_cons (ev_slL (ev_var rfl) eo_none (eo_some (ev_var rfl))) ea_nil) cd_listL) ?_) ?_) (ev_var rfl) lk0 cl_Polygon na_Polygon_cycle))) lk0
    · rw [show ((0 : Nat) : Int) = 0 from rfl, cutD_all, cutD_none, List.length_map]
      simp only [List.length_nil]
      omega
    · rw [show ((0 : Nat) : Int) = 0 from rfl, cutD_all, cutD_none, List.append_nil]
end
end O26
set_option Elab.async false
set_option linter.all false
set_option maxRecDepth 100000
set_option maxHeartbeats 4000000
namespace O26
open PySem PySem.Spec PyProof.Rows L2
theorem gcd_pos {v : Ve} (h : v ≠ (0, 0)) : 0 < Int.gcd v.1 v.2 := Int.gcd_pos_iff.mpr (by
  by_cases h1 : v.1 = 0
  · exact .inr fun h2 => h (Prod.ext h1 h2)
  · exact .inl h1)
theorem gcd_le {a b : Int} {n : Nat} (ha : a.natAbs ≤ n) (hb : b.natAbs ≤ n) : Int.gcd a b ≤ n := by
  by_cases h : a = 0
  · subst h
    rw [Int.gcd_zero_left]; exact hb
  · exact Nat.le_trans (Int.gcd_le_natAbs_left b h) ha
theorem for_each {T : Tb} {α : Type} {xs : List α} {g : TG} {tb : TS} {it : α → Da} (G : List α → List (Option Da) → Os → Prop) (step : ∀ done x δ S, x ∈ xs → done.length < xs.length → G done δ S → ∃ δ1 sl δ2 S2, GD T S g (it x) δ δ1 sl ∧ SD T S tb δ1 (.nx δ2 S2) ∧ G (done ++ [x]) δ2 S2) {δ : List (Option Da)} {S : Os} (h : G [] δ S) :
    ∃ δ' S', G xs δ' S' ∧ ForD T g tb S (xs.map it) δ (.nx δ' S') := by
  have go : ∀ ys done, done ++ ys = xs → ∀ δ S, G done δ S → ∃ δ' S', G xs δ' S' ∧ ForD T g tb S (ys.map it) δ (.nx δ' S') := by
    intro ys
    induction ys with
    | nil => intro done hk δ S h; rw [List.append_nil] at hk; subst hk; exact ⟨δ, S, h, .nil⟩
    | cons y ys ih =>
      intro done hk δ S h
      obtain ⟨δ1, sl, δ2, S2, h1, h2, h3⟩ := step done y δ S (by rw [← hk]; exact List.mem_append_right _ List.mem_cons_self) (by rw [← hk, List.length_append, List.length_cons]; omega) h
      obtain ⟨δ', S', k1, k2⟩ := ih (done ++ [y]) (by rw [List.append_assoc]; exact hk) δ2 S2 h3
      exact ⟨δ', S', k1, .next h1 h2 k2⟩
  exact go xs [] rfl δ S h
theorem ipow_le {m n : Nat} (h : m ≤ n) : (1000000000 : Int) ^ m ≤ 1000000000 ^ n := by
  have e : ∀ k : Nat, (1000000000 : Int) ^ k = ((1000000000 ^ k : Nat) : Int) := fun k => by
    induction k with
    | zero => rfl
    | succ k ih => rw [Int.pow_succ, Nat.pow_succ, ih, Int.natCast_mul]; rfl
  rw [e, e]
  exact Int.ofNat_le.mpr (Nat.pow_le_pow_right (by decide) h)
theorem lcm_step {r n : Int} (hr : 0 < r) (hn : 0 < n) : 0 < r / (Int.gcd r n : Nat) * n ∧ r / (Int.gcd r n : Nat) * n ≤ r * n := by
  have hg : (0 : Int) < (Int.gcd r n : Nat) := by
    have := Int.gcd_pos_iff.mpr (.inl (Int.ne_of_gt hr) : r ≠ 0 ∨ n ≠ 0)
    omega
  have h1 : r / (Int.gcd r n : Nat) * (Int.gcd r n : Nat) = r := Int.ediv_mul_cancel (Int.gcd_dvd_left ..)
  have h2 : 0 < r / (Int.gcd r n : Nat) := by
    rcases Int.lt_trichotomy 0 (r / (Int.gcd r n : Nat)) with h | h | h
    · exact h
    · rw [← h, Int.zero_mul] at h1; omega
    · have := Int.mul_neg_of_neg_of_pos h hg
      omega
  have h3 : r / (Int.gcd r n : Nat) ≤ r := by
    have := Int.mul_le_mul_of_nonneg_left (show (1 : Int) ≤ (Int.gcd r n : Nat) by omega) (Int.le_of_lt h2)
    omega
  exact ⟨Int.mul_pos h2 hn, Int.mul_le_mul_of_nonneg_right h3 (Int.le_of_lt hn)⟩
section
variable {P : Program} {w : World} {K : PySem.W.Frag} {mg : Str → Option Value} {base : Heap} {T : Tb}
abbrev s_primitive : Stmt := top 17
theorem sc_primitive : FnScope ["vector", "divisor"] ["vector"] (defScope s_primitive) := ⟨rfl, rfl, rfl, by decide +kernel, rfl, by decide +kernel, by decide +kernel⟩
def R_primitive (ds : List Da) (d : Da) : Prop := ∃ v : Ve, ds = [v2 v] ∧ v ≠ (0, 0) ∧ v.1.natAbs ≤ 1000 ∧ v.2.natAbs ≤ 1000 ∧ d = v2 (primV v)
theorem ri_primitive {v : Ve} (h0 : v ≠ (0, 0)) (h1 : v.1.natAbs ≤ 1000) (h2 : v.2.natAbs ≤ 1000) : R_primitive [v2 v] (v2 (primV v)) := ⟨v, rfl, h0, h1, h2, rfl⟩
theorem ok_primitive {f : Addr} {fd : FuncData}  (F : FnP K "primitive" "primitive" s_primitive f fd) (hm : mg "primitive" = some (.ref f)) (c_gcd : C8.Cal P w K mg base 1 "gcd" (Prm T R_gcd) [])  : C8.Cal P w K mg base 2 "primitive" (Prm T R_primitive) [] := by
  refine ⟨⟨f, fd, _, [], fn_pure F sc_primitive (fun ds d h => ?_) fun cdv A outer s H E hr => ⟨_, (pss_cons (ps_set (i := 1) sc_primitive.nd rfl (Or.inl rfl) (C8.pe_c c_gcd hr (by decide) rfl (pa_cons (pe_ix ix_tup (pv 0) pe_int (fun _ _ => rfl)) (pa_cons (pe_ix ix_tup (pv 0) pe_int (fun _ _ => rfl)) pa_nil)))) (pss_cons (ps_if (PW.pt (pw_or (pt_cmpR op_lt (pe_ix ix_tup (pv 0) pe_int (fun _ _ => rfl)) pe_int (nomark _)) (pw_or1 (PW.pt (pw_and (pt_cmpR op_eq (pe_ix ix_tup (pv 0) pe_int (fun _ _ => rfl)) pe_int (nomark _)) (pw_and1 (pt_cmpR op_lt (pe_ix ix_tup (pv 0) pe_int (fun _ _ => rfl)) pe_int (nomark _)))))))) (pss_one (ps_set (i := 1) sc_primitive.nd rfl (Or.inl rfl) (pe_un un_neg (pv 1)))) pss_nil) (pss_one (ps_ret (pe_tup (pa_cons (pe_op op_fdivN (pe_ix ix_tup (pv 0) pe_int (fun _ _ => rfl)) (pv 1)) (pa_cons (pe_op op_fdivN (pe_ix ix_tup (pv 0) pe_int (fun _ _ => rfl)) (pv 1)) pa_nil))))))), fun ds d h => ?_⟩, hm, F.kp, F.bindsN (fun _ _ _ _ _ _ us hl => match us, hl with | [_], _ => rfl), .nil⟩⟩
  · obtain ⟨v, rfl, h0, h1, h2, rfl⟩ := h
    rfl
  · obtain ⟨v, rfl, h0, h1, h2, rfl⟩ := h
    have hg := gcd_pos h0
    have hl := gcd_le h1 h2
    have c : ∀ i : Int, CDivN i (if v.2 < 0 ∨ (v.2 = 0 ∧ v.1 < 0) then -((Int.gcd v.1 v.2 : Nat) : Int) else ((Int.gcd v.1 v.2 : Nat) : Int)) := fun i => by
      split <;> exact ⟨by omega, by omega⟩
    refine .ret (sd_seq (sd_asg (ev_call (ea_cons (ev_ixT (ev_var rfl) ev_int rfl) (ea_cons (ev_ixT (ev_var rfl) ev_int rfl) ea_nil)) ri_gcd)) ?_)
    unfold primV
    refine sd_seq (δ1 := [some (v2 v), some (.int (if v.2 < 0 ∨ (v.2 = 0 ∧ v.1 < 0) then -((Int.gcd v.1 v.2 : Nat) : Int) else ((Int.gcd v.1 v.2 : Nat) : Int)))]) (S1 := []) ?_ (sd_ret (ev_tup (ea_cons (ev_fdivN (ev_ixT (ev_var rfl) ev_int rfl) (ev_var rfl) (c _)) (ea_cons (ev_fdivN (ev_ixT (ev_var rfl) ev_int rfl) (ev_var rfl) (c _)) ea_nil))))
    by_cases hc : v.2 < 0 ∨ (v.2 = 0 ∧ v.1 < 0)
    · rw [if_pos hc]
      refine sd_ifT (et_is (et_or (et_test (ev_cmp (ev_ixT (ev_var rfl) ev_int rfl) ev_int)) (fun _ => (et_and (et_test (ev_eqI (ev_ixT (ev_var rfl) ev_int rfl) ev_int)) (fun _ => (et_test (ev_cmp (ev_ixT (ev_var rfl) ev_int rfl) ev_int)))))) ?_) (sd_asg (ev_neg (ev_var rfl)))
      rcases hc with h | ⟨h, k⟩
      · rw [decide_eq_true h]; rfl
      · rw [decide_eq_true h, decide_eq_true k]; simp
    · rw [if_neg hc]
      refine sd_ifF (et_is (et_or (et_test (ev_cmp (ev_ixT (ev_var rfl) ev_int rfl) ev_int)) (fun _ => (et_and (et_test (ev_eqI (ev_ixT (ev_var rfl) ev_int rfl) ev_int)) (fun _ => (et_test (ev_cmp (ev_ixT (ev_var rfl) ev_int rfl) ev_int)))))) ?_) sd_next
      rw [not_or] at hc
      rw [decide_eq_false hc.1, Bool.false_or]
      by_cases h : v.2 = 0
      · rw [decide_eq_false (fun k => hc.2 ⟨h, k⟩), Bool.and_false]
      · rw [decide_eq_false h, Bool.false_and]
abbrev s_lcm : Stmt := top 12
theorem sc_lcm : FnScope ["numbers", "result", "number"] ["numbers"] (defScope s_lcm) := ⟨rfl, rfl, rfl, by decide +kernel, rfl, by decide +kernel, by decide +kernel⟩
def R_lcm (ds : List Da) (d : Da) : Prop := ∃ ns : List Int, ds = [.lst (ns.map Da.int)] ∧ ns.length ≤ 8 ∧ (∀ n ∈ ns, 0 < n ∧ n ≤ 1000000000) ∧ d = .int (lcmL ns)
theorem ri_lcm {ns : List Int} (h0 : ns.length ≤ 8) (h1 : (∀ n ∈ ns, 0 < n ∧ n ≤ 1000000000)) : R_lcm [.lst (ns.map Da.int)] (.int (lcmL ns)) := ⟨ns, rfl, h0, h1, rfl⟩
theorem ok_lcm {f : Addr} {fd : FuncData}  (F : FnP K "lcm" "lcm" s_lcm f fd) (hm : mg "lcm" = some (.ref f)) (c_gcd : C8.Cal P w K mg base 1 "gcd" (Prm T R_gcd) [])  : C8.Cal P w K mg base 2 "lcm" (Prm T R_lcm) [] := by
  refine ⟨⟨f, fd, _, [], fn_pure F sc_lcm (fun ds d h => ?_) fun cdv A outer s H E hr => ⟨_, (pss_cons (ps_set (i := 1) sc_lcm.nd rfl (Or.inl rfl) pe_int) (pss_cons (ps_for PassesOwn.never rfl (pi_list (pv 0)) (pg_name (i := 2) sc_lcm.nd rfl (Or.inl rfl)) (pss_one (ps_set (i := 1) sc_lcm.nd rfl (Or.inl rfl) (pe_op op_mulW (pe_op op_fdivW (pv 1) (C8.pe_c c_gcd hr (by decide) rfl (pa_cons (pv 1) (pa_cons (pv 2) pa_nil)))) (pv 2))))) (pss_one (ps_ret (pv 1))))), fun ds d h => ?_⟩, hm, F.kp, F.bindsN (fun _ _ _ _ _ _ us hl => match us, hl with | [_], _ => rfl), .nil⟩⟩
  · obtain ⟨ns, rfl, hl, hp, rfl⟩ := h
    rfl
  · obtain ⟨ns, rfl, hl, hp, rfl⟩ := h
    have fin : ∀ done : List Int, done.length ≤ 8 → lcmL done ≤ 1000000000 ^ done.length → 0 < lcmL done → Bd 300 (lcmL done) := fun done h1 h2 h3 => ⟨by
      have h4 : (1000000000 : Int) ^ done.length ≤ 1000000000 ^ 8 := ipow_le h1
      have h5 : (1000000000 : Int) ^ 8 < 2 ^ 300 := by decide +kernel
      have h6 : ((lcmL done).natAbs : Int) < ((2 ^ 300 : Nat) : Int) := by
        have : ((2 ^ 300 : Nat) : Int) = 2 ^ 300 := by decide +kernel
        omega
      exact Int.ofNat_lt.mp h6⟩
    refine .ret (sd_seq (sd_asg ev_int) (sd_forS (G := fun δ' S' => S' = [] ∧ ∃ z, δ' = [some (.lst (ns.map Da.int)), some (.int (lcmL ns)), z]) (it_list (ev_var rfl)) (for_each (fun done δ' S' => lcmL done ≤ 1000000000 ^ done.length ∧ 0 < lcmL done ∧ S' = [] ∧ ∃ z, δ' = [some (.lst (ns.map Da.int)), some (.int (lcmL done)), z]) ?_ ⟨by decide, by decide, rfl, none, rfl⟩ |> fun ⟨δ', S', h1, h2⟩ => ⟨δ', S', h1.2.2, h2⟩) ?_))
    · rintro done n δ S hn hd ⟨b1, b2, rfl, z, rfl⟩
      have hnn := hp n hn
      have hb := fin done (by omega) b1 b2
      have e : lcmL (done ++ [n]) = lcmL done / (Int.gcd (lcmL done) n : Nat) * n := by unfold lcmL; rw [List.foldl_append]; rfl
      have hs := lcm_step b2 hnn.1
      have hg : (0 : Int) < (Int.gcd (lcmL done) n : Nat) := by
        have := Int.gcd_pos_iff.mpr (.inl (Int.ne_of_gt b2) : lcmL done ≠ 0 ∨ n ≠ 0)
        omega
      have hgl : ((Int.gcd (lcmL done) n : Nat) : Int).natAbs < 2 ^ 300 := by
        have := Int.gcd_le_natAbs_left n (Int.ne_of_gt b2)
        exact Nat.lt_of_le_of_lt this hb.out
      have hq : Bd 300 (lcmL done / (Int.gcd (lcmL done) n : Nat)) := ⟨by
        have h0 := hb.out
        have := Int.natAbs_ediv_le_natAbs (lcmL done) ((Int.gcd (lcmL done) n : Nat) : Int)
        omega⟩
      have hnb : Bd 30 n := .of_le 1000000000 (by omega) hnn.2
      refine ⟨_, _, _, [], gd_name, sd_asg (ev_mulB (ev_fdiv (ev_var rfl) (ev_call (ea_cons (ev_var rfl) (ea_cons (ev_var rfl) ea_nil)) ri_gcd) (wide_div (b := 300) hg hgl (by decide) (by decide))) (ev_var rfl)), ?_, ?_, rfl, some (.int n), ?_⟩
      · rw [e, List.length_append, List.length_singleton, Int.pow_succ]
        exact Int.le_trans hs.2 (Int.mul_le_mul b1 hnn.2 (Int.le_of_lt hnn.1) (Int.le_of_lt (Int.pow_pos (by decide))))
      · rw [e]; exact hs.1
      · rw [e]; rfl
    · rintro δ S ⟨rfl, z, rfl⟩
      exact (sd_ret (ev_var rfl))
end
end O26
set_option Elab.async false
set_option linter.all false
set_option maxRecDepth 100000
set_option maxHeartbeats 4000000
namespace O26
open PySem PySem.Spec PyProof.Rows L2
theorem maxI : ∀ (x : Int) (xs : List Int), ∃ m, (m ∈ x :: xs ∧ ∀ y ∈ x :: xs, y ≤ m)
  | x, [] => ⟨x, List.mem_cons_self, fun y hy => by rw [List.mem_singleton.mp hy]; exact Int.le_refl _⟩
  | x, z :: xs => by
    obtain ⟨m, h1, h2⟩ := maxI z xs
    by_cases h : m ≤ x
    · exact ⟨x, List.mem_cons_self, fun y hy => by
        rcases List.mem_cons.mp hy with e | e
        · rw [e]; exact Int.le_refl _
        · exact Int.le_trans (h2 y e) h⟩
    · exact ⟨m, List.mem_cons_of_mem _ h1, fun y hy => by
        rcases List.mem_cons.mp hy with e | e
        · rw [e]; omega
        · exact h2 y e⟩
theorem ix_spec {p : Int → Bool} {l : List Int} {M : Int} (hM : M ∈ l) (h1 : p M = true) (h2 : ∀ x ∈ l, p x = true → x = M) : l[(l.findIdx? p).getD 0]? = some M ∧ ∀ m, m < (l.findIdx? p).getD 0 → l[m]? ≠ some M := by
  cases e : l.findIdx? p with
  | none =>
    rw [List.findIdx?_eq_none_iff] at e
    rw [e M hM] at h1; cases h1
  | some i =>
    rw [List.findIdx?_eq_some_iff_getElem] at e
    obtain ⟨hi, ha, hb⟩ := e
    have e1 := h2 _ (List.getElem_mem hi) ha
    refine ⟨by show l[i]? = _; rw [List.getElem?_eq_getElem hi, e1], fun m hm hk => ?_⟩
    have hm : m < i := hm
    have hml : m < l.length := by omega
    rw [List.getElem?_eq_getElem hml] at hk
    have := hb m hm
    rw [Option.some.inj hk, h1] at this
    exact this rfl
theorem maxIx_spec {l : List Int} (h : l ≠ []) : ∃ M, (M ∈ l ∧ ∀ y ∈ l, y ≤ M) ∧ (l[maxIx l]? = some M ∧ ∀ m, m < maxIx l → l[m]? ≠ some M) := by
  cases l with
  | nil => exact absurd rfl h
  | cons x xs =>
    obtain ⟨M, h1, h2⟩ := maxI x xs
    refine ⟨M, ⟨h1, h2⟩, ix_spec h1 (List.all_eq_true.mpr fun y hy => decide_eq_true (h2 y hy)) fun z hz hp => ?_⟩
    have := of_decide_eq_true (List.all_eq_true.mp hp M h1)
    exact Int.le_antisymm (h2 z hz) this
theorem minIx_spec {l : List Int} (h : l ≠ []) : ∃ M, (M ∈ l ∧ ∀ y ∈ l, M ≤ y) ∧ (l[minIx l]? = some M ∧ ∀ m, m < minIx l → l[m]? ≠ some M) := by
  cases l with
  | nil => exact absurd rfl h
  | cons x xs =>
    obtain ⟨M, h1, h2⟩ := minI x xs
    refine ⟨M, ⟨h1, h2⟩, ix_spec h1 (List.all_eq_true.mpr fun y hy => decide_eq_true (h2 y hy)) fun z hz hp => ?_⟩
    have := of_decide_eq_true (List.all_eq_true.mp hp M h1)
    exact Int.le_antisymm this (h2 z hz)
theorem ev_viewI {T : Tb} {S : Os} {δ : List (Option Da)} {te : TE} {p C : Addr} {fs : List (Str × Da)} {i : Nat} {n : Int} (hS : S.lookup p = some (.ins C fs)) (hi : δ[i]? = some (some (.fn p))) (h : EvD T (unown S p) te (δ.set i (some (.ins C fs))) (.int n)) : EvD T S te δ (.int n) := fun F H σ Q s e q => by
  obtain ⟨o, h1, h2, ⟨dx, us, rfl, h3⟩, g, k⟩ := view_core s hS
  refine h _ H σ Q g ((e.mono (same_pub h2)).view (o := .ins C dx us) hi (.ins upd_same (h3.mono (same_pub h2)))) fun v F1 H1 g1 r1 => ?_
  cases r1
  exact q _ _ H1 (k F1 H1 g1) (.int n)
theorem atI_getD {α : Type} {l : List α} {f : α → Da} {i : Nat} {d0 : α} (h : i < l.length) : atI (l.map f) ((i : Nat) : Int) = some (f (l.getD i d0)) := atI_nat (by
  rw [List.getElem?_map, List.getD_eq_getElem?_getD, List.getElem?_eq_getElem h]; rfl)
theorem getD_mem {α : Type} {l : List α} {i : Nat} {d0 : α} (h : i < l.length) : l.getD i d0 ∈ l := by
  rw [List.getD_eq_getElem?_getD, List.getElem?_eq_getElem h]
  exact List.getElem_mem h
theorem zip_takes {α β : Type} : ∀ (l : List α) (m : List β), (l.take m.length).zip (m.take l.length) = l.zip m
  | [], _ => by simp
  | _ :: _, [] => by simp
  | a :: l, b :: m => by
    rw [List.length_cons, List.length_cons, List.take_succ_cons, List.take_succ_cons, List.zip_cons_cons, List.zip_cons_cons, zip_takes l m]
theorem pair_maps {α β : Type} {l : List α} {m : List β} {f : α → Da} {g : β → Da} : pairD ((l.map f).take (m.map g).length) ((m.map g).take (l.map f).length) = (l.zip m).map fun x => .tup [f x.1, g x.2] := by
  unfold pairD
  rw [zip_takes, List.zip_map, List.map_map]
  rfl
theorem cut1 {l : List Da} : cutD l (some 1) none = l.tail := by
  cases l with
  | nil => rfl
  | cons a l =>
    unfold cutD HT.sIx
    simp [List.take_of_length_le]
abbrev fpD (x : Nat × Nat × Ve) : Da := .tup [.int (x.1 : Nat), .int (x.2.1 : Nat), v2 x.2.2]
theorem bd200 {i : Int} (h : i.natAbs ≤ 200) : Bd 8 i := ⟨Nat.lt_of_le_of_lt h (by decide)⟩
abbrev farF3 (vs : List Ve) : List (Str × Da) := [("vectors", .lst ((fVec vs).map v2)), ("pairs", .lst ((fPairs vs).map fpD)), ("widths", .lst ((fWid vs).map Da.int))]
section
variable {P : Program} {w : World} {K : PySem.W.Frag} {mg : Str → Option Value} {base : Heap} {T : Tb}
abbrev s_far_pair : Stmt := top 19
theorem sc_far_pair : FnScope ["polygon", "first", "second", "view", "values", "near", "far", "x", "y", "vertex"] ["polygon", "first", "second"] (defScope s_far_pair) := ⟨rfl, rfl, rfl, by decide +kernel, rfl, by decide +kernel, by decide +kernel⟩
def R_far_pair (C_Polygon : Addr) (ds : List Da) (d : Da) : Prop := ∃ (vs : List Ve) (a b : Ve), ds = [poly C_Polygon vs, v2 a, v2 b] ∧ PolB vs ∧ (a.1.natAbs ≤ 200 ∧ a.2.natAbs ≤ 200) ∧ (b.1.natAbs ≤ 200 ∧ b.2.natAbs ≤ 200) ∧ d = fpD (farP vs a b)
theorem ri_far_pair {C_Polygon : Addr} {vs : List Ve} {a b : Ve} (h0 : PolB vs) (h1 : (a.1.natAbs ≤ 200 ∧ a.2.natAbs ≤ 200)) (h2 : (b.1.natAbs ≤ 200 ∧ b.2.natAbs ≤ 200)) : (R_far_pair C_Polygon) [poly C_Polygon vs, v2 a, v2 b] (fpD (farP vs a b)) := ⟨vs, a, b, rfl, h0, h1, h2, rfl⟩
theorem ok_far_pair {f : Addr} {fd : FuncData} {C_Polygon : Addr} (F : FnP K "far_pair" "far_pair" s_far_pair f fd) (hm : mg "far_pair" = some (.ref f)) (m_Polygon_vertices : C8.Met P w K mg base 1 C_Polygon "vertices" (Prm T (R_Polygon_vertices C_Polygon)) []) (c_cross : C8.Cal P w K mg base 1 "cross" (Prm T R_cross) []) (fr_max : mg "max" = none) (fr_min : mg "min" = none) (m_Polygon_vertex : C8.Met P w K mg base 1 C_Polygon "vertex" (Prm T (R_Polygon_vertex C_Polygon)) []) (c_difference : C8.Cal P w K mg base 1 "difference" (Prm T R_difference) [])  : C8.Cal P w K mg base 2 "far_pair" (Prm T (R_far_pair C_Polygon)) [] := by
  refine ⟨⟨f, fd, _, [], fn_pure F sc_far_pair (fun ds d h => ?_) fun cdv A outer s H E hr => ⟨_, (pss_cons (ps_set (i := 3) sc_far_pair.nd rfl (Or.inr rfl) (pe_tup (pa_cons (pe_op op_add (pe_ix ix_tup (pv 1) pe_int (fun _ _ => rfl)) (pe_ix ix_tup (pv 2) pe_int (fun _ _ => rfl))) (pa_cons (pe_op op_add (pe_ix ix_tup (pv 1) pe_int (fun _ _ => rfl)) (pe_ix ix_tup (pv 2) pe_int (fun _ _ => rfl))) pa_nil)))) (pss_cons (ps_setLc (i := 4) (by rfl) sc_far_pair.nd rfl rfl (sw_true rfl rfl rfl (by decide +kernel)) (pi_list (C8.pe_mt0 m_Polygon_vertices hr (by decide) (pv 0))) (blkOk_by (own := [("vertex", 9)]) (N := ["polygon", "first", "second", "view", "values", "near", "far", "x", "y", "vertex"]) (sc := defScope s_far_pair) (by decide +kernel)) (fun _ _ _ _ _ => (pg_name (i := 9) sc_far_pair.nd rfl (Or.inl rfl))) (fun _ _ _ _ _ => pts_nil) (fun _ _ _ _ _ => (C8.pe_c c_cross hr (by decide) rfl (pa_cons (pv 3) (pa_cons (pv 9) pa_nil))))) (pss_cons (ps_par (i := 5) (j := 6) (by rfl) sc_far_pair.nd rfl rfl (by decide) rfl rfl (pa_cons (pe_bm PySem.F.plainAttrs_list PySem.F.slot_list_index PySem.F.type_list_index mt_index (pv 4) (pa_cons (pe_callB (cr_max (by rfl)) (by rfl) fr_max (by decide +kernel) (pa_cons (pv 4) pa_nil)) pa_nil)) (pa_cons (pe_bm PySem.F.plainAttrs_list PySem.F.slot_list_index PySem.F.type_list_index mt_index (pv 4) (pa_cons (pe_callB (cr_min (by rfl)) (by rfl) fr_min (by decide +kernel) (pa_cons (pv 4) pa_nil)) pa_nil)) pa_nil)) (by rfl)) (pss_cons (ps_asg (C8.pe_c c_difference hr (by decide) rfl (pa_cons (C8.pe_mt m_Polygon_vertex hr (by decide) (pv 0) (pa_cons (pv 6) pa_nil)) (pa_cons (C8.pe_mt m_Polygon_vertex hr (by decide) (pv 0) (pa_cons (pv 5) pa_nil)) pa_nil))) (pg_tup (by rfl) (pgs_cons (pg_name (i := 7) sc_far_pair.nd rfl (Or.inl rfl)) (pgs_cons (pg_name (i := 8) sc_far_pair.nd rfl (Or.inl rfl)) pgs_nil)))) (pss_one (ps_ret (pe_tup (pa_cons (pv 5) (pa_cons (pv 6) (pa_cons (pe_tup (pa_cons (pe_op op_mulW pe_int (pv 7)) (pa_cons (pe_op op_mulW pe_int (pv 8)) pa_nil))) pa_nil)))))))))), fun ds d h => ?_⟩, hm, F.kp, F.bindsN (fun _ _ _ _ _ _ us hl => match us, hl with | [_, _, _], _ => rfl), .nil⟩⟩
  · obtain ⟨vs, a, b, rfl, hB, ha, hb, rfl⟩ := h
    rfl
  · obtain ⟨vs, a, b, rfl, hB, ha, hb, rfl⟩ := h
    have hl := hB.lo
    have hh := hB.hi
    have x1 := bd200 ha.1; have x2 := bd200 ha.2; have y1 := bd200 hb.1; have y2 := bd200 hb.2
    have hne : farVals vs a b ≠ [] := fun z => by
      have := congrArg List.length z
      unfold farVals at this
      rw [List.length_map, List.length_nil] at this
      omega
    obtain ⟨M, hM, iM⟩ := maxIx_spec hne
    obtain ⟨N, hN, iN⟩ := minIx_spec hne
    have := hB.b1 (maxIx (farVals vs a b) : Nat); have := hB.b2 (maxIx (farVals vs a b) : Nat); have := hB.b1 (minIx (farVals vs a b) : Nat); have := hB.b2 (minIx (farVals vs a b) : Nat)
    exact .ret (sd_seq (sd_asg (ev_tup (ea_cons (ev_add (ev_ixT (ev_var rfl) ev_int rfl) (ev_ixT (ev_var rfl) ev_int rfl)) (ea_cons (ev_add (ev_ixT (ev_var rfl) ev_int rfl) (ev_ixT (ev_var rfl) ev_int rfl)) ea_nil)))) (sd_seq (sd_asg (x := .lst ((farVals vs a b).map Da.int)) (ev_is (ev_lc (it_list (ev_meth (ev_var rfl) ea_nil (ri_Polygon_vertices hB))) (lc_mapG (i := 9) (xs := vs) (g := v2) (f := fun v => .int (crs (a.1 + b.1, a.2 + b.2) v)) (by decide) fun v hv => ev_call (ea_cons (ev_var rfl) (ea_cons (ev_var rfl) ea_nil)) (ri_cross (Bd.up (bdAdd (x := x1) (y := y1)) (by decide)) (Bd.up (bdAdd (x := x2) (y := y2)) (by decide)) ((bd60 (hB.co v hv).1).up (by decide)) ((bd60 (hB.co v hv).2).up (by decide)))) (by rw [List.length_map]; omega)) (by unfold farVals; rw [List.map_map]; rfl))) (sd_seq (sd_par (ea_cons (ev_index (ns := farVals vs a b) (ev_var rfl) (ev_cb (ea_cons (ev_var rfl) ea_nil) (cd_max hM)) iM) (ea_cons (ev_index (ns := farVals vs a b) (ev_var rfl) (ev_cb (ea_cons (ev_var rfl) ea_nil) (cd_min hN)) iN) ea_nil))) (sd_seq (sd_asgG (ev_call (ea_cons (ev_meth (ev_var rfl) (ea_cons (ev_var rfl) ea_nil) (ri_Polygon_vertex hB)) (ea_cons (ev_meth (ev_var rfl) (ea_cons (ev_var rfl) ea_nil) (ri_Polygon_vertex hB)) ea_nil)) ri_difference) (gd_tup (gds_cons gd_name (gds_cons gd_name gds_nil)))) (sd_ret (ev_tup (ea_cons (ev_var rfl) (ea_cons (ev_var rfl) (ea_cons (ev_tup (ea_cons (ev_mulB ev_int (ev_var rfl)) (ea_cons (ev_mulB ev_int (ev_var rfl)) ea_nil))) ea_nil)))))))))
abbrev s_FarField_turn : Stmt := inClass (top 20) 1
theorem sc_FarField_turn : FnScope ["self", "index"] ["self", "index"] (defScope s_FarField_turn) := ⟨rfl, rfl, rfl, by decide +kernel, rfl, by decide +kernel, by decide +kernel⟩
def R_FarField_turn (C_FarField : Addr) (ds : List Da) (d : Da) : Prop := ∃ (vs : List Ve) (i : Nat), ds = [.ins C_FarField (farF3 vs), .int (i : Nat)] ∧ FarOk vs ∧ i < (dirs vs).length ∧ d = .int (fTurn vs i)
theorem ri_FarField_turn {C_FarField : Addr} {vs : List Ve} {i : Nat} (h0 : FarOk vs) (h1 : i < (dirs vs).length) : (R_FarField_turn C_FarField) [.ins C_FarField (farF3 vs), .int (i : Nat)] (.int (fTurn vs i)) := ⟨vs, i, rfl, h0, h1, rfl⟩
theorem ok_FarField_turn {f : Addr} {fd : FuncData} {C_FarField : Addr} (F : FnP K "turn" "FarField.turn" s_FarField_turn f fd) (cl0 : Cls K C_FarField) (me0 : Meth K C_FarField "turn" f) (cl_FarField : Cls K C_FarField) (na_FarField_vectors : NoAttr K C_FarField "vectors") (c_cross : C8.Cal P w K mg base 1 "cross" (Prm T R_cross) [])  : C8.Met P w K mg base 2 C_FarField "turn" (Prm T (R_FarField_turn C_FarField)) [] := by
  refine ⟨⟨f, fd, _, [], cl0, me0, fn_pure F sc_FarField_turn (fun ds d h => ?_) fun cdv A outer s H E hr => ⟨_, (pss_one (ps_ret (C8.pe_c c_cross hr (by decide) rfl (pa_cons (pe_ix ix_list (pe_fld (pv 0) rfl) (pv 1) (fun _ _ => rfl)) (pa_cons (pe_ix ix_list (pe_fld (pv 0) rfl) (pe_op op_add (pv 1) pe_int) (fun _ _ => rfl)) pa_nil))))), fun ds d h => ?_⟩, F.bindsN (fun _ _ _ _ _ _ us hl => match us, hl with | [_, _], _ => rfl), .nil⟩⟩
  · obtain ⟨vs, i, rfl, hF, hi, rfl⟩ := h
    rfl
  · obtain ⟨vs, i, rfl, hF, hi, rfl⟩ := h
    have hl := hF.lenV
    have v1 := hF.vec _ (getD_mem (d0 := (0, 0)) (show i < (fVec vs).length by omega)); have v2' := hF.vec _ (getD_mem (d0 := (0, 0)) (show i + 1 < (fVec vs).length by omega))
    exact .ret (sd_ret (ev_call (ea_cons (ev_ixL (ev_fld (ev_var rfl) cl_FarField na_FarField_vectors rfl) (ev_var rfl) (atI_getD (d0 := (0, 0)) (by omega))) (ea_cons (ev_ixL (ev_fld (ev_var rfl) cl_FarField na_FarField_vectors rfl) (ev_is (ev_add (ev_var rfl) ev_int) (congrArg Da.int (by omega : ((i : Nat) : Int) + 1 = ((i + 1 : Nat) : Int)))) (atI_getD (d0 := (0, 0)) (by omega))) ea_nil)) (ri_cross ((bd200 v1.1).up (by decide)) ((bd200 v1.2).up (by decide)) ((bd200 v2'.1).up (by decide)) ((bd200 v2'.2).up (by decide)))))
abbrev s_FarField_needed_factor : Stmt := inClass (top 20) 2
theorem sc_FarField_needed_factor : FnScope ["self", "index", "product"] ["self", "index"] (defScope s_FarField_needed_factor) := ⟨rfl, rfl, rfl, by decide +kernel, rfl, by decide +kernel, by decide +kernel⟩
def R_FarField_needed_factor (C_FarField : Addr) (ds : List Da) (d : Da) : Prop := ∃ (vs : List Ve) (i : Nat), ds = [.ins C_FarField (farF3 vs), .int (i : Nat)] ∧ FarOk vs ∧ i < (dirs vs).length ∧ d = .int (fNeed vs i)
theorem ri_FarField_needed_factor {C_FarField : Addr} {vs : List Ve} {i : Nat} (h0 : FarOk vs) (h1 : i < (dirs vs).length) : (R_FarField_needed_factor C_FarField) [.ins C_FarField (farF3 vs), .int (i : Nat)] (.int (fNeed vs i)) := ⟨vs, i, rfl, h0, h1, rfl⟩
theorem ok_FarField_needed_factor {f : Addr} {fd : FuncData} {C_FarField : Addr} (F : FnP K "needed_factor" "FarField.needed_factor" s_FarField_needed_factor f fd) (cl0 : Cls K C_FarField) (me0 : Meth K C_FarField "needed_factor" f) (cl_FarField : Cls K C_FarField) (na_FarField_widths : NoAttr K C_FarField "widths") (m_FarField_turn : C8.Met P w K mg base 2 C_FarField "turn" (Prm T (R_FarField_turn C_FarField)) []) (c_gcd : C8.Cal P w K mg base 1 "gcd" (Prm T R_gcd) [])  : C8.Met P w K mg base 3 C_FarField "needed_factor" (Prm T (R_FarField_needed_factor C_FarField)) [] := by
  refine ⟨⟨f, fd, _, [], cl0, me0, fn_pure F sc_FarField_needed_factor (fun ds d h => ?_) fun cdv A outer s H E hr => ⟨_, (pss_cons (ps_set (i := 2) sc_FarField_needed_factor.nd rfl (Or.inl rfl) (pe_op op_mulW (pe_ix ix_list (pe_fld (pv 0) rfl) (pv 1) (fun _ _ => rfl)) (pe_ix ix_list (pe_fld (pv 0) rfl) (pe_op op_add (pv 1) pe_int) (fun _ _ => rfl)))) (pss_one (ps_ret (pe_op op_fdivW (pv 2) (C8.pe_c c_gcd hr (by decide) rfl (pa_cons (pv 2) (pa_cons (C8.pe_mt m_FarField_turn hr (by decide) (pv 0) (pa_cons (pv 1) pa_nil)) pa_nil))))))), fun ds d h => ?_⟩, F.bindsN (fun _ _ _ _ _ _ us hl => match us, hl with | [_, _], _ => rfl), .nil⟩⟩
  · obtain ⟨vs, i, rfl, hF, hi, rfl⟩ := h
    rfl
  · obtain ⟨vs, i, rfl, hF, hi, rfl⟩ := h
    have hl := hF.lenW
    have w1 : Bd 20 ((fWid vs).getD i 0) := ⟨Nat.lt_of_le_of_lt (hF.wid _ (getD_mem (show i < (fWid vs).length by omega))) (by decide)⟩
    have w2 : Bd 20 ((fWid vs).getD (i + 1) 0) := ⟨Nat.lt_of_le_of_lt (hF.wid _ (getD_mem (show i + 1 < (fWid vs).length by omega))) (by decide)⟩
    have hn := (hF.need i hi).1.1
    have ht := (hF.need i hi).1.2
    have hg : (0 : Int) < (Int.gcd ((fWid vs).getD i 0 * (fWid vs).getD (i + 1) 0) (fTurn vs i) : Nat) := by
      have := Int.gcd_pos_iff.mpr (.inr ht : (fWid vs).getD i 0 * (fWid vs).getD (i + 1) 0 ≠ 0 ∨ fTurn vs i ≠ 0)
      omega
    have hp : Bd 40 ((fWid vs).getD i 0 * (fWid vs).getD (i + 1) 0) := bdMul (a := 20) (b := 20)
    have hgl : ((Int.gcd ((fWid vs).getD i 0 * (fWid vs).getD (i + 1) 0) (fTurn vs i) : Nat) : Int).natAbs < 2 ^ 40 := by
      by_cases h0 : (fWid vs).getD i 0 * (fWid vs).getD (i + 1) 0 = 0
      · unfold fNeed at hn
        rw [h0, Int.zero_ediv] at hn
        omega
      · exact Nat.lt_of_le_of_lt (Int.gcd_le_natAbs_left _ h0) hp.out
    exact .ret (sd_seq (sd_asg (ev_mulB (ev_ixL (ev_fld (ev_var rfl) cl_FarField na_FarField_widths rfl) (ev_var rfl) (atI_getD (d0 := 0) (by omega))) (ev_ixL (ev_fld (ev_var rfl) cl_FarField na_FarField_widths rfl) (ev_is (ev_add (ev_var rfl) ev_int) (congrArg Da.int (by omega : ((i : Nat) : Int) + 1 = ((i + 1 : Nat) : Int)))) (atI_getD (d0 := 0) (by omega))))) (sd_ret (ev_fdiv (ev_var rfl) (ev_call (ea_cons (ev_var rfl) (ea_cons (ev_meth (ev_var rfl) (ea_cons (ev_var rfl) ea_nil) (ri_FarField_turn hF hi)) ea_nil)) ri_gcd) (wide_div (b := 40) hg hgl (by decide) (by decide)))))
end
end O26
set_option Elab.async false
set_option linter.all false
set_option maxRecDepth 100000
set_option maxHeartbeats 4000000
namespace O26
open PySem PySem.Spec PyProof.Rows L2
def R_directions (C_Polygon : Addr) (ds : List Da) (d : Da) : Prop := ∃ vs : List Ve, ds = [poly C_Polygon vs] ∧ PolB vs ∧ FarOk vs ∧ d = .lst ((dirs vs).map v2)
theorem ri_directions {C_Polygon : Addr} {vs : List Ve} (h0 : PolB vs) (h1 : FarOk vs) : R_directions C_Polygon [poly C_Polygon vs] (.lst ((dirs vs).map v2)) := ⟨vs, rfl, h0, h1, rfl⟩
theorem lst_is {T : Tb} {S : Os} {te : TE} {δ : List (Option Da)} {l m : List Da} (h : EvD T S te δ (.lst l)) (e : l = m) : EvD T S te δ (.lst m) := e ▸ h
abbrev farF (vs : List Ve) : List (Str × Da) := [("vectors", .lst ((fVec vs).map v2)), ("pairs", .lst ((fPairs vs).map fpD)), ("widths", .lst ((fWid vs).map Da.int)), ("unit", .int (modU vs))]
theorem cutT1 {l : List Da} : cutD l none (some 1) = l.take 1 := by
  unfold cutD HT.sIx
  cases l with
  | nil => rfl
  | cons a l => simp
section
variable {P : Program} {w : World} {K : PySem.W.Frag} {mg : Str → Option Value} {base : Heap} {T : Tb}
abbrev s_FarFieldU_initU : Stmt := inClass (top 20) 0
theorem sc_FarFieldU_initU : FnScope ["self", "polygon", "vectors", "widths", "first", "second", "vector", "pair", "index"] ["self", "polygon"] (defScope s_FarFieldU_initU) := ⟨rfl, rfl, rfl, by decide +kernel, rfl, by decide +kernel, by decide +kernel⟩
def R_FarFieldU_initU (C_Polygon : Addr) (ds : List Da) (fs : List (Str × Da)) : Prop := ∃ vs : List Ve, ds = [poly C_Polygon vs] ∧ PolB vs ∧ FarOk vs ∧ fs = farF vs
theorem ok_FarFieldU_initU {f : Addr} {fd : FuncData} {C_Polygon : Addr} {C_FarField : Addr} (F : FnP K "__init__" "FarField.__init__" s_FarFieldU_initU f fd) (mk0 : Mk K C_FarField f) (hm : mg "FarField" = some (.ref C_FarField)) (c_directions : C8.Cal P w K mg base 6 "directions" (Prm T (R_directions C_Polygon)) []) (cl_FarField : Cls K C_FarField) (na_FarField_vectors : NoAttr K C_FarField "vectors") (fr_zip : mg "zip" = none) (c_far_pair : C8.Cal P w K mg base 2 "far_pair" (Prm T (R_far_pair C_Polygon)) []) (na_FarField_pairs : NoAttr K C_FarField "pairs") (fr_abs : mg "abs" = none) (c_cross : C8.Cal P w K mg base 1 "cross" (Prm T R_cross) []) (na_FarField_widths : NoAttr K C_FarField "widths") (fr_range : mg "range" = none) (fr_len : mg "len" = none) (m_FarField_needed_factor : C8.Met P w K mg base 3 C_FarField "needed_factor" (Prm T (R_FarField_needed_factor C_FarField)) []) (c_lcm : C8.Cal P w K mg base 2 "lcm" (Prm T R_lcm) []) (na_FarField_unit : NoAttr K C_FarField "unit")   : C8.Mak P w K mg base 7 "FarField" C_FarField (PrmI T C_FarField (R_FarFieldU_initU C_Polygon)) [] := by
  refine ⟨f, fd, _, _, mk0, fn_init F sc_FarFieldU_initU (fun ds d h => ?_) fun cdv A outer s H E hr => ⟨_, (pss_cons (ps_set (i := 2) sc_FarFieldU_initU.nd rfl (Or.inl rfl) (C8.pe_c c_directions hr (by decide) rfl (pa_cons (pv 1) pa_nil))) (pss_cons (ps_fld (pv 0) (pe_op op_cat (pv 2) (pe_lst (pa_cons (pe_tup (pa_cons (pe_un un_neg (pe_ix ix_tup (pe_ix ix_list (pv 2) pe_int (fun _ _ => rfl)) pe_int (fun _ _ => rfl))) (pa_cons (pe_un un_neg (pe_ix ix_tup (pe_ix ix_list (pv 2) pe_int (fun _ _ => rfl)) pe_int (fun _ _ => rfl))) pa_nil))) pa_nil))) rfl) (pss_cons (ps_fld (pv 0) (pe_lc (by rfl) sc_FarFieldU_initU.nd (pi_zip (by rfl) fr_zip (pa_cons (pe_fld (pv 0) rfl) (pa_cons (pe_slice sl_list (pe_fld (pv 0) rfl) (po_some pe_int) po_none) pa_nil))) (blkOk_by (own := [("first", 4), ("second", 5)]) (N := ["self", "polygon", "vectors", "widths", "first", "second", "vector", "pair", "index"]) (sc := defScope s_FarFieldU_initU) (by decide +kernel)) (fun _ _ _ _ _ => (pg_tupK (K := K) (n := 2) rfl (by rfl) (pgs_cons (pg_name (i := 4) sc_FarFieldU_initU.nd rfl (Or.inl rfl)) (pgs_cons (pg_name (i := 5) sc_FarFieldU_initU.nd rfl (Or.inl rfl)) pgs_nil)))) (fun _ _ _ _ _ => pts_nil) (fun _ _ _ _ _ => (C8.pe_c c_far_pair hr (by decide) rfl (pa_cons (pv 1) (pa_cons (pv 4) (pa_cons (pv 5) pa_nil)))))) rfl) (pss_cons (ps_setLc (i := 3) (by rfl) sc_FarFieldU_initU.nd rfl rfl (sw_true rfl rfl rfl (by decide +kernel)) (pi_zip (by rfl) fr_zip (pa_cons (pv 2) (pa_cons (pe_fld (pv 0) rfl) pa_nil))) (blkOk_by (own := [("vector", 6), ("pair", 7)]) (N := ["self", "polygon", "vectors", "widths", "first", "second", "vector", "pair", "index"]) (sc := defScope s_FarFieldU_initU) (by decide +kernel)) (fun _ _ _ _ _ => (pg_tupK (K := K) (n := 2) rfl (by rfl) (pgs_cons (pg_name (i := 6) sc_FarFieldU_initU.nd rfl (Or.inl rfl)) (pgs_cons (pg_name (i := 7) sc_FarFieldU_initU.nd rfl (Or.inl rfl)) pgs_nil)))) (fun _ _ _ _ _ => pts_nil) (fun _ _ _ _ _ => (pe_callB call_abs (by rfl) fr_abs (by decide +kernel) (pa_cons (C8.pe_c c_cross hr (by decide) rfl (pa_cons (pv 6) (pa_cons (pe_ix (ix_tupK (K := K) rfl) (pv 7) pe_int (fun _ _ => rfl)) pa_nil))) pa_nil)))) (pss_cons (ps_fld (pv 0) (pe_op op_cat (pv 3) (pe_slice sl_list (pv 3) po_none (po_some pe_int))) rfl) (pss_one (ps_fld (pv 0) (C8.pe_c c_lcm hr (by decide) rfl (pa_cons (pe_lc (by rfl) sc_FarFieldU_initU.nd (pi_range1 rfl fr_range (pa_cons (pe_callB call_len_seq (by rfl) fr_len PySem.boot_len (pa_cons (pv 2) pa_nil)) pa_nil)) (blkOk_by (own := [("index", 8)]) (N := ["self", "polygon", "vectors", "widths", "first", "second", "vector", "pair", "index"]) (sc := defScope s_FarFieldU_initU) (by decide +kernel)) (fun _ _ _ _ _ => (pg_name (i := 8) sc_FarFieldU_initU.nd rfl (Or.inl rfl))) (fun _ _ _ _ _ => pts_nil) (fun _ _ _ _ _ => (C8.pe_mt m_FarField_needed_factor hr (by decide) (pv 0) (pa_cons (pv 8) pa_nil)))) pa_nil)) rfl))))))), fun x ds fs h => ?_⟩, hm, (F.bindsN (fun _ _ _ _ _ _ us hl => match us, hl with | [_, _], _ => rfl)), .nil⟩
  · obtain ⟨vs, rfl, hB, hF, rfl⟩ := h
    rfl
  · obtain ⟨vs, rfl, hB, hF, rfl⟩ := h
    have n1 := hF.n1; have n6 := hF.n6; have hln := hF.len; have hlV := hF.lenV; have hlW := hF.lenW
    have hd0 : 0 < (dirs vs).length := by omega
    have e1 : (dirs vs).map v2 ++ [i2 (-((dirs vs).getD 0 (0, 0)).1) (-((dirs vs).getD 0 (0, 0)).2)] = (fVec vs).map v2 := by unfold fVec; rw [List.map_append]; rfl
    have zl : ((fVec vs).zip (fVec vs).tail).length ≤ 7 := by rw [List.length_zip]; omega
    have pl : (fPairs vs).length = (dirs vs).length := by
      unfold fPairs
      rw [List.length_map, List.length_zip, List.length_tail]
      omega
    have hdV : ∀ v ∈ dirs vs, v ∈ fVec vs := fun v hv => by unfold fVec; exact List.mem_append_left _ hv
    have hpb : ∀ x ∈ fPairs vs, (x.2.2.1.natAbs ≤ 480 ∧ x.2.2.2.natAbs ≤ 480) := fun x hx => by
      unfold fPairs at hx
      obtain ⟨y, hy, rfl⟩ := List.mem_map.mp hx
      have := hB.sh (maxIx (farVals vs y.1 y.2) : Nat) (minIx (farVals vs y.1 y.2) : Nat)
      unfold farP
      simp only
      omega
    refine sdi_one (δ' := List.replicate 9 none) (sd_fix (sd_seq (sd_asg (ev_call (ea_cons (ev_var rfl) ea_nil) (ri_directions hB hF))) (sd_seq (sd_fldN (lst_is (ev_catL (ev_var rfl) (ev_lst (ea_cons (ev_tup (ea_cons (ev_neg (ev_ixT (ev_ixL (ev_var rfl) ev_int (atI_getD (i := 0) (d0 := (0, 0)) hd0)) ev_int rfl)) (ea_cons (ev_neg (ev_ixT (ev_ixL (ev_var rfl) ev_int (atI_getD (i := 0) (d0 := (0, 0)) hd0)) ev_int rfl)) ea_nil))) ea_nil)) (by rw [List.length_map]; simp only [List.length_cons, List.length_nil]; omega)) e1) (ev_var rfl) lk0 cl_FarField na_FarField_vectors) (sd_seq (sd_fldN (d := .lst ((fPairs vs).map fpD)) ?_ (ev_var rfl) lk0 cl_FarField na_FarField_pairs) (sd_seq (sd_asg (x := .lst ((fWid0 vs).map Da.int)) ?_) (sd_seq (sd_fldN (d := .lst ((fWid vs).map Da.int)) ?_ (ev_var rfl) lk0 cl_FarField na_FarField_widths) (sd_fldN (d := .int (modU vs)) ?_ (ev_var rfl) lk0 cl_FarField na_FarField_unit)))))) (Fixes.forget rfl)) lk0
    · refine lst_is (ev_lc (it_is (it_zip (ea_cons (ev_fldO (ev_var rfl) lk0 cl_FarField na_FarField_vectors rfl) (ea_cons (ev_slL (ev_fldO (ev_var rfl) lk0 cl_FarField na_FarField_vectors rfl) (eo_some ev_int) eo_none) ea_nil))) (by rw [cut1, ← List.map_tail]; exact pair_maps)) (lc_mapD (it := fun x : Ve × Ve => .tup [v2 x.1, v2 x.2]) (f := fun x : Ve × Ve => fpD (farP vs x.1 x.2)) (fun p => [some (.fn x), some (poly C_Polygon vs), some (.lst ((dirs vs).map v2)), none, some (v2 p.1), some (v2 p.2), none, none, none]) (fun p => gd_tup (gds_cons gd_name (gds_cons gd_name gds_nil))) (by decide) (fun p hp => ev_call (ea_cons (ev_var rfl) (ea_cons (ev_var rfl) (ea_cons (ev_var rfl) ea_nil))) (ri_far_pair hB (hF.vec _ (List.of_mem_zip hp).1) (hF.vec _ (List.mem_of_mem_tail (List.of_mem_zip hp).2))))) (by rw [List.length_map]; omega)) ?_
      unfold fPairs
      rw [List.map_map]
      rfl
    · refine lst_is (ev_lc (it_is (it_zip (ea_cons (ev_var rfl) (ea_cons (ev_fldO (ev_var rfl) lk0 cl_FarField na_FarField_pairs rfl) ea_nil))) pair_maps) (lc_mapD (it := fun x : Ve × (Nat × Nat × Ve) => .tup [v2 x.1, fpD x.2]) (f := fun x : Ve × (Nat × Nat × Ve) => .int (iabs (crs x.1 x.2.2.2))) (fun p => [some (.fn x), some (poly C_Polygon vs), some (.lst ((dirs vs).map v2)), none, none, none, some (v2 p.1), some (fpD p.2), none]) (fun p => gd_tup (gds_cons gd_name (gds_cons gd_name gds_nil))) (by decide) (fun p hp => ev_cb (ea_cons (ev_call (ea_cons (ev_var rfl) (ea_cons (ev_ixT (ev_var rfl) ev_int rfl) ea_nil)) ?_) ea_nil) cd_abs)) (by rw [List.length_map, List.length_zip]; omega)) ?_
      · have h1 := hF.vec _ (hdV _ (List.of_mem_zip hp).1)
        have h2 := hpb _ (List.of_mem_zip hp).2
        exact ri_cross ((bd200 h1.1).up (by decide)) ((bd200 h1.2).up (by decide)) ((show Bd 9 p.2.2.2.1 from ⟨Nat.lt_of_le_of_lt h2.1 (by decide)⟩).up (by decide)) ((show Bd 9 p.2.2.2.2 from ⟨Nat.lt_of_le_of_lt h2.2 (by decide)⟩).up (by decide))
      · unfold fWid0
        rw [List.map_map]
        rfl
    · refine lst_is (ev_catL (ev_var rfl) (ev_slL (ev_var rfl) eo_none (eo_some ev_int)) ?_) ?_
      · rw [cutT1, List.length_take, List.length_map]
        unfold fWid at hlW
        rw [List.length_append] at hlW
        omega
      · rw [cutT1, ← List.map_take, ← List.map_append]
        rfl
    · refine ev_viewI (i := 0) lk0 rfl (ev_call (ea_cons (lst_is (m := ((List.range (dirs vs).length).map (fNeed vs)).map Da.int) (ev_lc (it_rng1 (ea_cons (ev_cb (ea_cons (ev_var rfl) ea_nil) cd_lenL) ea_nil) (by rw [List.length_map]; omega)) (lc_mapG (i := 8) (xs := List.range ((((dirs vs).map v2).length : Nat) : Int).toNat) (f := fun i : Nat => .int (fNeed vs i)) (by decide) fun i hi => ev_meth (ev_var rfl) (ea_cons (ev_is (x := .int (0 + ((i : Nat) : Int))) (ev_var rfl) (congrArg Da.int (Int.zero_add _))) ea_nil) (ri_FarField_needed_factor hF (by have := List.mem_range.mp hi; rw [List.length_map] at this; omega))) (by rw [rngD_length, List.length_map]; omega)) (by rw [List.length_map, Int.toNat_natCast, List.map_map]; rfl)) ea_nil) (ri_lcm (by rw [List.length_map, List.length_range]; omega) fun n hn => ?_))
      obtain ⟨i, hi, rfl⟩ := List.mem_map.mp hn
      have := hF.need i (List.mem_range.mp hi)
      exact ⟨this.1.1, this.2⟩
abbrev s_modulus : Stmt := top 21
theorem sc_modulus : FnScope ["polygon"] ["polygon"] (defScope s_modulus) := ⟨rfl, rfl, rfl, by decide +kernel, rfl, by decide +kernel, by decide +kernel⟩
def R_modulus (C_Polygon : Addr) (ds : List Da) (d : Da) : Prop := ∃ vs : List Ve, ds = [poly C_Polygon vs] ∧ PolB vs ∧ FarOk vs ∧ d = .int (modU vs)
theorem ri_modulus {C_Polygon : Addr} {vs : List Ve} (h0 : PolB vs) (h1 : FarOk vs) : (R_modulus C_Polygon) [poly C_Polygon vs] (.int (modU vs)) := ⟨vs, rfl, h0, h1, rfl⟩
theorem ok_modulus {f : Addr} {fd : FuncData} {C_Polygon : Addr} {C_FarField : Addr} (F : FnP K "modulus" "modulus" s_modulus f fd) (hm : mg "modulus" = some (.ref f)) (k_FarField : C8.Mak P w K mg base 7 "FarField" C_FarField (PrmI T C_FarField (R_FarFieldU_initU C_Polygon)) []) (cl_FarField : Cls K C_FarField) (na_FarField_unit : NoAttr K C_FarField "unit")  : C8.Cal P w K mg base 9 "modulus" (Prm T (R_modulus C_Polygon)) [] := by
  refine ⟨⟨f, fd, _, [], fn_pure F sc_modulus (fun ds d h => ?_) fun cdv A outer s H E hr => ⟨_, (pss_one (ps_ret (pe_fld (C8.pe_mk k_FarField hr (by decide) rfl (pa_cons (pv 0) pa_nil)) rfl))), fun ds d h => ?_⟩, hm, F.kp, F.bindsN (fun _ _ _ _ _ _ us hl => match us, hl with | [_], _ => rfl), .nil⟩⟩
  · obtain ⟨vs, rfl, hB, hF, rfl⟩ := h
    rfl
  · obtain ⟨vs, rfl, hB, hF, rfl⟩ := h
    exact .ret (sd_ret (ev_fld (ev_make (ea_cons (ev_var rfl) ea_nil) (fun _ => .nil) ⟨vs, rfl, hB, hF, rfl⟩) cl_FarField na_FarField_unit rfl))
abbrev s_require_modulus : Stmt := top 22
theorem sc_require_modulus : FnScope ["polygon", "found"] ["polygon"] (defScope s_require_modulus) := ⟨rfl, rfl, rfl, by decide +kernel, rfl, by decide +kernel, by decide +kernel⟩
def R_require_modulus (C_Polygon : Addr) (ds : List Da) (d : Da) : Prop := ∃ vs : List Ve, ds = [poly C_Polygon vs] ∧ PolB vs ∧ FarOk vs ∧ modU vs ≤ 4096 ∧ d = .non
theorem ri_require_modulus {C_Polygon : Addr} {vs : List Ve} (h0 : PolB vs) (h1 : FarOk vs) (h2 : modU vs ≤ 4096) : (R_require_modulus C_Polygon) [poly C_Polygon vs] (.non) := ⟨vs, rfl, h0, h1, h2, rfl⟩
theorem ok_require_modulus {f : Addr} {fd : FuncData} {C_Polygon : Addr} (F : FnP K "require_modulus" "require_modulus" s_require_modulus f fd) (hm : mg "require_modulus" = some (.ref f)) (c_modulus : C8.Cal P w K mg base 9 "modulus" (Prm T (R_modulus C_Polygon)) []) (cs_MAX_MODULUS : ∃ u, mg "MAX_MODULUS" = some u ∧ RelV (.int 4096) u)  : C8.Cal P w K mg base 10 "require_modulus" (Prm T (R_require_modulus C_Polygon)) [] := by
  refine ⟨⟨f, fd, _, [], fn_pure F sc_require_modulus (fun ds d h => ?_) fun cdv A outer s H E hr => ⟨_, (pss_cons (ps_set (i := 1) sc_require_modulus.nd rfl (Or.inl rfl) (C8.pe_c c_modulus hr (by decide) rfl (pa_cons (pv 0) pa_nil))) (pss_one (ps_if (pt_cmpR op_gt (pv 1) (C8.pe_gc rfl cs_MAX_MODULUS) (nomark _)) (pss_one ps_never) pss_nil))), fun ds d h => ?_⟩, hm, F.kp, F.bindsN (fun _ _ _ _ _ _ us hl => match us, hl with | [_], _ => rfl), .nil⟩⟩
  · obtain ⟨vs, rfl, hB, hF, hM, rfl⟩ := h
    rfl
  · obtain ⟨vs, rfl, hB, hF, hM, rfl⟩ := h
    exact .nx (sd_seq (sd_asg (ev_call (ea_cons (ev_var rfl) ea_nil) (ri_modulus hB hF))) (sd_ifF (et_is (et_test (ev_cmp (ev_var rfl) ev_int)) (decide_eq_false (by omega))) sd_next))
end
end O26
set_option Elab.async false
set_option linter.all false
set_option maxRecDepth 100000
set_option maxHeartbeats 4000000
namespace O26
open PySem PySem.Spec PyProof.Rows L2
abbrev penK (q : Pen) : List (Key × Da) := [(.inr "cells", .lst (q.cells.map Da.int)), (.inr "turn", .int (q.turn : Nat)), (.inr "left", .int q.left)]
abbrev pS (p : Addr) (q : Pen) : Os := [(p, .dic (penK q))]
theorem plains_ints : ∀ l : List Int, Da.plains (l.map Da.int) = true
  | [] => rfl
  | a :: l => by show (true && Da.plains (l.map Da.int)) = true; rw [plains_ints l]; rfl
theorem pys_ints : ∀ l : List Int, Da.pys (l.map Da.int) = l.map PyData.int
  | [] => rfl
  | a :: l => by show _ :: Da.pys (l.map Da.int) = _; rw [pys_ints l]; rfl
theorem shaped_ints (l : List Int) : SeqAt.shaped (.list (Da.pys (l.map Da.int))) = true := by
  rw [pys_ints]
  have h1 : PyData.canLayAll0 (l.map PyData.int) = true := by
    induction l with
    | nil => simp [PyData.canLayAll0]
    | cons a l ih => simp [PyData.canLayAll0, PyData.canLay0, ih]
  have h2 : PyData.depthAll (l.map PyData.int) = 0 := by
    induction l with
    | nil => simp [PyData.depthAll]
    | cons a l ih => simp only [List.map_cons, PyData.canLayAll0, Bool.and_eq_true] at h1; simp [PyData.depthAll, PyData.depth, ih h1.2]
  show (PyData.canLay0 (.list (l.map PyData.int)) && decide (PyData.depth (.list (l.map PyData.int)) ≤ 64)) = true
  rw [Bool.and_eq_true]
  refine ⟨by simp only [PyData.canLay0]; exact h1, decide_eq_true ?_⟩
  simp only [PyData.depth, h2]
  omega
theorem ev_neE {T : Tb} {S : Os} {K : PySem.W.Frag} {δ : List (Option Da)} {ta : TE} {l : List Int} (ha : EvD T S ta δ (.lst (l.map Da.int))) : EvD T S (tOp (rNeD K) ta (tLst tNil)) δ (.bl (!decide (l = []))) := by
  have h := ev_neD (K := K) ha (ev_lst ea_nil) (plains_ints l) rfl (shaped_ints l) rfl
  cases l with
  | nil => exact h
  | cons a l => exact h
theorem absI_eq (i : Int) : absI i = iabs i := rfl
theorem prime_pos (n : Nat) : 0 < primes.getD (n % 5) 0 ∧ primes.getD (n % 5) 0 < 2147483648 := by
  have h : n % 5 < 5 := Nat.mod_lt _ (by decide)
  generalize n % 5 = m at h
  have : ∀ m, m < 5 → 0 < primes.getD m 0 ∧ primes.getD m 0 < 2147483648 := by decide
  exact this m h
theorem penS_ok {p : Addr} {c : Oc} {S : Os} : ∀ q d, List.lookup q [(p, c)] = some d → List.lookup q ((p, c) :: S) = some d := fun q d h => by
  rw [lookup_put] at h ⊢
  by_cases a : q = p
  · rw [if_pos a] at h ⊢; exact h
  · rw [if_neg a] at h; cases h
theorem ev_getC {T : Tb} {S : Os} {δ : List (Option Da)} {ta : TE} {p : Addr} {q : Pen} (ha : EvD T S ta δ (.fn p)) (hS : S.lookup p = some (.dic (penK q))) : EvD T S (tDGet ta (tC (.str "cells"))) δ (.lst (q.cells.map Da.int)) := ev_dget ha ev_str hS rfl
theorem ev_getT {T : Tb} {S : Os} {δ : List (Option Da)} {ta : TE} {p : Addr} {q : Pen} (ha : EvD T S ta δ (.fn p)) (hS : S.lookup p = some (.dic (penK q))) : EvD T S (tDGet ta (tC (.str "turn"))) δ (.int (q.turn : Nat)) := ev_dget ha ev_str hS rfl
theorem ev_getL {T : Tb} {S : Os} {δ : List (Option Da)} {ta : TE} {p : Addr} {q : Pen} (ha : EvD T S ta δ (.fn p)) (hS : S.lookup p = some (.dic (penK q))) : EvD T S (tDGet ta (tC (.str "left"))) δ (.int q.left) := ev_dget ha ev_str hS rfl
theorem sd_putT {T : Tb} {S : Os} {δ : List (Option Da)} {ta tv : TE} {p : Addr} {q : Pen} {n : Nat} {i : Int} (hv : EvD T S tv δ (.int i)) (ha : EvD T S ta δ (.fn p)) (hS : S.lookup p = some (.dic (penK q))) (hi : i = (n : Nat)) : SD T S (sDPut ta (tC (.str "turn")) tv) δ (.nx δ ((p, .dic (penK ⟨q.cells, n, q.left⟩)) :: S)) := by
  subst hi
  exact sd_dput hv ha ev_str hS
theorem sd_putL {T : Tb} {S : Os} {δ : List (Option Da)} {ta tv : TE} {p : Addr} {q : Pen} {i : Int} (hv : EvD T S tv δ (.int i)) (ha : EvD T S ta δ (.fn p)) (hS : S.lookup p = some (.dic (penK q))) : SD T S (sDPut ta (tC (.str "left")) tv) δ (.nx δ ((p, .dic (penK ⟨q.cells, q.turn, i⟩)) :: S)) := sd_dput hv ha ev_str hS
section
variable {P : Program} {w : World} {K : PySem.W.Frag} {mg : Str → Option Value} {base : Heap} {T : Tb}
abbrev s_law_draw : Stmt := top 66
theorem sc_law_draw : FnScope ["_law_pen_here", "_law_many", "_law_digit", "_law_turn", "_law_cell", "_law_primes", "_law_prime", "_law_drawn"] ["_law_pen_here", "_law_many"] (defScope s_law_draw) := ⟨rfl, rfl, rfl, by decide +kernel, rfl, by decide +kernel, by decide +kernel⟩
def R_law_draw (ds : List Da) (S0 S1 : Os) (d : Da) : Prop := ∃ (p : Addr) (q : Pen) (m : Int) (n : Nat), ds = [.fn p, .int m] ∧ 0 < m ∧ m ≤ 1000000 ∧ PenOk n q ∧ n ≤ 1000000 ∧ S0 = pS p q ∧ S1 = pS p (drawP q m) ∧ d = .int (drawD q m)
theorem ok_law_draw {f : Addr} {fd : FuncData}  (F : FnP K "_law_draw" "_law_draw" s_law_draw f fd) (hm : mg "_law_draw" = some (.ref f)) (fr_len : mg "len" = none) (fr_abs : mg "abs" = none)  : C8.Cal P w K mg base 1 "_law_draw" (PrmS T R_law_draw) [] := by
  refine ⟨f, fd, _, [], fn_own F sc_law_draw (fun ds S0 S1 d h => ?_) fun cdv A outer s H E hr => ⟨_, (pss_cons (ps_if (pt_cmpR op_gt (pe_dget (hu_of hr) (pv 0) pe_str (fun _ _ => rfl)) pe_int (nomark _)) (pss_cons (ps_set (i := 2) sc_law_draw.nd rfl (Or.inl rfl) (pe_op op_mod (pe_dget (hu_of hr) (pv 0) pe_str (fun _ _ => rfl)) (pv 1))) (pss_cons (ps_dput (hu_of hr) (pv 0) pe_str (pe_op op_fdivW (pe_dget (hu_of hr) (pv 0) pe_str (fun _ _ => rfl)) (pv 1)) rfl) (pss_one (ps_ret (pv 2))))) pss_nil) (pss_cons (ps_set (i := 3) sc_law_draw.nd rfl (Or.inl rfl) (pe_dget (hu_of hr) (pv 0) pe_str (fun _ _ => rfl))) (pss_cons (ps_dput (hu_of hr) (pv 0) pe_str (pe_op op_add (pv 3) pe_int) rfl) (pss_cons (ps_set (i := 4) sc_law_draw.nd rfl (Or.inl rfl) (pe_op op_add (pe_op op_mulW pe_int (pv 3)) pe_int)) (pss_cons (ps_if (pt_cmpR (op_neD hr.units) (pe_dget (hu_of hr) (pv 0) pe_str (fun _ _ => rfl)) (pe_lst pa_nil) (nomark _)) (pss_one (ps_set (i := 4) sc_law_draw.nd rfl (Or.inl rfl) (pe_ix ix_list (pe_dget (hu_of hr) (pv 0) pe_str (fun _ _ => rfl)) (pe_op op_mod (pv 3) (pe_callB call_len_seq (by rfl) fr_len PySem.boot_len (pa_cons (pe_dget (hu_of hr) (pv 0) pe_str (fun _ _ => rfl)) pa_nil))) (fun _ _ => rfl)))) pss_nil) (pss_cons (ps_if (PW.pt (pw_and (pt_cmpR op_lt (pv 3) (pe_callB call_len_seq (by rfl) fr_len PySem.boot_len (pa_cons (pe_dget (hu_of hr) (pv 0) pe_str (fun _ _ => rfl)) pa_nil)) (nomark _)) (pw_and1 (pt_cmpR op_ge (pe_callB call_abs (by rfl) fr_abs (by decide +kernel) (pa_cons (pv 4) pa_nil)) (pe_op op_pow pe_int pe_int) (nomark _))))) (pss_cons (ps_dput (hu_of hr) (pv 0) pe_str (pe_op op_fdivW (pe_op op_sub (pe_callB call_abs (by rfl) fr_abs (by decide +kernel) (pa_cons (pv 4) pa_nil)) (pe_op op_pow pe_int pe_int)) (pv 1)) rfl) (pss_one (ps_ret (pe_op op_mod (pe_op op_sub (pe_callB call_abs (by rfl) fr_abs (by decide +kernel) (pa_cons (pv 4) pa_nil)) (pe_op op_pow pe_int pe_int)) (pv 1))))) pss_nil) (pss_cons (ps_set (i := 5) sc_law_draw.nd rfl (Or.inl rfl) (pe_lst (pa_cons pe_int (pa_cons pe_int (pa_cons pe_int (pa_cons pe_int (pa_cons pe_int pa_nil))))))) (pss_cons (ps_set (i := 6) sc_law_draw.nd rfl (Or.inl rfl) (pe_ix ix_list (pv 5) (pe_op op_mod (pv 3) pe_int) (fun _ _ => rfl))) (pss_cons (ps_set (i := 7) sc_law_draw.nd rfl (Or.inl rfl) (pe_op op_mod (pe_op op_add (pe_op op_add (pe_op op_mulW (pe_op op_mod (pv 4) (pv 6)) pe_int) (pe_op op_mulW (pe_op op_mulW pe_int (pv 3)) (pv 3))) pe_int) (pv 6))) (pss_cons (ps_set (i := 7) sc_law_draw.nd rfl (Or.inl rfl) (pe_op op_mod (pe_op op_mulW (pv 7) (pe_op op_add (pv 7) pe_int)) (pe_ix ix_list (pv 5) (pe_op op_mod (pe_op op_add (pv 3) pe_int) pe_int) (fun _ _ => rfl)))) (pss_one (ps_ret (pe_op op_mod (pe_op op_fdivW (pe_op op_mod (pe_op op_mulW (pv 7) (pv 7)) pe_int) pe_int) (pv 1)))))))))))))), fun ds S0 S1 d h => ?_⟩, hm, F.kp, F.bindsN (fun _ _ _ _ _ _ us hl => match us, hl with | [_, _], _ => rfl), .nil⟩
  · obtain ⟨p, q, m, n, rfl, hm, hm2, hq, hn, rfl, rfl, rfl⟩ := h
    rfl
  · obtain ⟨p, q, m, n, rfl, hm, hm2, hq, hn, rfl, rfl, rfl⟩ := h
    have hl := hq.len
    have ht := hq.turn
    have bt : Bd 20 ((q.turn : Nat) : Int) := .of_le 1000000 (by omega) (by omega)
    have bm : ∀ i : Int, CDivW i m := fun i => wide_div (b := 20) hm (by omega) (by decide) (by decide)
    have e18 : ((10 : Int) ^ (18 : Int).toNat) = 1000000000000000000 := by decide
    by_cases h0 : 0 < q.left
    · have eP : drawP q m = { q with left := q.left / m } := by unfold drawP; rw [if_pos h0]
      have eD : drawD q m = q.left % m := by unfold drawD; rw [if_pos h0]
      rw [eP, eD]
      exact SDo.ret (S' := _) (sd_seqS (sd_ifT (et_is (et_test (ev_cmp (ev_getL (ev_var rfl) lk0) ev_int)) (decide_eq_true h0)) (sd_seq (sd_asg (ev_mod (ev_getL (ev_var rfl) lk0) (ev_var rfl) hm)) (sd_seq (sd_putL (q := q) (ev_fdiv (ev_getL (ev_var rfl) lk0) (ev_var rfl) (bm _)) (ev_var rfl) lk0) (sd_retS (ev_var rfl)))))) penS_ok
    · have c3 : Bd 6 41 := ⟨by decide⟩
      have eC : cellOf q = if q.cells = [] then 41 * ((q.turn : Nat) : Int) + 17 else q.cells.getD (q.turn % q.cells.length) 0 := rfl
      by_cases hb : big q
      · have eP : drawP q m = ⟨q.cells, q.turn + 1, (absI (cellOf q) - 1000000000000000000) / m⟩ := by unfold drawP; rw [if_neg h0, if_pos hb]
        have eD : drawD q m = (absI (cellOf q) - 1000000000000000000) % m := by unfold drawD; rw [if_neg h0, if_pos hb]
        have hb1 := hb.1
        rw [eP, eD]
        exact SDo.ret (S' := (p, .dic (penK ⟨q.cells, q.turn + 1, (absI (cellOf q) - 1000000000000000000) / m⟩)) :: (p, .dic (penK ⟨q.cells, q.turn + 1, q.left⟩)) :: pS p q) (sd_seq (δ1 := [some (.fn p), some (.int m), none, none, none, none, none, none]) (S1 := pS p q) (sd_ifF (et_is (et_test (ev_cmp (ev_getL (ev_var rfl) lk0) ev_int)) (decide_eq_false h0)) sd_next) (sd_seq (δ1 := [some (.fn p), some (.int m), none, some (.int (q.turn : Nat)), none, none, none, none]) (S1 := pS p q) (sd_asg (ev_getT (ev_var rfl) lk0)) (sd_seq (δ1 := [some (.fn p), some (.int m), none, some (.int (q.turn : Nat)), none, none, none, none]) (S1 := (p, .dic (penK ⟨q.cells, q.turn + 1, q.left⟩)) :: pS p q) (sd_putT (q := q) (n := q.turn + 1) (ev_add (ev_var rfl) ev_int) (ev_var rfl) lk0 (by omega)) (sd_seq (δ1 := [some (.fn p), some (.int m), none, some (.int (q.turn : Nat)), some (.int (41 * ((q.turn : Nat) : Int) + 17)), none, none, none]) (S1 := (p, .dic (penK ⟨q.cells, q.turn + 1, q.left⟩)) :: pS p q) (sd_asg (ev_add (ev_mulB ev_int (ev_var rfl)) ev_int)) (sd_seq (sd_as (o := .nx [some (.fn p), some (.int m), none, some (.int (q.turn : Nat)), some (.int (cellOf q)), none, none, none] ((p, .dic (penK ⟨q.cells, q.turn + 1, q.left⟩)) :: pS p q)) (by
        by_cases hc : q.cells = []
        · rw [eC, if_pos hc]
          exact sd_ifF (et_is (et_test (ev_neE (ev_getC (ev_var rfl) lk0))) (by rw [decide_eq_true hc]; rfl)) sd_next
        · rw [eC, if_neg hc]
          have hp : 0 < q.cells.length := List.length_pos_iff.mpr hc
          have hlen : (0 : Int) < ((q.cells.map Da.int).length : Nat) := by rw [List.length_map]; omega
          exact sd_ifT (et_is (et_test (ev_neE (ev_getC (ev_var rfl) lk0))) (by rw [decide_eq_false hc]; rfl)) (sd_asg (ev_ixL (ev_getC (ev_var rfl) lk0) (ev_is (ev_mod (ev_var rfl) (ev_cb (ea_cons (ev_getC (ev_var rfl) lk0) ea_nil) cd_lenL) hlen) (congrArg Da.int (by rw [List.length_map]; exact (Int.natCast_emod ..).symm : ((q.turn : Nat) : Int) % ((q.cells.map Da.int).length : Nat) = ((q.turn % q.cells.length : Nat) : Int)))) (atI_getD (d0 := 0) (Nat.mod_lt _ hp)))))) (sd_seqS (sd_ifT (et_is (et_and (et_test (ev_cmp (ev_var rfl) (ev_cb (ea_cons (ev_getC (ev_var rfl) lk0) ea_nil) cd_lenL))) (fun _ => et_test (ev_cmp (ev_cb (ea_cons (ev_var rfl) ea_nil) cd_abs) (ev_pow ev_int ev_int ⟨by decide, by decide, by decide⟩)))) (by rw [decide_eq_true (by rw [List.length_map]; omega : ((q.turn : Nat) : Int) < ((q.cells.map Da.int).length : Nat)), decide_eq_true (by rw [e18]; exact hb.2 : iabs (cellOf q) ≥ (10 : Int) ^ (18 : Int).toNat)]; rfl)) (sd_seq (sd_putL (q := ⟨q.cells, q.turn + 1, q.left⟩) (ev_fdiv (ev_sub (ev_cb (ea_cons (ev_var rfl) ea_nil) cd_abs) (ev_pow ev_int ev_int ⟨by decide, by decide, by decide⟩)) (ev_var rfl) (bm _)) (ev_var rfl) lk0) (sd_retS (ev_mod (ev_sub (ev_cb (ea_cons (ev_var rfl) ea_nil) cd_abs) (ev_pow ev_int ev_int ⟨by decide, by decide, by decide⟩)) (ev_var rfl) hm)))))))))) penS_ok
      · have eP : drawP q m = ⟨q.cells, q.turn + 1, q.left⟩ := by unfold drawP; rw [if_neg h0, if_neg hb]
        have eD : drawD q m = drawn2 q * drawn2 q % 2147483549 / 64 % m := by unfold drawD; rw [if_neg h0, if_neg hb]
        have pr1 := prime_pos q.turn
        have pr2 := prime_pos (q.turn + 3)
        have bp1 : Bd 31 (cellOf q % primes.getD (q.turn % 5) 0) := by
          have := Int.emod_nonneg (cellOf q) (Int.ne_of_gt pr1.1)
          have := Int.emod_lt_of_pos (cellOf q) pr1.1
          exact .of_le 2147483647 (by omega) (by omega)
        have bd1 : Bd 31 (drawn1 q) := by
          have h1 := Int.emod_nonneg (cellOf q % primes.getD (q.turn % 5) 0 * 48271 + 40692 * ((q.turn : Nat) : Int) * ((q.turn : Nat) : Int) + 31) (Int.ne_of_gt pr1.1)
          have h2 := Int.emod_lt_of_pos (cellOf q % primes.getD (q.turn % 5) 0 * 48271 + 40692 * ((q.turn : Nat) : Int) * ((q.turn : Nat) : Int) + 31) pr1.1
          unfold drawn1
          exact .of_le 2147483647 (by omega) (by omega)
        have bd2 : Bd 31 (drawn2 q) := by
          have h1 := Int.emod_nonneg (drawn1 q * (drawn1 q + 69621)) (Int.ne_of_gt pr2.1)
          have h2 := Int.emod_lt_of_pos (drawn1 q * (drawn1 q + 69621)) pr2.1
          unfold drawn2
          exact .of_le 2147483647 (by omega) (by omega)
        have c1 : Bd 16 48271 := ⟨by decide⟩
        have c2 : Bd 16 40692 := ⟨by decide⟩
        have c3 : Bd 6 41 := ⟨by decide⟩
        have c4 : Bd 17 69621 := ⟨by decide⟩
        rw [eP, eD]
        exact SDo.ret (S' := (p, .dic (penK ⟨q.cells, q.turn + 1, q.left⟩)) :: pS p q) (sd_seq (δ1 := [some (.fn p), some (.int m), none, none, none, none, none, none]) (S1 := pS p q) (sd_ifF (et_is (et_test (ev_cmp (ev_getL (ev_var rfl) lk0) ev_int)) (decide_eq_false h0)) sd_next) (sd_seq (δ1 := [some (.fn p), some (.int m), none, some (.int (q.turn : Nat)), none, none, none, none]) (S1 := pS p q) (sd_asg (ev_getT (ev_var rfl) lk0)) (sd_seq (δ1 := [some (.fn p), some (.int m), none, some (.int (q.turn : Nat)), none, none, none, none]) (S1 := (p, .dic (penK ⟨q.cells, q.turn + 1, q.left⟩)) :: pS p q) (sd_putT (q := q) (n := q.turn + 1) (ev_add (ev_var rfl) ev_int) (ev_var rfl) lk0 (by omega)) (sd_seq (δ1 := [some (.fn p), some (.int m), none, some (.int (q.turn : Nat)), some (.int (41 * ((q.turn : Nat) : Int) + 17)), none, none, none]) (S1 := (p, .dic (penK ⟨q.cells, q.turn + 1, q.left⟩)) :: pS p q) (sd_asg (ev_add (ev_mulB ev_int (ev_var rfl)) ev_int)) (sd_seq (sd_as (o := .nx [some (.fn p), some (.int m), none, some (.int (q.turn : Nat)), some (.int (cellOf q)), none, none, none] ((p, .dic (penK ⟨q.cells, q.turn + 1, q.left⟩)) :: pS p q)) (by
        by_cases hc : q.cells = []
        · rw [eC, if_pos hc]
          exact sd_ifF (et_is (et_test (ev_neE (ev_getC (ev_var rfl) lk0))) (by rw [decide_eq_true hc]; rfl)) sd_next
        · rw [eC, if_neg hc]
          have hp : 0 < q.cells.length := List.length_pos_iff.mpr hc
          have hlen : (0 : Int) < ((q.cells.map Da.int).length : Nat) := by rw [List.length_map]; omega
          exact sd_ifT (et_is (et_test (ev_neE (ev_getC (ev_var rfl) lk0))) (by rw [decide_eq_false hc]; rfl)) (sd_asg (ev_ixL (ev_getC (ev_var rfl) lk0) (ev_is (ev_mod (ev_var rfl) (ev_cb (ea_cons (ev_getC (ev_var rfl) lk0) ea_nil) cd_lenL) hlen) (congrArg Da.int (by rw [List.length_map]; exact (Int.natCast_emod ..).symm : ((q.turn : Nat) : Int) % ((q.cells.map Da.int).length : Nat) = ((q.turn % q.cells.length : Nat) : Int)))) (atI_getD (d0 := 0) (Nat.mod_lt _ hp)))))) (sd_seq (sd_ifF (et_is (et_and (et_test (ev_cmp (ev_var rfl) (ev_cb (ea_cons (ev_getC (ev_var rfl) lk0) ea_nil) cd_lenL))) (fun _ => et_test (ev_cmp (ev_cb (ea_cons (ev_var rfl) ea_nil) cd_abs) (ev_pow ev_int ev_int ⟨by decide, by decide, by decide⟩)))) (by
          by_cases h1 : q.turn < q.cells.length
          · rw [decide_eq_true (by rw [List.length_map]; omega : ((q.turn : Nat) : Int) < ((q.cells.map Da.int).length : Nat)), decide_eq_false (by rw [e18]; exact fun z => hb ⟨h1, z⟩ : ¬ iabs (cellOf q) ≥ (10 : Int) ^ (18 : Int).toNat)]; rfl
          · rw [decide_eq_false (by rw [List.length_map]; omega : ¬ ((q.turn : Nat) : Int) < ((q.cells.map Da.int).length : Nat))]; rfl)) sd_next) (sd_seq (sd_asg (x := .lst (primes.map Da.int)) (ev_lst (ea_cons ev_int (ea_cons ev_int (ea_cons ev_int (ea_cons ev_int (ea_cons ev_int ea_nil))))))) (sd_seq (sd_asg (ev_ixL (ev_var rfl) (ev_is (ev_mod (ev_var rfl) ev_int (by decide)) (congrArg Da.int (by omega : ((q.turn : Nat) : Int) % 5 = ((q.turn % 5 : Nat) : Int)))) (atI_getD (d0 := 0) (Nat.mod_lt _ (by decide))))) (sd_seq (sd_asg (x := .int (drawn1 q)) (ev_mod (ev_add (ev_add (ev_mulB (ev_mod (ev_var rfl) (ev_var rfl) pr1.1) ev_int) (ev_mulB (ev_mulB ev_int (ev_var rfl)) (ev_var rfl))) ev_int) (ev_var rfl) pr1.1)) (sd_seq (sd_asg (x := .int (drawn2 q)) (ev_mod (ev_mulB (ev_var rfl) (ev_add (ev_var rfl) ev_int)) (ev_ixL (ev_var rfl) (ev_is (ev_mod (ev_add (ev_var rfl) ev_int) ev_int (by decide)) (congrArg Da.int (by omega : (((q.turn : Nat) : Int) + 3) % 5 = (((q.turn + 3) % 5 : Nat) : Int)))) (atI_getD (d0 := 0) (Nat.mod_lt _ (by decide)))) pr2.1)) (sd_retS (ev_mod (ev_fdiv (ev_mod (ev_mulB (ev_var rfl) (ev_var rfl)) ev_int (by decide)) ev_int (wide_div (b := 10) (by decide) (by decide) (by decide) (by decide))) (ev_var rfl) hm)))))))))))) penS_ok
end
end O26
set_option Elab.async false
set_option linter.all false
set_option maxRecDepth 100000
set_option maxHeartbeats 4000000
namespace O26
open PySem PySem.Spec PyProof.Rows L2
theorem evs_pen {T : Tb} {S : Os} {δ : List (Option Da)} {R : List Da → Os → Os → Da → Prop} {E : XK} {p : Addr} {q q' : Pen} {ds : List Da} {d : Da} {tz : TA} (h : EvAS T S tz δ ds (pS p q)) (hR : R ds (pS p q) (pS p q') d) : EvS T S (tCall (PrmS T R) [] E tz) δ d (pS p q') :=
  evs_callS h hR (fun _ _ h => h) (fun r c h => by
    rw [lookup_put] at h ⊢
    by_cases a : r = p
    · rw [if_pos a]; exact nofun
    · rw [if_neg a] at h; cases h) fun r c h => by
    rw [lookup_app, h]; rfl
theorem sdo_pen {T : Tb} {ts : TS} {δ : List (Option Da)} {S0 : Os} {p : Addr} {q' : Pen} {d : Da} (h : SD T S0 ts δ (.retS d (pS p q'))) : SDo T S0 (pS p q') ts δ d := SDo.ret h fun _ _ h => h
/-- an item drawn -/
def pickD (q : Pen) (l : List Da) : Da := l.getD (drawN q l.length) .non
section
variable {P : Program} {w : World} {K : PySem.W.Frag} {mg : Str → Option Value} {base : Heap} {T : Tb}
abbrev s_law_pick : Stmt := top 67
theorem sc_law_pick : FnScope ["_law_pen_here", "_law_options"] ["_law_pen_here", "_law_options"] (defScope s_law_pick) := ⟨rfl, rfl, rfl, by decide +kernel, rfl, by decide +kernel, by decide +kernel⟩
def R_law_pick (ds : List Da) (S0 S1 : Os) (d : Da) : Prop := ∃ (p : Addr) (q : Pen) (l : List Da) (n : Nat), ds = [.fn p, .lst l] ∧ 0 < l.length ∧ l.length ≤ 1000 ∧ PenOk n q ∧ n ≤ 1000000 ∧ S0 = pS p q ∧ S1 = pS p (drawP q (l.length : Nat)) ∧ d = pickD q l
theorem ok_law_pick {f : Addr} {fd : FuncData}  (F : FnP K "_law_pick" "_law_pick" s_law_pick f fd) (hm : mg "_law_pick" = some (.ref f)) (fr_len : mg "len" = none) (c__law_draw : C8.Cal P w K mg base 1 "_law_draw" (PrmS T R_law_draw) [])  : C8.Cal P w K mg base 2 "_law_pick" (PrmS T R_law_pick) [] := by
  refine ⟨f, fd, _, [], fn_own F sc_law_pick (fun ds S0 S1 d h => ?_) fun cdv A outer s H E hr => ⟨_, (pss_one (ps_ret (pe_ix ix_list (pv 1) (C8.pe_c c__law_draw hr (by decide) rfl (pa_cons (pv 0) (pa_cons (pe_callB call_len_seq (by rfl) fr_len PySem.boot_len (pa_cons (pv 1) pa_nil)) pa_nil))) (fun _ _ => rfl)))), fun ds S0 S1 d h => ?_⟩, hm, F.kp, F.bindsN (fun _ _ _ _ _ _ us hl => match us, hl with | [_, _], _ => rfl), .nil⟩
  · obtain ⟨p, q, l, n, rfl, h1, h2, hq, hn, rfl, rfl, rfl⟩ := h
    rfl
  · obtain ⟨p, q, l, n, rfl, h1, h2, hq, hn, rfl, rfl, rfl⟩ := h
    exact sdo_pen (sds_ret (evs_op (EvD.s (ev_var rfl)) (evs_is (evs_pen (EvA.s (ea_cons (ev_var rfl) (ea_cons (ev_cb (ea_cons (ev_var rfl) ea_nil) cd_lenL) ea_nil))) ⟨p, q, ((l.length : Nat) : Int), n, rfl, by omega, by omega, hq, hn, rfl, rfl, rfl⟩) (by rw [drawN_eq h1])) (od_ixL (atI_nat (by
      unfold pickD
      rw [List.getD_eq_getElem?_getD, List.getElem?_eq_getElem (drawN_lt h1)]
      rfl)))))
abbrev s_law_great : Stmt := top 68
theorem sc_law_great : FnScope ["_law_pen_here", "_law_figures", "_law_result_here", "_law_k"] ["_law_pen_here", "_law_figures"] (defScope s_law_great) := ⟨rfl, rfl, rfl, by decide +kernel, rfl, by decide +kernel, by decide +kernel⟩
def R_law_great (ds : List Da) (S0 S1 : Os) (d : Da) : Prop := ∃ (p : Addr) (q : Pen) (m n : Nat), ds = [.fn p, .int (m : Nat)] ∧ m ≤ 40 ∧ PenOk n q ∧ n ≤ 900000 ∧ S0 = pS p q ∧ S1 = pS p (greatP m q 0).2 ∧ d = .int (greatP m q 0).1
theorem ok_law_great {f : Addr} {fd : FuncData}  (F : FnP K "_law_great" "_law_great" s_law_great f fd) (hm : mg "_law_great" = some (.ref f)) (fr_range : mg "range" = none) (c__law_draw : C8.Cal P w K mg base 1 "_law_draw" (PrmS T R_law_draw) [])  : C8.Cal P w K mg base 2 "_law_great" (PrmS T R_law_great) [] := by
  refine ⟨f, fd, _, [], fn_own F sc_law_great (fun ds S0 S1 d h => ?_) fun cdv A outer s H E hr => ⟨_, (pss_cons (ps_set (i := 2) sc_law_great.nd rfl (Or.inl rfl) pe_int) (pss_cons (ps_for PassesOwn.never rfl (pi_range1 rfl fr_range (pa_cons (pv 1) pa_nil)) (pg_name (i := 3) sc_law_great.nd rfl (Or.inl rfl)) (pss_one (ps_set (i := 2) sc_law_great.nd rfl (Or.inl rfl) (pe_op op_add (pe_op op_mulW pe_int (pv 2)) (C8.pe_c c__law_draw hr (by decide) rfl (pa_cons (pv 0) (pa_cons pe_int pa_nil))))))) (pss_one (ps_ret (pv 2))))), fun ds S0 S1 d h => ?_⟩, hm, F.kp, F.bindsN (fun _ _ _ _ _ _ us hl => match us, hl with | [_, _], _ => rfl), .nil⟩
  · obtain ⟨p, q, m, n, rfl, hm, hq, hn, rfl, rfl, rfl⟩ := h
    rfl
  · obtain ⟨p, q, m, n, rfl, hm, hq, hn, rfl, rfl, rfl⟩ := h
    refine sdo_pen (sd_seq (sd_asg ev_int) (sd_forS (G := (fun a δ' S' => ∃ q' r z, greatP (m - a) q' r = greatP m q 0 ∧ PenOk (n + a) q' ∧ 0 ≤ r ∧ r < 10 ^ a ∧ S' = pS p q' ∧ δ' = [some (.fn p), some (.int (m : Nat)), some (.int r), z] : Nat → List (Option Da) → Os → Prop) m) (it_rng1 (ea_cons (ev_var rfl) ea_nil) (by omega)) (for_nat m (fun a δ' S' => ∃ q' r z, greatP (m - a) q' r = greatP m q 0 ∧ PenOk (n + a) q' ∧ 0 ≤ r ∧ r < 10 ^ a ∧ S' = pS p q' ∧ δ' = [some (.fn p), some (.int (m : Nat)), some (.int r), z]) ?_ ⟨q, 0, none, rfl, hq, Int.le_refl _, by decide, rfl, rfl⟩) ?_))
    · rintro a δ S ha ⟨q', r, z, h1, h2, h3, h4, rfl, rfl⟩
      have d1 := drawD_nn (q := q') (m := 10) (by decide)
      have d2 := drawD_lt (q := q') (m := 10) (by decide)
      have hb : Bd 150 r := ⟨by
        have e1 : (10 : Int) ^ a ≤ 10 ^ 40 := by
          have e : ∀ k : Nat, (10 : Int) ^ k = ((10 ^ k : Nat) : Int) := fun k => by
            induction k with
            | zero => rfl
            | succ k ih => rw [Int.pow_succ, Nat.pow_succ, ih, Int.natCast_mul]; rfl
          rw [e, e]
          exact Int.ofNat_le.mpr (Nat.pow_le_pow_right (by decide) (by omega))
        have e2 : (10 : Int) ^ 40 = 10000000000000000000000000000000000000000 := by decide +kernel
        have e3 : (10000000000000000000000000000000000000000 : Nat) < 2 ^ 150 := by decide +kernel
        omega⟩
      have c10 : Bd 4 10 := ⟨by decide⟩
      refine ⟨_, _, _, pS p (drawP q' 10), gd_name, sds_asg (evs_op (EvD.s (ev_mulB ev_int (ev_var rfl))) (evs_pen (EvA.s (ea_cons (ev_var rfl) (ea_cons ev_int ea_nil))) ⟨p, q', 10, n + a, rfl, by decide, by decide, h2, by omega, rfl, rfl, rfl⟩) od_add), drawP q' 10, 10 * r + drawD q' 10, some (.int (0 + (a : Nat))), ?_, h2.draw, by omega, ?_, rfl, rfl⟩
      · rw [← h1, show m - a = (m - (a + 1)) + 1 by omega]
        rfl
      · rw [Int.pow_succ]; omega
    · rintro δ S ⟨q', r, z, h1, h2, h3, h4, rfl, rfl⟩
      rw [Nat.sub_self] at h1
      rw [← h1]
      exact sd_retS (ev_var rfl)
end
end O26
set_option Elab.async false
set_option linter.all false
set_option maxRecDepth 100000
set_option maxHeartbeats 4000000
namespace O26
open PySem PySem.Spec PyProof.Rows L2
theorem filter_head {α : Type} (q : α → Bool) : ∀ l : List α, (l.filter q).head? = l.find? q
  | [] => rfl
  | a :: l => by
    cases e : q a with
    | true => rw [List.filter_cons_of_pos e, List.find?_cons_of_pos e]; rfl
    | false => rw [List.filter_cons_of_neg (by rw [e]; exact Bool.false_ne_true), List.find?_cons_of_neg (by rw [e]; exact Bool.false_ne_true)]; exact filter_head q l
def optP : Option Pt → Da
  | none => .non
  | some p => p3 p
def nextL (vs : List Ve) (p : Pt) : Option Pt := (tan vs p).map fun i => refl p (vtx vs (i : Nat))
def prevL (vs : List Ve) (p : Pt) : Option Pt := (btan vs p).map fun i => refl p (vtx vs (i : Nat))
theorem idx0 {vs : List Ve} {a : Nat} (h : a < vs.length) : atI (vs.map v2) (0 + (a : Int)) = some (v2 (vtx vs (0 + (a : Int)))) := by
  rw [Int.zero_add, ← vtx_nat h]
  exact atI_getD h
theorem tan_lt {vs : List Ve} {p : Pt} {k : Nat} (h : tan vs p = some k) : k < vs.length := List.mem_range.mp (List.mem_of_find?_eq_some h)
theorem btan_lt {vs : List Ve} {p : Pt} {k : Nat} (h : btan vs p = some k) : k < vs.length := List.mem_range.mp (List.mem_of_find?_eq_some h)
section
variable {P : Program} {w : World} {K : PySem.W.Frag} {mg : Str → Option Value} {base : Heap} {T : Tb}
abbrev s_law_gcd : Stmt := top 69
theorem sc_law_gcd : FnScope ["_law_one", "_law_two"] ["_law_one", "_law_two"] (defScope s_law_gcd) := ⟨rfl, rfl, rfl, by decide +kernel, rfl, by decide +kernel, by decide +kernel⟩
def R_law_gcd (ds : List Da) (d : Da) : Prop := ∃ a b : Int, ds = [.int a, .int b] ∧ d = .int (Int.gcd a b : Nat)
theorem ri_law_gcd {a b : Int}  : R_law_gcd [.int a, .int b] (.int (Int.gcd a b : Nat)) := ⟨a, b, rfl, rfl⟩
theorem ok_law_gcd {f : Addr} {fd : FuncData}  (F : FnP K "_law_gcd" "_law_gcd" s_law_gcd f fd) (hm : mg "_law_gcd" = some (.ref f)) (fr_abs : mg "abs" = none)  : C8.Cal P w K mg base 1 "_law_gcd" (Prm T R_law_gcd) [] := by
  refine ⟨⟨f, fd, _, [], fn_pure F sc_law_gcd (fun ds d h => ?_) fun cdv A outer s H E hr => ⟨_, (pss_cons (ps_par (i := 0) (j := 1) (by rfl) sc_law_gcd.nd rfl rfl (by decide) rfl rfl (pa_cons (pe_callB call_abs (by rfl) fr_abs (by decide +kernel) (pa_cons (pv 0) pa_nil)) (pa_cons (pe_callB call_abs (by rfl) fr_abs (by decide +kernel) (pa_cons (pv 1) pa_nil)) pa_nil)) (by rfl)) (pss_cons (ps_while PassesOwn.never (pt_cmpR op_gt (pv 1) pe_int (nomark _)) (pss_one (ps_par (i := 0) (j := 1) (by rfl) sc_law_gcd.nd rfl rfl (by decide) rfl rfl (pa_cons (pv 1) (pa_cons (pe_op op_mod (pv 0) (pv 1)) pa_nil)) (by rfl)))) (pss_one (ps_ret (pv 0))))), fun ds d h => ?_⟩, hm, F.kp, F.bindsN (fun _ _ _ _ _ _ us hl => match us, hl with | [_, _], _ => rfl), .nil⟩⟩
  · obtain ⟨a, b, rfl, rfl⟩ := h
    rfl
  · obtain ⟨a, b, rfl, rfl⟩ := h
    have e : (Int.gcd a b : Nat) = Int.gcd (iabs a) (iabs b) := by rw [iabs_eq, iabs_eq]; rfl
    rw [e]
    exact .ret (sd_seq (sd_par (ea_cons (ev_cb (ea_cons (ev_var rfl) ea_nil) cd_abs) (ea_cons (ev_cb (ea_cons (ev_var rfl) ea_nil) cd_abs) ea_nil))) (sd_seq (sd_whileE (gcd_loop (fun x y => (et_test (ev_cmp (ev_var rfl) ev_int))) (fun x y hy => sd_par (ea_cons (ev_var rfl) (ea_cons (ev_mod (ev_var rfl) (ev_var rfl) hy) ea_nil))) _ (iabs a) (iabs b) (by rw [iabs_eq]; omega) (by rw [iabs_eq]; omega) (Nat.le_refl _))) (sd_ret (ev_var rfl))))
abbrev s_law_cross : Stmt := top 70
theorem sc_law_cross : FnScope ["_law_one", "_law_two"] ["_law_one", "_law_two"] (defScope s_law_cross) := ⟨rfl, rfl, rfl, by decide +kernel, rfl, by decide +kernel, by decide +kernel⟩
def R_law_cross (ds : List Da) (d : Da) : Prop := ∃ a b c e : Int, ds = [i2 a b, i2 c e] ∧ Bd 100000 a ∧ Bd 100000 b ∧ Bd 100000 c ∧ Bd 100000 e ∧ d = .int (a * e - b * c)
theorem ri_law_cross {a b c e : Int} (h0 : Bd 100000 a) (h1 : Bd 100000 b) (h2 : Bd 100000 c) (h3 : Bd 100000 e) : R_law_cross [i2 a b, i2 c e] (.int (a * e - b * c)) := ⟨a, b, c, e, rfl, h0, h1, h2, h3, rfl⟩
theorem ok_law_cross {f : Addr} {fd : FuncData}  (F : FnP K "_law_cross" "_law_cross" s_law_cross f fd) (hm : mg "_law_cross" = some (.ref f))   : C8.Cal P w K mg base 1 "_law_cross" (Prm T R_law_cross) [] := by
  refine ⟨⟨f, fd, _, [], fn_pure F sc_law_cross (fun ds d h => ?_) fun cdv A outer s H E hr => ⟨_, (pss_one (ps_ret (pe_op op_sub (pe_op op_mulW (pe_ix ix_tup (pv 0) pe_int (fun _ _ => rfl)) (pe_ix ix_tup (pv 1) pe_int (fun _ _ => rfl))) (pe_op op_mulW (pe_ix ix_tup (pv 0) pe_int (fun _ _ => rfl)) (pe_ix ix_tup (pv 1) pe_int (fun _ _ => rfl)))))), fun ds d h => ?_⟩, hm, F.kp, F.bindsN (fun _ _ _ _ _ _ us hl => match us, hl with | [_, _], _ => rfl), .nil⟩⟩
  · obtain ⟨a, b, c, e, rfl, h1, h2, h3, h4, rfl⟩ := h
    rfl
  · obtain ⟨a, b, c, e, rfl, h1, h2, h3, h4, rfl⟩ := h
    exact .retE (sd_ret (ev_sub (ev_mulB (ev_ixT (ev_var rfl) ev_int rfl) (ev_ixT (ev_var rfl) ev_int rfl)) (ev_mulB (ev_ixT (ev_var rfl) ev_int rfl) (ev_ixT (ev_var rfl) ev_int rfl)))) rfl
abbrev s_law_point_form : Stmt := top 71
theorem sc_law_point_form : FnScope ["_law_x", "_law_y", "_law_d", "_law_both"] ["_law_x", "_law_y", "_law_d"] (defScope s_law_point_form) := ⟨rfl, rfl, rfl, by decide +kernel, rfl, by decide +kernel, by decide +kernel⟩
def R_law_point_form (ds : List Da) (d : Da) : Prop := ∃ x y z : Int, ds = [.int x, .int y, .int z] ∧ 0 < z ∧ z ≤ 1000 ∧ d = p3 (pform x y z)
theorem ri_law_point_form {x y z : Int} (h0 : 0 < z) (h1 : z ≤ 1000) : R_law_point_form [.int x, .int y, .int z] (p3 (pform x y z)) := ⟨x, y, z, rfl, h0, h1, rfl⟩
theorem ok_law_point_form {f : Addr} {fd : FuncData}  (F : FnP K "_law_point_form" "_law_point_form" s_law_point_form f fd) (hm : mg "_law_point_form" = some (.ref f)) (c__law_gcd : C8.Cal P w K mg base 1 "_law_gcd" (Prm T R_law_gcd) [])  : C8.Cal P w K mg base 2 "_law_point_form" (Prm T R_law_point_form) [] := by
  refine ⟨⟨f, fd, _, [], fn_pure F sc_law_point_form (fun ds d h => ?_) fun cdv A outer s H E hr => ⟨_, (pss_cons (ps_set (i := 3) sc_law_point_form.nd rfl (Or.inl rfl) (C8.pe_c c__law_gcd hr (by decide) rfl (pa_cons (C8.pe_c c__law_gcd hr (by decide) rfl (pa_cons (pv 0) (pa_cons (pv 1) pa_nil))) (pa_cons (pv 2) pa_nil)))) (pss_one (ps_ret (pe_tup (pa_cons (pe_op op_fdivW (pv 0) (pv 3)) (pa_cons (pe_op op_fdivW (pv 1) (pv 3)) (pa_cons (pe_op op_fdivW (pv 2) (pv 3)) pa_nil))))))), fun ds d h => ?_⟩, hm, F.kp, F.bindsN (fun _ _ _ _ _ _ us hl => match us, hl with | [_, _, _], _ => rfl), .nil⟩⟩
  · obtain ⟨x, y, z, rfl, h1, h2, rfl⟩ := h
    rfl
  · obtain ⟨x, y, z, rfl, h1, h2, rfl⟩ := h
    have hg : (0 : Int) < (Int.gcd (Int.gcd x y : Nat) z : Nat) := by
      have := Int.gcd_pos_iff.mpr (.inr (Int.ne_of_gt h1) : ((Int.gcd x y : Nat) : Int) ≠ 0 ∨ z ≠ 0)
      omega
    have hl : ((Int.gcd (Int.gcd x y : Nat) z : Nat) : Int).natAbs < 2 ^ 20 := by
      have := Int.gcd_le_natAbs_right ((Int.gcd x y : Nat) : Int) (Int.ne_of_gt h1)
      omega
    have c : ∀ i : Int, CDivW i ((Int.gcd (Int.gcd x y : Nat) z : Nat) : Int) := fun i => wide_div (b := 20) hg hl (by decide) (by decide)
    exact .ret (sd_seq (sd_asg (ev_call (ea_cons (ev_call (ea_cons (ev_var rfl) (ea_cons (ev_var rfl) ea_nil)) ri_law_gcd) (ea_cons (ev_var rfl) ea_nil)) ri_law_gcd)) (sd_ret (ev_tup (ea_cons (ev_fdiv (ev_var rfl) (ev_var rfl) (c _)) (ea_cons (ev_fdiv (ev_var rfl) (ev_var rfl) (c _)) (ea_cons (ev_fdiv (ev_var rfl) (ev_var rfl) (c _)) ea_nil))))))
abbrev s_law_mirror : Stmt := top 75
theorem sc_law_mirror : FnScope ["_law_place", "_law_corner"] ["_law_place", "_law_corner"] (defScope s_law_mirror) := ⟨rfl, rfl, rfl, by decide +kernel, rfl, by decide +kernel, by decide +kernel⟩
def R_law_mirror (ds : List Da) (d : Da) : Prop := ∃ (p : Pt) (v : Ve), ds = [p3 p, v2 v] ∧ Bd 300 v.1 ∧ Bd 300 v.2 ∧ Bd 30 p.2.2 ∧ d = p3 (refl p v)
theorem ri_law_mirror {p : Pt} {v : Ve} (h0 : Bd 300 v.1) (h1 : Bd 300 v.2) (h2 : Bd 30 p.2.2) : R_law_mirror [p3 p, v2 v] (p3 (refl p v)) := ⟨p, v, rfl, h0, h1, h2, rfl⟩
theorem ok_law_mirror {f : Addr} {fd : FuncData}  (F : FnP K "_law_mirror" "_law_mirror" s_law_mirror f fd) (hm : mg "_law_mirror" = some (.ref f))   : C8.Cal P w K mg base 1 "_law_mirror" (Prm T R_law_mirror) [] := by
  refine ⟨⟨f, fd, _, [], fn_pure F sc_law_mirror (fun ds d h => ?_) fun cdv A outer s H E hr => ⟨_, (pss_one (ps_ret (pe_tup (pa_cons (pe_op op_sub (pe_op op_mulW (pe_op op_mulW pe_int (pe_ix ix_tup (pv 1) pe_int (fun _ _ => rfl))) (pe_ix ix_tup (pv 0) pe_int (fun _ _ => rfl))) (pe_ix ix_tup (pv 0) pe_int (fun _ _ => rfl))) (pa_cons (pe_op op_sub (pe_op op_mulW (pe_op op_mulW pe_int (pe_ix ix_tup (pv 1) pe_int (fun _ _ => rfl))) (pe_ix ix_tup (pv 0) pe_int (fun _ _ => rfl))) (pe_ix ix_tup (pv 0) pe_int (fun _ _ => rfl))) (pa_cons (pe_ix ix_tup (pv 0) pe_int (fun _ _ => rfl)) pa_nil)))))), fun ds d h => ?_⟩, hm, F.kp, F.bindsN (fun _ _ _ _ _ _ us hl => match us, hl with | [_, _], _ => rfl), .nil⟩⟩
  · obtain ⟨p, v, rfl, h1, h2, h3, rfl⟩ := h
    rfl
  · obtain ⟨p, v, rfl, h1, h2, h3, rfl⟩ := h
    exact .retE (sd_ret (ev_tup (ea_cons (ev_sub (ev_mulB (ev_mulB ev_int (ev_ixT (ev_var rfl) ev_int rfl)) (ev_ixT (ev_var rfl) ev_int rfl)) (ev_ixT (ev_var rfl) ev_int rfl)) (ea_cons (ev_sub (ev_mulB (ev_mulB ev_int (ev_ixT (ev_var rfl) ev_int rfl)) (ev_ixT (ev_var rfl) ev_int rfl)) (ev_ixT (ev_var rfl) ev_int rfl)) (ea_cons (ev_ixT (ev_var rfl) ev_int rfl) ea_nil))))) rfl
abbrev s_law_is_int : Stmt := top 88
theorem sc_law_is_int : FnScope ["_law_thing", "_law_low", "_law_high"] ["_law_thing", "_law_low", "_law_high"] (defScope s_law_is_int) := ⟨rfl, rfl, rfl, by decide +kernel, rfl, by decide +kernel, by decide +kernel⟩
def R_law_is_int (ds : List Da) (d : Da) : Prop := ∃ i lo hi : Int, ds = [.int i, .int lo, .int hi] ∧ d = .bl (decide (lo ≤ i) && decide (i ≤ hi))
theorem ri_law_is_int {i lo hi : Int}  : R_law_is_int [.int i, .int lo, .int hi] (.bl (decide (lo ≤ i) && decide (i ≤ hi))) := ⟨i, lo, hi, rfl, rfl⟩
theorem ok_law_is_int {f : Addr} {fd : FuncData}  (F : FnP K "_law_is_int" "_law_is_int" s_law_is_int f fd) (hm : mg "_law_is_int" = some (.ref f)) (fr_isinstance : mg "isinstance" = none) (fr_int : mg "int" = none) (fr_bool : mg "bool" = none)  : C8.Cal P w K mg base 1 "_law_is_int" (Prm T R_law_is_int) [] := by
  refine ⟨⟨f, fd, _, [], fn_pure F sc_law_is_int (fun ds d h => ?_) fun cdv A outer s H E hr => ⟨_, (pss_one (ps_ret (pe_and (pe_callB call_isi (by rfl) fr_isinstance (by decide +kernel) (pa_cons (pv 0) (pa_cons (pe_bltn (by rfl) fr_int (by decide +kernel) (v := .ty "int") rfl) pa_nil))) (pe_and (pe_not (pe_callB call_isi (by rfl) fr_isinstance (by decide +kernel) (pa_cons (pv 0) (pa_cons (pe_bltn (by rfl) fr_bool (by decide +kernel) (v := .ty "bool") rfl) pa_nil)))) (pe_one (pe_chain op_le op_le (pv 1) (pv 0) (pv 2))))))), fun ds d h => ?_⟩, hm, F.kp, F.bindsN (fun _ _ _ _ _ _ us hl => match us, hl with | [_, _, _], _ => rfl), .nil⟩⟩
  · obtain ⟨i, lo, hi, rfl, rfl⟩ := h
    rfl
  · obtain ⟨i, lo, hi, rfl, rfl⟩ := h
    exact .retE (sd_ret (ev_andV (ev_isiI_int (ev_var rfl)) (fun _ => (ev_andV (ev_notV (ev_isiI_bool (ev_var rfl))) (fun _ => (ev_chain (ev_var rfl) (ev_var rfl) (ev_var rfl))))))) rfl
abbrev s_law_sides : Stmt := top 72
theorem sc_law_sides : FnScope ["_law_corners", "_law_place", "_law_x", "_law_y", "_law_d", "_law_result_here", "_law_k", "_law_a", "_law_b"] ["_law_corners", "_law_place"] (defScope s_law_sides) := ⟨rfl, rfl, rfl, by decide +kernel, rfl, by decide +kernel, by decide +kernel⟩
def R_law_sides (ds : List Da) (d : Da) : Prop := ∃ (vs : List Ve) (p : Pt), ds = [.lst (vs.map v2), p3 p] ∧ PolB vs ∧ PtB p ∧ d = .lst ((sides vs p).map Da.int)
theorem ri_law_sides {vs : List Ve} {p : Pt} (h0 : PolB vs) (h1 : PtB p) : R_law_sides [.lst (vs.map v2), p3 p] (.lst ((sides vs p).map Da.int)) := ⟨vs, p, rfl, h0, h1, rfl⟩
theorem ok_law_sides {f : Addr} {fd : FuncData}  (F : FnP K "_law_sides" "_law_sides" s_law_sides f fd) (hm : mg "_law_sides" = some (.ref f)) (fr_range : mg "range" = none) (fr_len : mg "len" = none) (c__law_cross : C8.Cal P w K mg base 1 "_law_cross" (Prm T R_law_cross) [])  : C8.Cal P w K mg base 2 "_law_sides" (Prm T R_law_sides) [] := by
  refine ⟨⟨f, fd, _, [], fn_pure F sc_law_sides (fun ds d h => ?_) fun cdv A outer s H E hr => ⟨_, (pss_cons (ps_asg (pv 1) (pg_tup (by rfl) (pgs_cons (pg_name (i := 2) sc_law_sides.nd rfl (Or.inl rfl)) (pgs_cons (pg_name (i := 3) sc_law_sides.nd rfl (Or.inl rfl)) (pgs_cons (pg_name (i := 4) sc_law_sides.nd rfl (Or.inl rfl)) pgs_nil))))) (pss_cons (ps_set (i := 5) sc_law_sides.nd rfl (Or.inl rfl) (pe_lst pa_nil)) (pss_cons (ps_for PassesOwn.never rfl (pi_range1 rfl fr_range (pa_cons (pe_callB call_len_seq (by rfl) fr_len PySem.boot_len (pa_cons (pv 0) pa_nil)) pa_nil)) (pg_name (i := 6) sc_law_sides.nd rfl (Or.inl rfl)) (pss_cons (ps_par (i := 7) (j := 8) (by rfl) sc_law_sides.nd rfl rfl (by decide) rfl rfl (pa_cons (pe_ix ix_list (pv 0) (pv 6) (fun _ _ => rfl)) (pa_cons (pe_ix ix_list (pv 0) (pe_op op_mod (pe_op op_add (pv 6) pe_int) (pe_callB call_len_seq (by rfl) fr_len PySem.boot_len (pa_cons (pv 0) pa_nil))) (fun _ _ => rfl)) pa_nil)) (by rfl)) (pss_one (ps_expr (pe_bm PySem.F.plainAttrs_list PySem.F.slot_list_append PySem.F.type_list_append mt_append (pv 5) (pa_cons (C8.pe_c c__law_cross hr (by decide) rfl (pa_cons (pe_tup (pa_cons (pe_op op_sub (pe_ix ix_tup (pv 8) pe_int (fun _ _ => rfl)) (pe_ix ix_tup (pv 7) pe_int (fun _ _ => rfl))) (pa_cons (pe_op op_sub (pe_ix ix_tup (pv 8) pe_int (fun _ _ => rfl)) (pe_ix ix_tup (pv 7) pe_int (fun _ _ => rfl))) pa_nil))) (pa_cons (pe_tup (pa_cons (pe_op op_sub (pv 2) (pe_op op_mulW (pe_ix ix_tup (pv 7) pe_int (fun _ _ => rfl)) (pv 4))) (pa_cons (pe_op op_sub (pv 3) (pe_op op_mulW (pe_ix ix_tup (pv 7) pe_int (fun _ _ => rfl)) (pv 4))) pa_nil))) pa_nil))) pa_nil)))))) (pss_one (ps_ret (pv 5)))))), fun ds d h => ?_⟩, hm, F.kp, F.bindsN (fun _ _ _ _ _ _ us hl => match us, hl with | [_, _], _ => rfl), .nil⟩⟩
  · obtain ⟨vs, p, rfl, hB, hp, rfl⟩ := h
    rfl
  · obtain ⟨vs, p, rfl, hB, hp, rfl⟩ := h
    have hl := hB.lo
    have hh := hB.hi
    have hlen : (0 : Int) < ((vs.map v2).length : Nat) := by rw [List.length_map]; omega
    refine .ret (sd_seq (sd_asgG (ev_var rfl) (gd_tup (gds_cons gd_name (gds_cons gd_name (gds_cons gd_name gds_nil))))) (sd_mineL fun pr => sd_forS (G := (fun a δ' S' => ∃ z5 z6 z7, S'.lookup pr = some (.lst (((List.range a).map fun i => side vs (0 + (i : Nat)) p).map Da.int)) ∧ δ' = [some (.lst (vs.map v2)), some (p3 p), some (.int p.1), some (.int p.2.1), some (.int p.2.2), some (.fn pr), z5, z6, z7] : Nat → List (Option Da) → Os → Prop) vs.length) (it_is (it_rng1 (ea_cons (ev_cb (ea_cons (ev_var rfl) ea_nil) cd_lenL) ea_nil) (by rw [List.length_map]; omega)) (by rw [List.length_map]; rfl)) (for_nat vs.length (it := fun i => .int (0 + ((i : Nat) : Int))) (fun a δ' S' => ∃ z5 z6 z7, S'.lookup pr = some (.lst (((List.range a).map fun i => side vs (0 + (i : Nat)) p).map Da.int)) ∧ δ' = [some (.lst (vs.map v2)), some (p3 p), some (.int p.1), some (.int p.2.1), some (.int p.2.2), some (.fn pr), z5, z6, z7]) ?_ ⟨none, none, none, lk0, rfl⟩) ?_))
    · rintro a δ S ha ⟨z5, z6, z7, hS, rfl⟩
      have := hB.b1 (0 + (a : Int)); have := hB.b2 (0 + (a : Int)); have := hB.b1 (0 + (a : Int) + 1); have := hB.b2 (0 + (a : Int) + 1); have := hp.x; have := hp.y; have := hp.d
      refine ⟨_, _, _, _, gd_name, sd_seq (sd_par (ea_cons (ev_ixL (ev_var rfl) (ev_var rfl) (idx0 ha)) (ea_cons (ev_ixL (ev_var rfl) (ev_mod (ev_add (ev_var rfl) ev_int) (ev_cb (ea_cons (ev_var rfl) ea_nil) cd_lenL) hlen) (hB.atI _)) ea_nil))) (sd_app (ev_var rfl) (ev_call (ea_cons (ev_tup (ea_cons (ev_sub (ev_ixT (ev_var rfl) ev_int rfl) (ev_ixT (ev_var rfl) ev_int rfl)) (ea_cons (ev_sub (ev_ixT (ev_var rfl) ev_int rfl) (ev_ixT (ev_var rfl) ev_int rfl)) ea_nil))) (ea_cons (ev_tup (ea_cons (ev_sub (ev_var rfl) (ev_mulB (ev_ixT (ev_var rfl) ev_int rfl) (ev_var rfl))) (ea_cons (ev_sub (ev_var rfl) (ev_mulB (ev_ixT (ev_var rfl) ev_int rfl) (ev_var rfl))) ea_nil))) ea_nil)) (ri_law_cross (Bd.up inferInstance (by decide : 6 + 6 + 1 ≤ 100000)) (Bd.up inferInstance (by decide : 6 + 6 + 1 ≤ 100000)) (Bd.up inferInstance (by decide : 300 + (6 + 30) + 1 ≤ 100000)) (Bd.up inferInstance (by decide : 300 + (6 + 30) + 1 ≤ 100000)))) hS (by rw [List.length_map, List.length_map, List.length_range]; omega)), _, _, _, ?_, rfl⟩
      rw [lk0, List.range_succ, List.map_append, List.map_append]
      rfl
    · rintro δ S ⟨z5, z6, z7, hS, rfl⟩
      exact sd_retL (ev_var rfl) hS
abbrev s_law_right : Stmt := top 73
theorem sc_law_right : FnScope ["_law_corners", "_law_place", "_law_rows", "_law_found", "_law_k"] ["_law_corners", "_law_place"] (defScope s_law_right) := ⟨rfl, rfl, rfl, by decide +kernel, rfl, by decide +kernel, by decide +kernel⟩
def R_law_right (ds : List Da) (d : Da) : Prop := ∃ (vs : List Ve) (p : Pt), ds = [.lst (vs.map v2), p3 p] ∧ PolB vs ∧ PtB p ∧ d = optD (tan vs p)
theorem ri_law_right {vs : List Ve} {p : Pt} (h0 : PolB vs) (h1 : PtB p) : R_law_right [.lst (vs.map v2), p3 p] (optD (tan vs p)) := ⟨vs, p, rfl, h0, h1, rfl⟩
theorem ok_law_right {f : Addr} {fd : FuncData}  (F : FnP K "_law_right" "_law_right" s_law_right f fd) (hm : mg "_law_right" = some (.ref f)) (c__law_sides : C8.Cal P w K mg base 2 "_law_sides" (Prm T R_law_sides) []) (fr_range : mg "range" = none) (fr_len : mg "len" = none)  : C8.Cal P w K mg base 3 "_law_right" (Prm T R_law_right) [] := by
  refine ⟨⟨f, fd, _, [], fn_pure F sc_law_right (fun ds d h => ?_) fun cdv A outer s H E hr => ⟨_, (pss_cons (ps_set (i := 2) sc_law_right.nd rfl (Or.inr rfl) (C8.pe_c c__law_sides hr (by decide) rfl (pa_cons (pv 0) (pa_cons (pv 1) pa_nil)))) (pss_cons (ps_setLc (i := 3) (by rfl) sc_law_right.nd rfl rfl (sw_true rfl rfl rfl (by decide +kernel)) (pi_range1 rfl fr_range (pa_cons (pe_callB call_len_seq (by rfl) fr_len PySem.boot_len (pa_cons (pv 0) pa_nil)) pa_nil)) (blkOk_by (own := [("_law_k", 4)]) (N := ["_law_corners", "_law_place", "_law_rows", "_law_found", "_law_k"]) (sc := defScope s_law_right) (by decide +kernel)) (fun _ _ _ _ _ => (pg_name (i := 4) sc_law_right.nd rfl (Or.inl rfl))) (fun _ _ _ _ _ => pts_one (pt_chain op_lt op_lt (pe_ix (ix_listK (K := K) rfl) (pv 2) (pe_op op_sub (pv 4) pe_int) (fun _ _ => rfl)) pe_int (pe_ix (ix_listK (K := K) rfl) (pv 2) (pv 4) (fun _ _ => rfl)))) (fun _ _ _ _ _ => (pv 4))) (pss_one (ps_ret (pe_ifExp (pt_cmpR (op_neD hr.units) (pv 3) (pe_lst pa_nil) (nomark _)) (pe_ix ix_list (pv 3) pe_int (fun _ _ => rfl)) pe_non))))), fun ds d h => ?_⟩, hm, F.kp, F.bindsN (fun _ _ _ _ _ _ us hl => match us, hl with | [_, _], _ => rfl), .nil⟩⟩
  · obtain ⟨vs, p, rfl, hB, hp, rfl⟩ := h
    rfl
  · obtain ⟨vs, p, rfl, hB, hp, rfl⟩ := h
    have hl := hB.lo
    have hh := hB.hi
    refine .ret (sd_seq (sd_asg (ev_call (ea_cons (ev_var rfl) (ea_cons (ev_var rfl) ea_nil)) (ri_law_sides hB hp))) (sd_seq (sd_asg (x := .lst ((((List.range vs.length).filter (tanP (sides vs p))).map fun k => (0 + ((k : Nat) : Int))).map Da.int)) (lst_is (ev_lc (it_is (it_rng1 (ea_cons (ev_cb (ea_cons (ev_var rfl) ea_nil) cd_lenL) ea_nil) (by rw [List.length_map]; omega)) (by rw [List.length_map]; rfl)) (lc_filtG (i := 4) (xs := List.range vs.length) (q := tanP (sides vs p)) (g := fun k : Nat => .int (0 + (k : Int))) (f := fun k : Nat => .int (0 + (k : Int))) (by decide) (fun k hk => et_test (ev_chain (ev_ixL (ev_var rfl) (ev_sub (ev_var rfl) ev_int) (atI_prev (by rw [sides_len]; exact List.mem_range.mp hk))) ev_int (ev_ixL (ev_var rfl) (ev_var rfl) (atI_at (by rw [sides_len]; exact List.mem_range.mp hk))))) (fun k _ _ => ev_var rfl)) (by rw [List.length_map, List.length_range]; omega)) (by rw [List.map_map]; rfl))) (sd_ret ?_)))
    unfold tan
    rw [← filter_head]
    cases e : (List.range vs.length).filter (tanP (sides vs p)) with
    | nil => exact ev_if (b := false) (et_is (et_test (ev_neE (ev_var rfl))) rfl) (fun z => by cases z) (fun _ => ev_non)
    | cons k r => exact ev_if (b := true) (et_is (et_test (ev_neE (ev_var rfl))) rfl) (fun _ => ev_is (ev_ixL (ev_var rfl) ev_int (atI_getD (i := 0) (d0 := 0) (Nat.zero_lt_succ _))) (by show Da.int (0 + (k : Int)) = .int (k : Nat); rw [Int.zero_add])) (fun z => by cases z)
abbrev s_law_left : Stmt := top 74
theorem sc_law_left : FnScope ["_law_corners", "_law_place", "_law_rows", "_law_found", "_law_k"] ["_law_corners", "_law_place"] (defScope s_law_left) := ⟨rfl, rfl, rfl, by decide +kernel, rfl, by decide +kernel, by decide +kernel⟩
def R_law_left (ds : List Da) (d : Da) : Prop := ∃ (vs : List Ve) (p : Pt), ds = [.lst (vs.map v2), p3 p] ∧ PolB vs ∧ PtB p ∧ d = optD (btan vs p)
theorem ri_law_left {vs : List Ve} {p : Pt} (h0 : PolB vs) (h1 : PtB p) : R_law_left [.lst (vs.map v2), p3 p] (optD (btan vs p)) := ⟨vs, p, rfl, h0, h1, rfl⟩
theorem ok_law_left {f : Addr} {fd : FuncData}  (F : FnP K "_law_left" "_law_left" s_law_left f fd) (hm : mg "_law_left" = some (.ref f)) (c__law_sides : C8.Cal P w K mg base 2 "_law_sides" (Prm T R_law_sides) []) (fr_range : mg "range" = none) (fr_len : mg "len" = none)  : C8.Cal P w K mg base 3 "_law_left" (Prm T R_law_left) [] := by
  refine ⟨⟨f, fd, _, [], fn_pure F sc_law_left (fun ds d h => ?_) fun cdv A outer s H E hr => ⟨_, (pss_cons (ps_set (i := 2) sc_law_left.nd rfl (Or.inr rfl) (C8.pe_c c__law_sides hr (by decide) rfl (pa_cons (pv 0) (pa_cons (pv 1) pa_nil)))) (pss_cons (ps_setLc (i := 3) (by rfl) sc_law_left.nd rfl rfl (sw_true rfl rfl rfl (by decide +kernel)) (pi_range1 rfl fr_range (pa_cons (pe_callB call_len_seq (by rfl) fr_len PySem.boot_len (pa_cons (pv 0) pa_nil)) pa_nil)) (blkOk_by (own := [("_law_k", 4)]) (N := ["_law_corners", "_law_place", "_law_rows", "_law_found", "_law_k"]) (sc := defScope s_law_left) (by decide +kernel)) (fun _ _ _ _ _ => (pg_name (i := 4) sc_law_left.nd rfl (Or.inl rfl))) (fun _ _ _ _ _ => pts_one (pt_chain op_lt op_lt (pe_ix (ix_listK (K := K) rfl) (pv 2) (pv 4) (fun _ _ => rfl)) pe_int (pe_ix (ix_listK (K := K) rfl) (pv 2) (pe_op op_sub (pv 4) pe_int) (fun _ _ => rfl)))) (fun _ _ _ _ _ => (pv 4))) (pss_one (ps_ret (pe_ifExp (pt_cmpR (op_neD hr.units) (pv 3) (pe_lst pa_nil) (nomark _)) (pe_ix ix_list (pv 3) pe_int (fun _ _ => rfl)) pe_non))))), fun ds d h => ?_⟩, hm, F.kp, F.bindsN (fun _ _ _ _ _ _ us hl => match us, hl with | [_, _], _ => rfl), .nil⟩⟩
  · obtain ⟨vs, p, rfl, hB, hp, rfl⟩ := h
    rfl
  · obtain ⟨vs, p, rfl, hB, hp, rfl⟩ := h
    have hl := hB.lo
    have hh := hB.hi
    refine .ret (sd_seq (sd_asg (ev_call (ea_cons (ev_var rfl) (ea_cons (ev_var rfl) ea_nil)) (ri_law_sides hB hp))) (sd_seq (sd_asg (x := .lst ((((List.range vs.length).filter (btanP (sides vs p))).map fun k => (0 + ((k : Nat) : Int))).map Da.int)) (lst_is (ev_lc (it_is (it_rng1 (ea_cons (ev_cb (ea_cons (ev_var rfl) ea_nil) cd_lenL) ea_nil) (by rw [List.length_map]; omega)) (by rw [List.length_map]; rfl)) (lc_filtG (i := 4) (xs := List.range vs.length) (q := btanP (sides vs p)) (g := fun k : Nat => .int (0 + (k : Int))) (f := fun k : Nat => .int (0 + (k : Int))) (by decide) (fun k hk => et_test (ev_chain (ev_ixL (ev_var rfl) (ev_var rfl) (atI_at (by rw [sides_len]; exact List.mem_range.mp hk))) ev_int (ev_ixL (ev_var rfl) (ev_sub (ev_var rfl) ev_int) (atI_prev (by rw [sides_len]; exact List.mem_range.mp hk))))) (fun k _ _ => ev_var rfl)) (by rw [List.length_map, List.length_range]; omega)) (by rw [List.map_map]; rfl))) (sd_ret ?_)))
    unfold btan
    rw [← filter_head]
    cases e : (List.range vs.length).filter (btanP (sides vs p)) with
    | nil => exact ev_if (b := false) (et_is (et_test (ev_neE (ev_var rfl))) rfl) (fun z => by cases z) (fun _ => ev_non)
    | cons k r => exact ev_if (b := true) (et_is (et_test (ev_neE (ev_var rfl))) rfl) (fun _ => ev_is (ev_ixL (ev_var rfl) ev_int (atI_getD (i := 0) (d0 := 0) (Nat.zero_lt_succ _))) (by show Da.int (0 + (k : Int)) = .int (k : Nat); rw [Int.zero_add])) (fun z => by cases z)
abbrev s_law_next : Stmt := top 76
theorem sc_law_next : FnScope ["_law_corners", "_law_place", "_law_k"] ["_law_corners", "_law_place"] (defScope s_law_next) := ⟨rfl, rfl, rfl, by decide +kernel, rfl, by decide +kernel, by decide +kernel⟩
def R_law_next (ds : List Da) (d : Da) : Prop := ∃ (vs : List Ve) (p : Pt), ds = [.lst (vs.map v2), p3 p] ∧ PolB vs ∧ PtB p ∧ d = optP (nextL vs p)
theorem ri_law_next {vs : List Ve} {p : Pt} (h0 : PolB vs) (h1 : PtB p) : R_law_next [.lst (vs.map v2), p3 p] (optP (nextL vs p)) := ⟨vs, p, rfl, h0, h1, rfl⟩
theorem ok_law_next {f : Addr} {fd : FuncData}  (F : FnP K "_law_next" "_law_next" s_law_next f fd) (hm : mg "_law_next" = some (.ref f)) (c__law_right : C8.Cal P w K mg base 3 "_law_right" (Prm T R_law_right) []) (c__law_mirror : C8.Cal P w K mg base 1 "_law_mirror" (Prm T R_law_mirror) [])  : C8.Cal P w K mg base 4 "_law_next" (Prm T R_law_next) [] := by
  refine ⟨⟨f, fd, _, [], fn_pure F sc_law_next (fun ds d h => ?_) fun cdv A outer s H E hr => ⟨_, (pss_cons (ps_set (i := 2) sc_law_next.nd rfl (Or.inl rfl) (C8.pe_c c__law_right hr (by decide) rfl (pa_cons (pv 0) (pa_cons (pv 1) pa_nil)))) (pss_one (ps_ret (pe_ifExp (pt_cmpR op_isN (pv 2) pe_non (nomark _)) pe_non (C8.pe_c c__law_mirror hr (by decide) rfl (pa_cons (pv 1) (pa_cons (pe_ix ix_list (pv 0) (pv 2) (fun _ _ => rfl)) pa_nil))))))), fun ds d h => ?_⟩, hm, F.kp, F.bindsN (fun _ _ _ _ _ _ us hl => match us, hl with | [_, _], _ => rfl), .nil⟩⟩
  · obtain ⟨vs, p, rfl, hB, hp, rfl⟩ := h
    rfl
  · obtain ⟨vs, p, rfl, hB, hp, rfl⟩ := h
    refine .ret (sd_seq (sd_asg (ev_call (ea_cons (ev_var rfl) (ea_cons (ev_var rfl) ea_nil)) (ri_law_right hB hp))) (sd_ret ?_))
    unfold nextL
    cases e : tan vs p with
    | none => exact ev_if (b := true) (et_is (et_test (ev_isN (ev_var rfl))) rfl) (fun _ => ev_non) (fun z => by cases z)
    | some k =>
      have hk := tan_lt e
      exact ev_if (b := false) (et_is (et_test (ev_isN (ev_var rfl))) rfl) (fun z => by cases z) (fun _ => ev_call (ea_cons (ev_var rfl) (ea_cons (ev_ixL (ev_var rfl) (ev_var rfl) (by have := idx0 hk; rw [Int.zero_add] at this; exact this)) ea_nil)) (ri_law_mirror ((hB.b1 _).up (by decide)) ((hB.b2 _).up (by decide)) hp.d))
abbrev s_law_previous : Stmt := top 77
theorem sc_law_previous : FnScope ["_law_corners", "_law_place", "_law_k"] ["_law_corners", "_law_place"] (defScope s_law_previous) := ⟨rfl, rfl, rfl, by decide +kernel, rfl, by decide +kernel, by decide +kernel⟩
def R_law_previous (ds : List Da) (d : Da) : Prop := ∃ (vs : List Ve) (p : Pt), ds = [.lst (vs.map v2), p3 p] ∧ PolB vs ∧ PtB p ∧ d = optP (prevL vs p)
theorem ri_law_previous {vs : List Ve} {p : Pt} (h0 : PolB vs) (h1 : PtB p) : R_law_previous [.lst (vs.map v2), p3 p] (optP (prevL vs p)) := ⟨vs, p, rfl, h0, h1, rfl⟩
theorem ok_law_previous {f : Addr} {fd : FuncData}  (F : FnP K "_law_previous" "_law_previous" s_law_previous f fd) (hm : mg "_law_previous" = some (.ref f)) (c__law_left : C8.Cal P w K mg base 3 "_law_left" (Prm T R_law_left) []) (c__law_mirror : C8.Cal P w K mg base 1 "_law_mirror" (Prm T R_law_mirror) [])  : C8.Cal P w K mg base 4 "_law_previous" (Prm T R_law_previous) [] := by
  refine ⟨⟨f, fd, _, [], fn_pure F sc_law_previous (fun ds d h => ?_) fun cdv A outer s H E hr => ⟨_, (pss_cons (ps_set (i := 2) sc_law_previous.nd rfl (Or.inl rfl) (C8.pe_c c__law_left hr (by decide) rfl (pa_cons (pv 0) (pa_cons (pv 1) pa_nil)))) (pss_one (ps_ret (pe_ifExp (pt_cmpR op_isN (pv 2) pe_non (nomark _)) pe_non (C8.pe_c c__law_mirror hr (by decide) rfl (pa_cons (pv 1) (pa_cons (pe_ix ix_list (pv 0) (pv 2) (fun _ _ => rfl)) pa_nil))))))), fun ds d h => ?_⟩, hm, F.kp, F.bindsN (fun _ _ _ _ _ _ us hl => match us, hl with | [_, _], _ => rfl), .nil⟩⟩
  · obtain ⟨vs, p, rfl, hB, hp, rfl⟩ := h
    rfl
  · obtain ⟨vs, p, rfl, hB, hp, rfl⟩ := h
    refine .ret (sd_seq (sd_asg (ev_call (ea_cons (ev_var rfl) (ea_cons (ev_var rfl) ea_nil)) (ri_law_left hB hp))) (sd_ret ?_))
    unfold prevL
    cases e : btan vs p with
    | none => exact ev_if (b := true) (et_is (et_test (ev_isN (ev_var rfl))) rfl) (fun _ => ev_non) (fun z => by cases z)
    | some k =>
      have hk := btan_lt e
      exact ev_if (b := false) (et_is (et_test (ev_isN (ev_var rfl))) rfl) (fun z => by cases z) (fun _ => ev_call (ea_cons (ev_var rfl) (ea_cons (ev_ixL (ev_var rfl) (ev_var rfl) (by have := idx0 hk; rw [Int.zero_add] at this; exact this)) ea_nil)) (ri_law_mirror ((hB.b1 _).up (by decide)) ((hB.b2 _).up (by decide)) hp.d))
end
end O26
set_option Elab.async false
set_option linter.all false
set_option maxRecDepth 100000
set_option maxHeartbeats 4000000
namespace O26
open PySem PySem.Spec PyProof.Rows L2
theorem cut_drop {l : List Da} {k : Nat} (h : k ≤ l.length) : cutD l (some ((k : Nat) : Int)) none = l.drop k := by
  unfold cutD
  rw [HT.sIx_nat, HT.sIx_none, Nat.min_eq_left h]
  exact List.take_of_length_le (by rw [List.length_drop]; exact Nat.le_refl _)
theorem cut_take {l : List Da} {k : Nat} (h : k ≤ l.length) : cutD l none (some ((k : Nat) : Int)) = l.take k := by
  unfold cutD
  rw [HT.sIx_nat, HT.sIx_none, Nat.min_eq_left h]
  simp
theorem leastW_eq (v : Ve) (vs : List Ve) : leastW v vs = leastV v vs := rfl
theorem leastW_mem : ∀ (vs : List Ve) (v : Ve), leastW v vs ∈ v :: vs
  | [], v => List.mem_cons_self
  | a :: vs, v => by
    have h := leastW_mem vs (if ltVb a v then a else v)
    have e : leastW v (a :: vs) = leastW (if ltVb a v then a else v) vs := rfl
    rw [e]
    rcases List.mem_cons.mp h with h | h
    · rw [h]
      split
      · exact List.mem_cons_of_mem _ List.mem_cons_self
      · exact List.mem_cons_self
    · exact List.mem_cons_of_mem _ (List.mem_cons_of_mem _ h)
theorem leastK_spec (v : Ve) (r : List Ve) : (v :: r)[leastK v r]? = some (leastW v r) ∧ ∀ m, m < leastK v r → (v :: r)[m]? ≠ some (leastW v r) := by
  unfold leastK
  cases e : (v :: r).findIdx? fun x => decide (x = leastW v r) with
  | none =>
    rw [List.findIdx?_eq_none_iff] at e
    have := e _ (leastW_mem r v)
    simp at this
  | some i =>
    rw [List.findIdx?_eq_some_iff_getElem] at e
    obtain ⟨hi, ha, hb⟩ := e
    refine ⟨by show (v :: r)[i]? = _; rw [List.getElem?_eq_getElem hi, of_decide_eq_true ha], fun m hm hk => ?_⟩
    have hm : m < i := hm
    have hml : m < (v :: r).length := by omega
    rw [List.getElem?_eq_getElem hml] at hk
    have := hb m hm
    rw [Option.some.inj hk] at this
    simp at this
theorem leastK_lt (v : Ve) (r : List Ve) : leastK v r < (v :: r).length := by
  obtain ⟨h, _⟩ := List.getElem?_eq_some_iff.mp (leastK_spec v r).1
  exact h
abbrev t6 (t : Tab) : Da := .tup [.int t.a, .int t.b, .int t.c, .int t.d, .int t.p, .int t.q]
structure TabBd (t : Tab) : Prop where
  a : Bd 12 t.a
  b : Bd 12 t.b
  c : Bd 12 t.c
  d : Bd 12 t.d
  p : Bd 12 t.p
  q : Bd 12 t.q
abbrev shD (s : List Ve) : Da := .lst (s.map v2)
abbrev rowsD : List Da := rowsT.map fun t => .tup [.int t.a, .int t.b, .int t.c, .int t.d]
theorem rowsD_get {k : Nat} (h : k < 8) : rowsD.getD k .non = .tup [.int (rowT k).a, .int (rowT k).b, .int (rowT k).c, .int (rowT k).d] := by
  unfold rowsD rowT
  rw [List.getD_eq_getElem?_getD, List.getElem?_map, List.getElem?_eq_getElem (show k < rowsT.length from h), List.getD_eq_getElem?_getD, List.getElem?_eq_getElem (show k < rowsT.length from h)]
  rfl
theorem rowT_mem (k : Nat) : rowT k ∈ rowsT := by
  unfold rowT
  by_cases h : k < rowsT.length
  · exact getD_mem h
  · rw [List.getD_eq_getElem?_getD, List.getElem?_eq_none (Nat.le_of_not_lt h)]
    exact List.mem_cons_self
theorem rowT_all {p : Tab → Prop} (h : ∀ t ∈ rowsT, p t) (k : Nat) : p (rowT k) := h _ (rowT_mem k)
theorem rowT_bd (k : Nat) : TabBd (rowT k) := rowT_all (p := TabBd) (fun t ht => by
  have h : ∀ t ∈ rowsT, t.a.natAbs < 4096 ∧ t.b.natAbs < 4096 ∧ t.c.natAbs < 4096 ∧ t.d.natAbs < 4096 ∧ t.p.natAbs < 4096 ∧ t.q.natAbs < 4096 := by decide
  obtain ⟨h1, h2, h3, h4, h5, h6⟩ := h t ht
  exact ⟨⟨h1⟩, ⟨h2⟩, ⟨h3⟩, ⟨h4⟩, ⟨h5⟩, ⟨h6⟩⟩) k
theorem rowT_t6 (k : Nat) : Da.tup ([.int (rowT k).a, .int (rowT k).b, .int (rowT k).c, .int (rowT k).d] ++ [.int 0, .int 0]) = t6 (rowT k) := by
  have h : ∀ t ∈ rowsT, t.p = 0 ∧ t.q = 0 := by decide
  obtain ⟨h1, h2⟩ := h _ (rowT_mem k)
  show Da.tup _ = Da.tup [_, _, _, _, .int (rowT k).p, .int (rowT k).q]
  rw [h1, h2]
  rfl
structure small3 (a : Nat) (v : Ve) : Prop where
  x : v.1.natAbs ≤ 3 ^ a
  y : v.2.natAbs ≤ 3 ^ a
theorem small3.bd {a : Nat} {v : Ve} (h : small3 a v) (ha : a ≤ 4) : Bd 20 v.1 ∧ Bd 20 v.2 := by
  have e : 3 ^ a ≤ 3 ^ 4 := Nat.pow_le_pow_right (by decide) ha
  have e2 : 3 ^ 4 < 2 ^ 20 := by decide
  exact ⟨⟨by have := h.x; omega⟩, ⟨by have := h.y; omega⟩⟩
theorem small3_iff {a : Nat} {v : Ve} : small3 a v ↔ (v.1.natAbs ≤ 3 ^ a ∧ v.2.natAbs ≤ 3 ^ a) := ⟨fun h => ⟨h.x, h.y⟩, fun h => ⟨h.1, h.2⟩⟩
theorem small3_map {a k : Nat} {v : Ve} (h : small3 a v) : small3 (a + 1) (mapC (rowT k) v) := by
  have h1 := h.x
  have h2 := h.y
  rw [small3_iff]
  refine rowT_all (p := fun t => (mapC t v).1.natAbs ≤ 3 ^ (a + 1) ∧ (mapC t v).2.natAbs ≤ 3 ^ (a + 1)) (fun t ht => ?_) k
  rw [Nat.pow_succ]
  generalize 3 ^ a = m at h1 h2
  unfold rowsT at ht
  simp only [List.mem_cons, List.not_mem_nil, or_false] at ht
  unfold mapC
  rcases ht with rfl | rfl | rfl | rfl | rfl | rfl | rfl | rfl <;> simp only <;> omega
theorem sds_forP {T : Tb} {S : Os} {g : TG} {ts tu : TS} {δ : List (Option Da)} {o : Out} {te : TE} {p : Addr} {q q' : Pen} {m : Nat} {G : List (Option Da) → Os → Prop} (h : EvS T S te δ (.int (m : Nat)) (pS p q')) (hm : m ≤ 1000000) (hf : ∃ δ' S', G δ' S' ∧ ForD T g ts (pS p q') ((List.range m).map fun i => .int (0 + ((i : Nat) : Int))) δ (.nx δ' S')) (k : ∀ δ' S', G δ' S' → SD T S' tu δ' o) : SD T S (tSeq (tFor (iRng1 (tCons te tNil)) g ts) tu) δ o := by
  obtain ⟨δ', S', h1, h2⟩ := hf
  exact sd_seq (sds_for1 (eas_cons h eas_nil) (by omega) (by rw [Int.toNat_natCast]; exact h2)) (k δ' S' h1)
section
variable {P : Program} {w : World} {K : PySem.W.Frag} {mg : Str → Option Value} {base : Heap} {T : Tb}
abbrev s_law_from_least : Stmt := top 78
theorem sc_law_from_least : FnScope ["_law_corners", "_law_k"] ["_law_corners"] (defScope s_law_from_least) := ⟨rfl, rfl, rfl, by decide +kernel, rfl, by decide +kernel, by decide +kernel⟩
def R_law_from_least (ds : List Da) (d : Da) : Prop := ∃ (v : Ve) (r : List Ve), ds = [.lst ((v :: r).map v2)] ∧ r.length ≤ 100 ∧ d = .lst ((fromLeast (v :: r)).map v2)
theorem ri_law_from_least {v : Ve} {r : List Ve} (h0 : r.length ≤ 100) : R_law_from_least [.lst ((v :: r).map v2)] (.lst ((fromLeast (v :: r)).map v2)) := ⟨v, r, rfl, h0, rfl⟩
theorem ok_law_from_least {f : Addr} {fd : FuncData}  (F : FnP K "_law_from_least" "_law_from_least" s_law_from_least f fd) (hm : mg "_law_from_least" = some (.ref f)) (fr_min : mg "min" = none)  : C8.Cal P w K mg base 1 "_law_from_least" (Prm T R_law_from_least) [] := by
  refine ⟨⟨f, fd, _, [], fn_pure F sc_law_from_least (fun ds d h => ?_) fun cdv A outer s H E hr => ⟨_, (pss_cons (ps_set (i := 1) sc_law_from_least.nd rfl (Or.inl rfl) (pe_bm PySem.F.plainAttrs_list PySem.F.slot_list_index PySem.F.type_list_index (mt_indexD (room65 hr)) (pv 0) (pa_cons (pe_callB (cr_minPy (by rfl) hr.units) (by rfl) fr_min (by decide +kernel) (pa_cons (pv 0) pa_nil)) pa_nil))) (pss_one (ps_ret (pe_op op_cat (pe_slice sl_list (pv 0) (po_some (pv 1)) po_none) (pe_slice sl_list (pv 0) po_none (po_some (pv 1))))))), fun ds d h => ?_⟩, hm, F.kp, F.bindsN (fun _ _ _ _ _ _ us hl => match us, hl with | [_], _ => rfl), .nil⟩⟩
  · obtain ⟨v, r, rfl, hl, rfl⟩ := h
    rfl
  · obtain ⟨v, r, rfl, hl, rfl⟩ := h
    have hk := leastK_lt v r
    refine .ret (sd_seq (sd_asg (ev_indexV (j := leastK v r) (v := leastW v r) (vs := v :: r) (ev_var rfl) (ev_cb (ea_cons (ev_var rfl) ea_nil) cd_minV) (leastK_spec v r))) (sd_ret (lst_is (ev_catL (ev_slL (ev_var rfl) (eo_some (ev_var rfl)) eo_none) (ev_slL (ev_var rfl) eo_none (eo_some (ev_var rfl))) ?_) ?_)))
    · rw [cut_drop (by rw [List.length_map]; omega), cut_take (by rw [List.length_map]; omega), List.length_drop, List.length_take, List.length_map, List.length_cons]
      omega
    · rw [cut_drop (by rw [List.length_map]; omega), cut_take (by rw [List.length_map]; omega), ← List.map_drop, ← List.map_take, ← List.map_append]
      rfl
abbrev s_law_map_corner : Stmt := top 83
theorem sc_law_map_corner : FnScope ["_law_table_here", "_law_corner", "_law_a", "_law_b", "_law_c", "_law_d", "_law_p", "_law_q"] ["_law_table_here", "_law_corner"] (defScope s_law_map_corner) := ⟨rfl, rfl, rfl, by decide +kernel, rfl, by decide +kernel, by decide +kernel⟩
def R_law_map_corner (ds : List Da) (d : Da) : Prop := ∃ (t : Tab) (v : Ve), ds = [t6 t, v2 v] ∧ TabBd t ∧ Bd 20 v.1 ∧ Bd 20 v.2 ∧ d = v2 (mapC t v)
theorem ri_law_map_corner {t : Tab} {v : Ve} (h0 : TabBd t) (h1 : Bd 20 v.1) (h2 : Bd 20 v.2) : R_law_map_corner [t6 t, v2 v] (v2 (mapC t v)) := ⟨t, v, rfl, h0, h1, h2, rfl⟩
theorem ok_law_map_corner {f : Addr} {fd : FuncData}  (F : FnP K "_law_map_corner" "_law_map_corner" s_law_map_corner f fd) (hm : mg "_law_map_corner" = some (.ref f))   : C8.Cal P w K mg base 1 "_law_map_corner" (Prm T R_law_map_corner) [] := by
  refine ⟨⟨f, fd, _, [], fn_pure F sc_law_map_corner (fun ds d h => ?_) fun cdv A outer s H E hr => ⟨_, (pss_cons (ps_asg (pv 0) (pg_tup (by rfl) (pgs_cons (pg_name (i := 2) sc_law_map_corner.nd rfl (Or.inl rfl)) (pgs_cons (pg_name (i := 3) sc_law_map_corner.nd rfl (Or.inl rfl)) (pgs_cons (pg_name (i := 4) sc_law_map_corner.nd rfl (Or.inl rfl)) (pgs_cons (pg_name (i := 5) sc_law_map_corner.nd rfl (Or.inl rfl)) (pgs_cons (pg_name (i := 6) sc_law_map_corner.nd rfl (Or.inl rfl)) (pgs_cons (pg_name (i := 7) sc_law_map_corner.nd rfl (Or.inl rfl)) pgs_nil)))))))) (pss_one (ps_ret (pe_tup (pa_cons (pe_op op_add (pe_op op_add (pe_op op_mulW (pv 2) (pe_ix ix_tup (pv 1) pe_int (fun _ _ => rfl))) (pe_op op_mulW (pv 3) (pe_ix ix_tup (pv 1) pe_int (fun _ _ => rfl)))) (pv 6)) (pa_cons (pe_op op_add (pe_op op_add (pe_op op_mulW (pv 4) (pe_ix ix_tup (pv 1) pe_int (fun _ _ => rfl))) (pe_op op_mulW (pv 5) (pe_ix ix_tup (pv 1) pe_int (fun _ _ => rfl)))) (pv 7)) pa_nil)))))), fun ds d h => ?_⟩, hm, F.kp, F.bindsN (fun _ _ _ _ _ _ us hl => match us, hl with | [_, _], _ => rfl), .nil⟩⟩
  · obtain ⟨t, v, rfl, ht, h1, h2, rfl⟩ := h
    rfl
  · obtain ⟨t, v, rfl, ht, h1, h2, rfl⟩ := h
    have := ht.a; have := ht.b; have := ht.c; have := ht.d
    exact .ret (sd_seq (sd_asgG (ev_var rfl) (gd_tup (gds_cons gd_name (gds_cons gd_name (gds_cons gd_name (gds_cons gd_name (gds_cons gd_name (gds_cons gd_name gds_nil)))))))) (sd_ret (ev_tup (ea_cons (ev_add (ev_add (ev_mulB (ev_var rfl) (ev_ixT (ev_var rfl) ev_int rfl)) (ev_mulB (ev_var rfl) (ev_ixT (ev_var rfl) ev_int rfl))) (ev_var rfl)) (ea_cons (ev_add (ev_add (ev_mulB (ev_var rfl) (ev_ixT (ev_var rfl) ev_int rfl)) (ev_mulB (ev_var rfl) (ev_ixT (ev_var rfl) ev_int rfl))) (ev_var rfl)) ea_nil)))))
abbrev s_law_mapped : Stmt := top 84
theorem sc_law_mapped : FnScope ["_law_table_here", "_law_corners", "_law_result_here", "_law_corner"] ["_law_table_here", "_law_corners"] (defScope s_law_mapped) := ⟨rfl, rfl, rfl, by decide +kernel, rfl, by decide +kernel, by decide +kernel⟩
def R_law_mapped (ds : List Da) (d : Da) : Prop := ∃ (t : Tab) (vs : List Ve), ds = [t6 t, .lst (vs.map v2)] ∧ TabBd t ∧ (∀ v ∈ vs, Bd 20 v.1 ∧ Bd 20 v.2) ∧ vs ≠ [] ∧ vs.length ≤ 100 ∧ d = .lst ((mappedL t vs).map v2)
theorem ri_law_mapped {t : Tab} {vs : List Ve} (h0 : TabBd t) (h1 : (∀ v ∈ vs, Bd 20 v.1 ∧ Bd 20 v.2)) (h2 : vs ≠ []) (h3 : vs.length ≤ 100) : R_law_mapped [t6 t, .lst (vs.map v2)] (.lst ((mappedL t vs).map v2)) := ⟨t, vs, rfl, h0, h1, h2, h3, rfl⟩
theorem ok_law_mapped {f : Addr} {fd : FuncData}  (F : FnP K "_law_mapped" "_law_mapped" s_law_mapped f fd) (hm : mg "_law_mapped" = some (.ref f)) (c__law_map_corner : C8.Cal P w K mg base 1 "_law_map_corner" (Prm T R_law_map_corner) []) (c__law_cross : C8.Cal P w K mg base 1 "_law_cross" (Prm T R_law_cross) []) (c__law_from_least : C8.Cal P w K mg base 1 "_law_from_least" (Prm T R_law_from_least) [])  : C8.Cal P w K mg base 2 "_law_mapped" (Prm T R_law_mapped) [] := by
  refine ⟨⟨f, fd, _, [], fn_pure F sc_law_mapped (fun ds d h => ?_) fun cdv A outer s H E hr => ⟨_, (pss_cons (ps_setLc (i := 2) (by rfl) sc_law_mapped.nd rfl rfl (sw_true rfl rfl rfl (by decide +kernel)) (pi_list (pv 1)) (blkOk_by (own := [("_law_corner", 3)]) (N := ["_law_table_here", "_law_corners", "_law_result_here", "_law_corner"]) (sc := defScope s_law_mapped) (by decide +kernel)) (fun _ _ _ _ _ => (pg_name (i := 3) sc_law_mapped.nd rfl (Or.inl rfl))) (fun _ _ _ _ _ => pts_nil) (fun _ _ _ _ _ => (C8.pe_c c__law_map_corner hr (by decide) rfl (pa_cons (pv 0) (pa_cons (pv 3) pa_nil))))) (pss_one (ps_ret (C8.pe_c c__law_from_least hr (by decide) rfl (pa_cons (pe_ifExp (pt_cmpR op_eq (C8.pe_c c__law_cross hr (by decide) rfl (pa_cons (pe_slice sl_tup (pv 0) po_none (po_some pe_int)) (pa_cons (pe_slice sl_tup (pv 0) (po_some pe_int) (po_some pe_int)) pa_nil))) pe_int (nomark _)) (pv 2) (pe_revL (pv 2))) pa_nil))))), fun ds d h => ?_⟩, hm, F.kp, F.bindsN (fun _ _ _ _ _ _ us hl => match us, hl with | [_, _], _ => rfl), .nil⟩⟩
  · obtain ⟨t, vs, rfl, ht, hv, hne, hlen, rfl⟩ := h
    rfl
  · obtain ⟨t, vs, rfl, ht, hv, hne, hlen, rfl⟩ := h
    have := ht.a; have := ht.b; have := ht.c; have := ht.d
    refine .ret (sd_seq (sd_asg (x := .lst ((vs.map (mapC t)).map v2)) (lst_is (ev_lc (it_list (ev_var rfl)) (lc_mapG (i := 3) (xs := vs) (g := v2) (f := fun v => v2 (mapC t v)) (by decide) fun v h => ev_call (ea_cons (ev_var rfl) (ea_cons (ev_var rfl) ea_nil)) (ri_law_map_corner ht (hv v h).1 (hv v h).2)) (by rw [List.length_map]; omega)) (by rw [List.map_map]; rfl))) (sd_ret ?_))
    have key : ∀ l : List Ve, l ≠ [] → l.length ≤ 100 → ∃ v r, l = v :: r ∧ r.length ≤ 100 := fun l h1 h2 => by
      cases l with
      | nil => exact absurd rfl h1
      | cons v r => exact ⟨v, r, rfl, by rw [List.length_cons] at h2; omega⟩
    have hcr := ri_law_cross (a := t.a) (b := t.b) (c := t.c) (e := t.d) (ht.a.up (by decide)) (ht.b.up (by decide)) (ht.c.up (by decide)) (ht.d.up (by decide))
    by_cases h1 : crs (t.a, t.b) (t.c, t.d) = 1
    · obtain ⟨v, r, e, hr'⟩ := key (vs.map (mapC t)) (by simpa using hne) (by rw [List.length_map]; exact hlen)
      unfold mappedL
      rw [if_pos h1, e]
      exact ev_call (ea_cons (ev_if (b := true) (et_is (et_test (ev_eqI (ev_call (ea_cons (ev_slT (ev_var rfl) eo_none (eo_some ev_int) (by show ¬ ((0 : Nat) = 0 ∧ (2 : Nat) = 6); decide)) (ea_cons (ev_slT (ev_var rfl) (eo_some ev_int) (eo_some ev_int) (by show ¬ ((2 : Nat) = 0 ∧ (4 : Nat) = 6); decide)) ea_nil)) hcr) ev_int)) (decide_eq_true h1)) (fun _ => ev_var rfl) (fun z => by cases z)) ea_nil) (ri_law_from_least hr')
    · obtain ⟨v, r, e, hr'⟩ := key (vs.map (mapC t)).reverse (by simpa using hne) (by rw [List.length_reverse, List.length_map]; exact hlen)
      unfold mappedL
      rw [if_neg h1, e]
      exact ev_call (ea_cons (ev_if (b := false) (et_is (et_test (ev_eqI (ev_call (ea_cons (ev_slT (ev_var rfl) eo_none (eo_some ev_int) (by show ¬ ((0 : Nat) = 0 ∧ (2 : Nat) = 6); decide)) (ea_cons (ev_slT (ev_var rfl) (eo_some ev_int) (eo_some ev_int) (by show ¬ ((2 : Nat) = 0 ∧ (4 : Nat) = 6); decide)) ea_nil)) hcr) ev_int)) (decide_eq_false h1)) (fun z => by cases z) (fun _ => lst_is (ev_rev (ev_var rfl)) (by rw [← List.map_reverse, e]))) ea_nil) (ri_law_from_least hr')
abbrev s_law_table : Stmt := top 85
theorem sc_law_table : FnScope ["_law_pen_here", "_law_far", "_law_rows", "_law_one", "_law_two", "_law_k", "_law_table_here", "_law_p", "_law_q"] ["_law_pen_here", "_law_far"] (defScope s_law_table) := ⟨rfl, rfl, rfl, by decide +kernel, rfl, by decide +kernel, by decide +kernel⟩
def R_law_table (ds : List Da) (S0 S1 : Os) (d : Da) : Prop := ∃ (p : Addr) (q : Pen) (n : Nat), ds = [.fn p, .int 20] ∧ PenOk n q ∧ n ≤ 900000 ∧ S0 = pS p q ∧ S1 = pS p (tabP q) ∧ d = t6 (tabT q)
theorem ok_law_table {f : Addr} {fd : FuncData}  (F : FnP K "_law_table" "_law_table" s_law_table f fd) (hm : mg "_law_table" = some (.ref f)) (fr_range : mg "range" = none) (c__law_draw : C8.Cal P w K mg base 1 "_law_draw" (PrmS T R_law_draw) []) (c__law_pick : C8.Cal P w K mg base 2 "_law_pick" (PrmS T R_law_pick) []) (c__law_map_corner : C8.Cal P w K mg base 1 "_law_map_corner" (Prm T R_law_map_corner) [])  : C8.Cal P w K mg base 3 "_law_table" (PrmS T R_law_table) [] := by
  refine ⟨f, fd, _, [], fn_own F sc_law_table (fun ds S0 S1 d h => ?_) fun cdv A outer s H E hr => ⟨_, (pss_cons (ps_set (i := 2) sc_law_table.nd rfl (Or.inl rfl) (pe_lst (pa_cons (pe_tup (pa_cons pe_int (pa_cons pe_int (pa_cons pe_int (pa_cons pe_int pa_nil))))) (pa_cons (pe_tup (pa_cons pe_int (pa_cons pe_int (pa_cons pe_int (pa_cons pe_int pa_nil))))) (pa_cons (pe_tup (pa_cons pe_int (pa_cons pe_int (pa_cons pe_int (pa_cons pe_int pa_nil))))) (pa_cons (pe_tup (pa_cons pe_int (pa_cons (pe_un un_neg pe_int) (pa_cons pe_int (pa_cons pe_int pa_nil))))) pa_nil)))))) (pss_cons (ps_set (i := 2) sc_law_table.nd rfl (Or.inl rfl) (pe_op op_cat (pv 2) (pe_lst (pa_cons (pe_tup (pa_cons pe_int (pa_cons (pe_un un_neg pe_int) (pa_cons pe_int (pa_cons pe_int pa_nil))))) (pa_cons (pe_tup (pa_cons pe_int (pa_cons pe_int (pa_cons (pe_un un_neg pe_int) (pa_cons pe_int pa_nil))))) (pa_cons (pe_tup (pa_cons pe_int (pa_cons pe_int (pa_cons pe_int (pa_cons pe_int pa_nil))))) (pa_cons (pe_tup (pa_cons pe_int (pa_cons pe_int (pa_cons pe_int (pa_cons pe_int pa_nil))))) pa_nil))))))) (pss_cons (ps_asg (pe_tup (pa_cons (pe_tup (pa_cons pe_int (pa_cons pe_int pa_nil))) (pa_cons (pe_tup (pa_cons pe_int (pa_cons pe_int pa_nil))) pa_nil))) (pg_tup (by rfl) (pgs_cons (pg_name (i := 3) sc_law_table.nd rfl (Or.inl rfl)) (pgs_cons (pg_name (i := 4) sc_law_table.nd rfl (Or.inl rfl)) pgs_nil)))) (pss_cons (ps_for PassesOwn.never rfl (pi_range1 rfl fr_range (pa_cons (C8.pe_c c__law_draw hr (by decide) rfl (pa_cons (pv 0) (pa_cons pe_int pa_nil))) pa_nil)) (pg_name (i := 5) sc_law_table.nd rfl (Or.inl rfl)) (pss_cons (ps_set (i := 6) sc_law_table.nd rfl (Or.inl rfl) (pe_op op_catT (C8.pe_c c__law_pick hr (by decide) rfl (pa_cons (pv 0) (pa_cons (pv 2) pa_nil))) (pe_tup (pa_cons pe_int (pa_cons pe_int pa_nil))))) (pss_one (ps_par (i := 3) (j := 4) (by rfl) sc_law_table.nd rfl rfl (by decide) rfl rfl (pa_cons (C8.pe_c c__law_map_corner hr (by decide) rfl (pa_cons (pv 6) (pa_cons (pv 3) pa_nil))) (pa_cons (C8.pe_c c__law_map_corner hr (by decide) rfl (pa_cons (pv 6) (pa_cons (pv 4) pa_nil))) pa_nil)) (by rfl))))) (pss_cons (ps_par (i := 7) (j := 8) (by rfl) sc_law_table.nd rfl rfl (by decide) rfl rfl (pa_cons (pe_op op_sub (C8.pe_c c__law_draw hr (by decide) rfl (pa_cons (pv 0) (pa_cons (pe_op op_add (pe_op op_mulW pe_int (pv 1)) pe_int) pa_nil))) (pv 1)) (pa_cons (pe_op op_sub (C8.pe_c c__law_draw hr (by decide) rfl (pa_cons (pv 0) (pa_cons (pe_op op_add (pe_op op_mulW pe_int (pv 1)) pe_int) pa_nil))) (pv 1)) pa_nil)) (by rfl)) (pss_one (ps_ret (pe_tup (pa_cons (pe_ix ix_tup (pv 3) pe_int (fun _ _ => rfl)) (pa_cons (pe_ix ix_tup (pv 4) pe_int (fun _ _ => rfl)) (pa_cons (pe_ix ix_tup (pv 3) pe_int (fun _ _ => rfl)) (pa_cons (pe_ix ix_tup (pv 4) pe_int (fun _ _ => rfl)) (pa_cons (pv 7) (pa_cons (pv 8) pa_nil)))))))))))))), fun ds S0 S1 d h => ?_⟩, hm, F.kp, F.bindsN (fun _ _ _ _ _ _ us hl => match us, hl with | [_, _], _ => rfl), .nil⟩
  · obtain ⟨p, q, n, rfl, hq, hn, rfl, rfl, rfl⟩ := h
    rfl
  · obtain ⟨p, q, n, rfl, hq, hn, rfl, rfl, rfl⟩ := h
    have h4 := drawN_lt (q := q) (n := 4) (by decide)
    have b20 : Bd 6 20 := ⟨by decide⟩
    refine sdo_pen (sd_seq (sd_asg (ev_lst (ea_cons (ev_tup (ea_cons ev_int (ea_cons ev_int (ea_cons ev_int (ea_cons ev_int ea_nil))))) (ea_cons (ev_tup (ea_cons ev_int (ea_cons ev_int (ea_cons ev_int (ea_cons ev_int ea_nil))))) (ea_cons (ev_tup (ea_cons ev_int (ea_cons ev_int (ea_cons ev_int (ea_cons ev_int ea_nil))))) (ea_cons (ev_tup (ea_cons ev_int (ea_cons (ev_neg ev_int) (ea_cons ev_int (ea_cons ev_int ea_nil))))) ea_nil)))))) (sd_seq (sd_asg (x := .lst rowsD) (lst_is (ev_catL (ev_var rfl) (ev_lst (ea_cons (ev_tup (ea_cons ev_int (ea_cons (ev_neg ev_int) (ea_cons ev_int (ea_cons ev_int ea_nil))))) (ea_cons (ev_tup (ea_cons ev_int (ea_cons ev_int (ea_cons (ev_neg ev_int) (ea_cons ev_int ea_nil))))) (ea_cons (ev_tup (ea_cons ev_int (ea_cons ev_int (ea_cons ev_int (ea_cons ev_int ea_nil))))) (ea_cons (ev_tup (ea_cons ev_int (ea_cons ev_int (ea_cons ev_int (ea_cons ev_int ea_nil))))) ea_nil))))) (Nat.le_of_ble_eq_true rfl)) rfl)) (sd_seq (sd_asgG (ev_tup (ea_cons (ev_tup (ea_cons ev_int (ea_cons ev_int ea_nil))) (ea_cons (ev_tup (ea_cons ev_int (ea_cons ev_int ea_nil))) ea_nil))) (gd_tup (gds_cons gd_name (gds_cons gd_name gds_nil)))) (sds_forP (q := q) (q' := drawP q 4) (G := (fun a δ' S' => ∃ q' one two z5 z6, tabGo (drawN q 4 - a) q' one two = tabM q ∧ PenOk (n + 1 + a) q' ∧ small3 a one ∧ small3 a two ∧ S' = pS p q' ∧ δ' = [some (.fn p), some (.int 20), some (.lst rowsD), some (v2 one), some (v2 two), z5, z6, none, none] : Nat → List (Option Da) → Os → Prop) (drawN q 4)) (evs_is (evs_pen (EvA.s (ea_cons (ev_var rfl) (ea_cons ev_int ea_nil))) ⟨p, q, 4, n, rfl, by decide, by decide, hq, by omega, rfl, rfl, rfl⟩) (by rw [show (4 : Int) = ((4 : Nat) : Int) from rfl, drawN_eq (by decide)])) (by omega) (for_nat (drawN q 4) (fun a δ' S' => ∃ q' one two z5 z6, tabGo (drawN q 4 - a) q' one two = tabM q ∧ PenOk (n + 1 + a) q' ∧ small3 a one ∧ small3 a two ∧ S' = pS p q' ∧ δ' = [some (.fn p), some (.int 20), some (.lst rowsD), some (v2 one), some (v2 two), z5, z6, none, none]) ?_ ⟨drawP q 4, (1, 0), (0, 1), none, none, rfl, hq.draw, ⟨by decide, by decide⟩, ⟨by decide, by decide⟩, rfl, rfl⟩) ?_))))
    · rintro a δ S ha ⟨q', one, two, z5, z6, h1, h2, h3, h5, rfl, rfl⟩
      have hk := drawN_lt (q := q') (n := 8) (by decide)
      have hr8 : pickD q' rowsD = .tup [.int (rowT (drawN q' 8)).a, .int (rowT (drawN q' 8)).b, .int (rowT (drawN q' 8)).c, .int (rowT (drawN q' 8)).d] := rowsD_get hk
      have ht := rowT_bd (drawN q' 8)
      have s1 := h3.bd (by omega); have s2 := h5.bd (by omega)
      have s3 := small3_map (k := drawN q' 8) h3; have s4 := small3_map (k := drawN q' 8) h5
      refine ⟨_, _, _, pS p (drawP q' 8), gd_name, sd_seq (sds_asg (x := t6 (rowT (drawN q' 8))) (evs_op (evs_is (evs_pen (EvA.s (ea_cons (ev_var rfl) (ea_cons (ev_var rfl) ea_nil))) ⟨p, q', rowsD, n + 1 + a, rfl, by decide, by decide, h2, by omega, rfl, rfl, rfl⟩) hr8) (EvD.s (ev_tup (ea_cons ev_int (ea_cons ev_int ea_nil)))) (od_is (od_catT (l := [.int (rowT (drawN q' 8)).a, .int (rowT (drawN q' 8)).b, .int (rowT (drawN q' 8)).c, .int (rowT (drawN q' 8)).d]) (m := [.int 0, .int 0]) (Nat.le_of_ble_eq_true rfl) nofun nofun) (rowT_t6 _)))) (sd_par (ea_cons (ev_call (ea_cons (ev_var rfl) (ea_cons (ev_var rfl) ea_nil)) (ri_law_map_corner ht s1.1 s1.2)) (ea_cons (ev_call (ea_cons (ev_var rfl) (ea_cons (ev_var rfl) ea_nil)) (ri_law_map_corner ht s2.1 s2.2)) ea_nil))), drawP q' 8, _, _, _, _, ?_, h2.draw, s3, s4, rfl, rfl⟩
      rw [← h1, show drawN q 4 - a = (drawN q 4 - (a + 1)) + 1 by omega]
      rfl
    · rintro δ S ⟨q', one, two, z5, z6, h1, h2, h3, h5, rfl, rfl⟩
      rw [Nat.sub_self] at h1
      have e1 : tabM q = ((one, two), q') := h1.symm
      have eP : tabP q = drawP (drawP q' 41) 41 := by unfold tabP; rw [e1]
      have eT : tabT q = ⟨one.1, two.1, one.2, two.2, drawD q' 41 - 20, drawD (drawP q' 41) 41 - 20⟩ := by unfold tabT; rw [e1]
      rw [eP, eT]
      exact sd_seq (sds_par (eas_cons (evs_op (evs_pen (EvA.s (ea_cons (ev_var rfl) (ea_cons (ev_add (ev_mulB ev_int (ev_var rfl)) ev_int) ea_nil))) ⟨p, q', 41, n + 1 + drawN q 4, rfl, by decide, by decide, h2, by omega, rfl, rfl, rfl⟩) (EvD.s (ev_var rfl)) od_sub) (eas_cons (evs_op (evs_pen (EvA.s (ea_cons (ev_var rfl) (ea_cons (ev_add (ev_mulB ev_int (ev_var rfl)) ev_int) ea_nil))) ⟨p, drawP q' 41, 41, n + 1 + drawN q 4 + 1, rfl, by decide, by decide, h2.draw, by omega, rfl, rfl, rfl⟩) (EvD.s (ev_var rfl)) od_sub) eas_nil))) (sd_retS (ev_tup (ea_cons (ev_ixT (ev_var rfl) ev_int rfl) (ea_cons (ev_ixT (ev_var rfl) ev_int rfl) (ea_cons (ev_ixT (ev_var rfl) ev_int rfl) (ea_cons (ev_ixT (ev_var rfl) ev_int rfl) (ea_cons (ev_var rfl) (ea_cons (ev_var rfl) ea_nil))))))))
end
end O26
set_option Elab.async false
set_option linter.all false
set_option maxRecDepth 100000
set_option maxHeartbeats 4000000
namespace O26
open PySem PySem.Spec PyProof.Rows L2
theorem pe_c0 {X : Cx} {k j : Nat} {x : Str} {sp : Sp} {dvs : List V} {p pos : Pos} (c : C8.Cal X.prog X.w X.K X.mg X.base k x sp dvs) (hr : Room j X.A) (hk : k ≤ j) (hg : Gl X x) (hdb : (x == ("__debug__" : Str)) = false := by decide) : PE X (.Call (.Name x p) [] [] pos) (tCall sp dvs C8.E0 tNil) := by
  obtain ⟨f, fd, ps, ds, F, hm, kp, b, d⟩ := c.ex
  exact pe_call0 F (hr.mono hk) hg hm kp b d C8.pass0 hdb
structure PolC (vs : List Ve) : Prop where
  lo : 3 ≤ vs.length
  hi : vs.length ≤ 6
  co : ∀ v ∈ vs, v.1.natAbs ≤ 5000 ∧ v.2.natAbs ≤ 5000
theorem PolC.idx {vs : List Ve} (h : PolC vs) (i : Int) : (i % (vs.length : Nat)).toNat < vs.length ∧ 0 ≤ i % (vs.length : Nat) := by
  have h0 := h.lo
  have h1 := Int.emod_nonneg i (b := (vs.length : Nat)) (by omega)
  have h2 := Int.emod_lt_of_pos i (b := (vs.length : Nat)) (by omega)
  exact ⟨by omega, h1⟩
theorem PolC.atI {vs : List Ve} (h : PolC vs) (i : Int) : atI (vs.map v2) (i % ((vs.map v2).length : Nat)) = some (v2 (vtx vs i)) := by
  rw [List.length_map]
  obtain ⟨h1, h2⟩ := h.idx i
  have e : i % (vs.length : Nat) = ((i % (vs.length : Nat)).toNat : Nat) := by omega
  have z : (vs.map v2)[(i % (vs.length : Nat)).toNat]? = some (v2 (vtx vs i)) := by
    unfold vtx
    rw [List.getElem?_map, List.getD_eq_getElem?_getD, List.getElem?_eq_getElem h1]
    rfl
  have q := atI_nat z
  rw [← e] at q
  exact q
theorem PolC.mem {vs : List Ve} (h : PolC vs) (i : Int) : vtx vs i ∈ vs := by
  unfold vtx
  rw [List.getD_eq_getElem?_getD, List.getElem?_eq_getElem (h.idx i).1]
  exact List.getElem_mem _
theorem idxN {vs : List Ve} {a : Nat} (h : a < vs.length) : atI (vs.map v2) ((a : Nat) : Int) = some (v2 (vtx vs (a : Int))) := by
  rw [← vtx_nat h]
  exact atI_getD h
theorem rng_nat {n : Nat} : rngD 0 n = (List.range n).map fun i => Da.int ((i : Nat) : Int) := by
  unfold rngD
  exact List.map_congr_left fun i _ => by rw [Int.zero_add]
theorem ev_notInV {T : Tb} {S : Os} {K : PySem.W.Frag} {δ : List (Option Da)} {ta tb : TE} {w : Ve} {l : List Ve} (ha : EvD T S ta δ (v2 w)) (hb : EvD T S tb δ (.lst (l.map v2))) : EvD T S (tOp (rNotInD K) ta tb) δ (.bl (!decide (w ∈ l))) := ev_op ha hb fun F H v u Q s a b q => by
  have hp : ∀ vs : List Ve, Da.plains (vs.map v2) = true := fun vs => by
    induction vs with
    | nil => rfl
    | cons a vs ih => show (_ && Da.plains (vs.map v2)) = true; rw [ih]; rfl
  refine ⟨(v2 w).py, Da.pys (l.map v2), (a.mono s.ex).dp rfl, (b.mono s.ex).dp (hp l), shaped_v2 w, shaped_v2s l, ?_⟩
  have e : ((Da.pys (l.map v2)).any fun z => PyData.eqv z (v2 w).py) = decide (w ∈ l) := by
    rw [pys_map, List.any_map]
    have : ((fun z => PyData.eqv z (v2 w).py) ∘ fun v => (v2 v).py) = fun v : Ve => decide (v = w) := funext fun v => eqv_v2 v w
    rw [this]
    by_cases h : w ∈ l
    · rw [decide_eq_true h, List.any_eq_true]
      exact ⟨w, h, decide_eq_true rfl⟩
    · rw [decide_eq_false h, List.any_eq_false]
      intro x hx hd
      exact h (of_decide_eq_true hd ▸ hx)
  rw [e]
  exact q _ F H (Gr.refl s) (.bl _)
/-- xs.insert(i, e), xs one's own -/
theorem sd_ins {T : Tb} {S : Os} {K : PySem.W.Frag} {δ : List (Option Da)} {ta ti te : TE} {d : Da} {p : Addr} {l : List Da} {i : Nat} (ha : EvD T S ta δ (.fn p)) (hi : EvD T S ti δ (.int (i : Nat))) (he : EvD T S te δ d) (hS : S.lookup p = some (.lst l)) (hl : l.length ≤ 1000) (hi2 : i ≤ 1000) :
    SD T S (tDrop (tBM K "list" (fun x vs H Q => ∃ (l : Addr) (xs : List V) (i : Int) (y : V), x = .ref l ∧ vs = [.int i, y] ∧ H l = some (.lst xs) ∧ xs.length < sizeLine ∧ 0 ≤ i ∧ i < 2 ^ 63 ∧ Q .non (upd H l (.lst (xs.take i.toNat ++ [y] ++ xs.drop i.toNat)))) ta (tCons ti (tCons te tNil)))) δ (.nx δ ((p, .lst (l.take i ++ [d] ++ l.drop i)) :: S)) := fun F H σ D s e q =>
  ha F H σ _ s e fun v F1 H1 g1 r1 => by
    obtain rfl := dr_fn r1
    obtain ⟨o1, h1, h2, xs, rfl, h3⟩ := g1.sg.own p _ hS
    refine ⟨.inl ⟨rfl, xs, SqL.of h1⟩, ?_⟩
    refine hi F1 H1 σ _ g1.sg (e.mono g1.ff) fun w F2 H2 g2 r2 => he F2 H2 σ _ g2.sg ((e.mono g1.ff).mono g2.ff) fun u F3 H3 g3 r3 => ?_
    cases r2
    obtain ⟨o2, k1, k2, ys, rfl, k3⟩ := g3.sg.own p _ hS
    refine ⟨p, ys, _, u, rfl, rfl, k1, by rw [k3.length]; exact small1000 hl, by omega, by omega, ?_⟩
    have g4 := GrS.write (c := .lst (l.take i ++ [d] ++ l.drop i)) g3.sg hS ⟨ys.take i ++ [u] ++ ys.drop i, rfl, ((k3.take i).append (.cons r3 .nil)).append (k3.drop i)⟩
    exact q F3 _ (((g1.trans g2).trans g3).s.trans g4) σ (((e.mono g1.ff).mono g2.ff).mono g3.ff)
/-- a, b = e, [] -/
theorem sd_parMine {T : Tb} {S : Os} {δ : List (Option Da)} {te : TE} {d : Da} {i j : Nat} {ts : TS} {o : Out} (h : EvD T S te δ d) (k : ∀ p, SD T ((p, .lst []) :: S) ts ((δ.set i (some d)).set j (some (.fn p))) o) : SD T S (tSeq (tPar i j (tCons te (tCons (tLst tNil) tNil))) ts) δ o := fun F H σ D s e q =>
  h F H σ _ s e fun v F1 H1 g1 r1 => ⟨Nat.zero_le _, fun p hp => by
    have g := GrS.mine (c := .lst []) g1.sg hp ⟨[], rfl, .nil⟩
    exact ⟨_, _, rfl, k p F1 _ _ D g.sg (((e.mono g1.ff).set r1 i).set (.fn p) j) fun F2 H2 => OutQ.step (g1.s.trans g) (q F2 H2)⟩⟩
theorem fdiv_abs (x y : Int) : (x.fdiv y).natAbs ≤ x.natAbs + 1 := by
  have h3 := Int.natAbs_ediv_le_natAbs x y
  rw [Int.fdiv_eq_ediv]
  split <;> omega
theorem bdN {n : Nat} {i : Int} {k : Nat} (h : i.natAbs ≤ n) (hk : n < 2 ^ k := by decide) : Bd k i := ⟨Nat.lt_of_le_of_lt h hk⟩
theorem or_dec {p q r : Prop} [Decidable p] [Decidable q] [Decidable r] : (decide p || (decide q && decide r)) = decide (p ∨ (q ∧ r)) := by simp
theorem ev_sgn {T : Tb} {S : Os} {δ : List (Option Da)} {tt : TT} {ta tb : TE} {c : Prop} [Decidable c] {x y : Int} (h : EvT T S tt δ (decide c)) (ha : EvD T S ta δ (.int x)) (hb : EvD T S tb δ (.int y)) : EvD T S (tIf tt ta tb) δ (.int (if c then x else y)) := by
  by_cases hc : c
  · rw [if_pos hc]; exact ev_if (et_is h (decide_eq_true hc)) (fun _ => ha) (fun z => by cases z)
  · rw [if_neg hc]; exact ev_if (et_is h (decide_eq_false hc)) (fun z => by cases z) (fun _ => hb)
theorem lwWay_bd {vs : List Ve} {k : Nat} (h1 : (edg vs k).1.natAbs ≤ 10000) (h2 : (edg vs k).2.natAbs ≤ 10000) : (lwWay vs k).1.natAbs ≤ 10001 ∧ (lwWay vs k).2.natAbs ≤ 10001 := by
  unfold lwWay
  have := fdiv_abs (edg vs k).1 ((Int.gcd (edg vs k).1 (edg vs k).2 : Nat) * (if (edg vs k).2 > 0 ∨ ((edg vs k).2 = 0 ∧ (edg vs k).1 > 0) then 1 else -1))
  have := fdiv_abs (edg vs k).2 ((Int.gcd (edg vs k).1 (edg vs k).2 : Nat) * (if (edg vs k).2 > 0 ∨ ((edg vs k).2 = 0 ∧ (edg vs k).1 > 0) then 1 else -1))
  simp only
  omega
section
variable {P : Program} {w : World} {K : PySem.W.Frag} {mg : Str → Option Value} {base : Heap} {T : Tb}
abbrev s_law_shapes : Stmt := top 86
theorem sc_law_shapes : FnScope ["_law_result_here"] [] (defScope s_law_shapes) := ⟨rfl, rfl, rfl, by decide +kernel, rfl, by decide +kernel, by decide +kernel⟩
def R_law_shapes (ds : List Da) (d : Da) : Prop := ∃ u : Unit, ds = [] ∧ d = .lst (shapesL.map shD)
theorem ri_law_shapes {u : Unit}  : R_law_shapes [] (.lst (shapesL.map shD)) := ⟨u, rfl, rfl⟩
theorem ok_law_shapes {f : Addr} {fd : FuncData}  (F : FnP K "_law_shapes" "_law_shapes" s_law_shapes f fd) (hm : mg "_law_shapes" = some (.ref f))   : C8.Cal P w K mg base 1 "_law_shapes" (Prm T R_law_shapes) [] := by
  refine ⟨⟨f, fd, _, [], fn_pure F sc_law_shapes (fun ds d h => ?_) fun cdv A outer s H E hr => ⟨_, (pss_cons (ps_set (i := 0) sc_law_shapes.nd rfl (Or.inl rfl) (pe_lst (pa_cons (pe_lst (pa_cons (pe_tup (pa_cons pe_int (pa_cons pe_int pa_nil))) (pa_cons (pe_tup (pa_cons pe_int (pa_cons pe_int pa_nil))) (pa_cons (pe_tup (pa_cons pe_int (pa_cons pe_int pa_nil))) pa_nil)))) (pa_cons (pe_lst (pa_cons (pe_tup (pa_cons pe_int (pa_cons pe_int pa_nil))) (pa_cons (pe_tup (pa_cons pe_int (pa_cons pe_int pa_nil))) (pa_cons (pe_tup (pa_cons pe_int (pa_cons pe_int pa_nil))) (pa_cons (pe_tup (pa_cons pe_int (pa_cons pe_int pa_nil))) pa_nil))))) (pa_cons (pe_lst (pa_cons (pe_tup (pa_cons pe_int (pa_cons pe_int pa_nil))) (pa_cons (pe_tup (pa_cons pe_int (pa_cons pe_int pa_nil))) (pa_cons (pe_tup (pa_cons pe_int (pa_cons pe_int pa_nil))) (pa_cons (pe_tup (pa_cons pe_int (pa_cons pe_int pa_nil))) pa_nil))))) pa_nil))))) (pss_cons (ps_set (i := 0) sc_law_shapes.nd rfl (Or.inl rfl) (pe_op op_cat (pv 0) (pe_lst (pa_cons (pe_lst (pa_cons (pe_tup (pa_cons pe_int (pa_cons pe_int pa_nil))) (pa_cons (pe_tup (pa_cons pe_int (pa_cons pe_int pa_nil))) (pa_cons (pe_tup (pa_cons pe_int (pa_cons pe_int pa_nil))) (pa_cons (pe_tup (pa_cons pe_int (pa_cons pe_int pa_nil))) (pa_cons (pe_tup (pa_cons pe_int (pa_cons pe_int pa_nil))) (pa_cons (pe_tup (pa_cons pe_int (pa_cons pe_int pa_nil))) pa_nil))))))) (pa_cons (pe_lst (pa_cons (pe_tup (pa_cons pe_int (pa_cons pe_int pa_nil))) (pa_cons (pe_tup (pa_cons pe_int (pa_cons pe_int pa_nil))) (pa_cons (pe_tup (pa_cons pe_int (pa_cons pe_int pa_nil))) (pa_cons (pe_tup (pa_cons pe_int (pa_cons pe_int pa_nil))) (pa_cons (pe_tup (pa_cons pe_int (pa_cons pe_int pa_nil))) pa_nil)))))) pa_nil))))) (pss_cons (ps_set (i := 0) sc_law_shapes.nd rfl (Or.inl rfl) (pe_op op_cat (pv 0) (pe_lst (pa_cons (pe_lst (pa_cons (pe_tup (pa_cons pe_int (pa_cons pe_int pa_nil))) (pa_cons (pe_tup (pa_cons pe_int (pa_cons pe_int pa_nil))) (pa_cons (pe_tup (pa_cons pe_int (pa_cons pe_int pa_nil))) (pa_cons (pe_tup (pa_cons pe_int (pa_cons pe_int pa_nil))) pa_nil))))) (pa_cons (pe_lst (pa_cons (pe_tup (pa_cons pe_int (pa_cons pe_int pa_nil))) (pa_cons (pe_tup (pa_cons pe_int (pa_cons pe_int pa_nil))) (pa_cons (pe_tup (pa_cons pe_int (pa_cons pe_int pa_nil))) (pa_cons (pe_tup (pa_cons pe_int (pa_cons pe_int pa_nil))) pa_nil))))) pa_nil))))) (pss_cons (ps_set (i := 0) sc_law_shapes.nd rfl (Or.inl rfl) (pe_op op_cat (pv 0) (pe_lst (pa_cons (pe_lst (pa_cons (pe_tup (pa_cons pe_int (pa_cons pe_int pa_nil))) (pa_cons (pe_tup (pa_cons pe_int (pa_cons pe_int pa_nil))) (pa_cons (pe_tup (pa_cons pe_int (pa_cons pe_int pa_nil))) (pa_cons (pe_tup (pa_cons pe_int (pa_cons pe_int pa_nil))) pa_nil))))) (pa_cons (pe_lst (pa_cons (pe_tup (pa_cons pe_int (pa_cons pe_int pa_nil))) (pa_cons (pe_tup (pa_cons pe_int (pa_cons pe_int pa_nil))) (pa_cons (pe_tup (pa_cons pe_int (pa_cons pe_int pa_nil))) pa_nil)))) pa_nil))))) (pss_cons (ps_set (i := 0) sc_law_shapes.nd rfl (Or.inl rfl) (pe_op op_cat (pv 0) (pe_lst (pa_cons (pe_lst (pa_cons (pe_tup (pa_cons pe_int (pa_cons pe_int pa_nil))) (pa_cons (pe_tup (pa_cons pe_int (pa_cons pe_int pa_nil))) (pa_cons (pe_tup (pa_cons pe_int (pa_cons pe_int pa_nil))) (pa_cons (pe_tup (pa_cons pe_int (pa_cons pe_int pa_nil))) pa_nil))))) (pa_cons (pe_lst (pa_cons (pe_tup (pa_cons pe_int (pa_cons pe_int pa_nil))) (pa_cons (pe_tup (pa_cons pe_int (pa_cons pe_int pa_nil))) (pa_cons (pe_tup (pa_cons pe_int (pa_cons pe_int pa_nil))) (pa_cons (pe_tup (pa_cons pe_int (pa_cons pe_int pa_nil))) pa_nil))))) pa_nil))))) (pss_cons (ps_set (i := 0) sc_law_shapes.nd rfl (Or.inl rfl) (pe_op op_cat (pv 0) (pe_lst (pa_cons (pe_lst (pa_cons (pe_tup (pa_cons pe_int (pa_cons pe_int pa_nil))) (pa_cons (pe_tup (pa_cons pe_int (pa_cons pe_int pa_nil))) (pa_cons (pe_tup (pa_cons pe_int (pa_cons pe_int pa_nil))) pa_nil)))) (pa_cons (pe_lst (pa_cons (pe_tup (pa_cons pe_int (pa_cons pe_int pa_nil))) (pa_cons (pe_tup (pa_cons pe_int (pa_cons pe_int pa_nil))) (pa_cons (pe_tup (pa_cons pe_int (pa_cons pe_int pa_nil))) (pa_cons (pe_tup (pa_cons pe_int (pa_cons pe_int pa_nil))) pa_nil))))) (pa_cons (pe_lst (pa_cons (pe_tup (pa_cons pe_int (pa_cons pe_int pa_nil))) (pa_cons (pe_tup (pa_cons pe_int (pa_cons pe_int pa_nil))) (pa_cons (pe_tup (pa_cons pe_int (pa_cons pe_int pa_nil))) pa_nil)))) pa_nil)))))) (pss_cons (ps_set (i := 0) sc_law_shapes.nd rfl (Or.inl rfl) (pe_op op_cat (pv 0) (pe_lst (pa_cons (pe_lst (pa_cons (pe_tup (pa_cons pe_int (pa_cons pe_int pa_nil))) (pa_cons (pe_tup (pa_cons pe_int (pa_cons pe_int pa_nil))) (pa_cons (pe_tup (pa_cons pe_int (pa_cons pe_int pa_nil))) (pa_cons (pe_tup (pa_cons pe_int (pa_cons pe_int pa_nil))) pa_nil))))) (pa_cons (pe_lst (pa_cons (pe_tup (pa_cons pe_int (pa_cons pe_int pa_nil))) (pa_cons (pe_tup (pa_cons pe_int (pa_cons pe_int pa_nil))) (pa_cons (pe_tup (pa_cons pe_int (pa_cons pe_int pa_nil))) (pa_cons (pe_tup (pa_cons pe_int (pa_cons pe_int pa_nil))) (pa_cons (pe_tup (pa_cons pe_int (pa_cons pe_int pa_nil))) pa_nil)))))) pa_nil))))) (pss_one (ps_ret (pe_op op_cat (pv 0) (pe_lst (pa_cons (pe_lst (pa_cons (pe_tup (pa_cons pe_int (pa_cons pe_int pa_nil))) (pa_cons (pe_tup (pa_cons pe_int (pa_cons pe_int pa_nil))) (pa_cons (pe_tup (pa_cons pe_int (pa_cons pe_int pa_nil))) (pa_cons (pe_tup (pa_cons pe_int (pa_cons pe_int pa_nil))) (pa_cons (pe_tup (pa_cons pe_int (pa_cons pe_int pa_nil))) (pa_cons (pe_tup (pa_cons pe_int (pa_cons pe_int pa_nil))) pa_nil))))))) pa_nil)))))))))))), fun ds d h => ?_⟩, hm, F.kp, F.bindsN (fun _ _ _ _ _ _ us hl => match us, hl with | [], _ => rfl), .nil⟩⟩
  · obtain ⟨u, rfl, rfl⟩ := h
    rfl
  · obtain ⟨u, rfl, rfl⟩ := h
    exact .ret (sd_seq (sd_asg (ev_lst (ea_cons (ev_lst (ea_cons (ev_tup (ea_cons ev_int (ea_cons ev_int ea_nil))) (ea_cons (ev_tup (ea_cons ev_int (ea_cons ev_int ea_nil))) (ea_cons (ev_tup (ea_cons ev_int (ea_cons ev_int ea_nil))) ea_nil)))) (ea_cons (ev_lst (ea_cons (ev_tup (ea_cons ev_int (ea_cons ev_int ea_nil))) (ea_cons (ev_tup (ea_cons ev_int (ea_cons ev_int ea_nil))) (ea_cons (ev_tup (ea_cons ev_int (ea_cons ev_int ea_nil))) (ea_cons (ev_tup (ea_cons ev_int (ea_cons ev_int ea_nil))) ea_nil))))) (ea_cons (ev_lst (ea_cons (ev_tup (ea_cons ev_int (ea_cons ev_int ea_nil))) (ea_cons (ev_tup (ea_cons ev_int (ea_cons ev_int ea_nil))) (ea_cons (ev_tup (ea_cons ev_int (ea_cons ev_int ea_nil))) (ea_cons (ev_tup (ea_cons ev_int (ea_cons ev_int ea_nil))) ea_nil))))) ea_nil))))) (sd_seq (sd_asg (ev_catL (ev_var rfl) (ev_lst (ea_cons (ev_lst (ea_cons (ev_tup (ea_cons ev_int (ea_cons ev_int ea_nil))) (ea_cons (ev_tup (ea_cons ev_int (ea_cons ev_int ea_nil))) (ea_cons (ev_tup (ea_cons ev_int (ea_cons ev_int ea_nil))) (ea_cons (ev_tup (ea_cons ev_int (ea_cons ev_int ea_nil))) (ea_cons (ev_tup (ea_cons ev_int (ea_cons ev_int ea_nil))) (ea_cons (ev_tup (ea_cons ev_int (ea_cons ev_int ea_nil))) ea_nil))))))) (ea_cons (ev_lst (ea_cons (ev_tup (ea_cons ev_int (ea_cons ev_int ea_nil))) (ea_cons (ev_tup (ea_cons ev_int (ea_cons ev_int ea_nil))) (ea_cons (ev_tup (ea_cons ev_int (ea_cons ev_int ea_nil))) (ea_cons (ev_tup (ea_cons ev_int (ea_cons ev_int ea_nil))) (ea_cons (ev_tup (ea_cons ev_int (ea_cons ev_int ea_nil))) ea_nil)))))) ea_nil))) (Nat.le_of_ble_eq_true rfl))) (sd_seq (sd_asg (ev_catL (ev_var rfl) (ev_lst (ea_cons (ev_lst (ea_cons (ev_tup (ea_cons ev_int (ea_cons ev_int ea_nil))) (ea_cons (ev_tup (ea_cons ev_int (ea_cons ev_int ea_nil))) (ea_cons (ev_tup (ea_cons ev_int (ea_cons ev_int ea_nil))) (ea_cons (ev_tup (ea_cons ev_int (ea_cons ev_int ea_nil))) ea_nil))))) (ea_cons (ev_lst (ea_cons (ev_tup (ea_cons ev_int (ea_cons ev_int ea_nil))) (ea_cons (ev_tup (ea_cons ev_int (ea_cons ev_int ea_nil))) (ea_cons (ev_tup (ea_cons ev_int (ea_cons ev_int ea_nil))) (ea_cons (ev_tup (ea_cons ev_int (ea_cons ev_int ea_nil))) ea_nil))))) ea_nil))) (Nat.le_of_ble_eq_true rfl))) (sd_seq (sd_asg (ev_catL (ev_var rfl) (ev_lst (ea_cons (ev_lst (ea_cons (ev_tup (ea_cons ev_int (ea_cons ev_int ea_nil))) (ea_cons (ev_tup (ea_cons ev_int (ea_cons ev_int ea_nil))) (ea_cons (ev_tup (ea_cons ev_int (ea_cons ev_int ea_nil))) (ea_cons (ev_tup (ea_cons ev_int (ea_cons ev_int ea_nil))) ea_nil))))) (ea_cons (ev_lst (ea_cons (ev_tup (ea_cons ev_int (ea_cons ev_int ea_nil))) (ea_cons (ev_tup (ea_cons ev_int (ea_cons ev_int ea_nil))) (ea_cons (ev_tup (ea_cons ev_int (ea_cons ev_int ea_nil))) ea_nil)))) ea_nil))) (Nat.le_of_ble_eq_true rfl))) (sd_seq (sd_asg (ev_catL (ev_var rfl) (ev_lst (ea_cons (ev_lst (ea_cons (ev_tup (ea_cons ev_int (ea_cons ev_int ea_nil))) (ea_cons (ev_tup (ea_cons ev_int (ea_cons ev_int ea_nil))) (ea_cons (ev_tup (ea_cons ev_int (ea_cons ev_int ea_nil))) (ea_cons (ev_tup (ea_cons ev_int (ea_cons ev_int ea_nil))) ea_nil))))) (ea_cons (ev_lst (ea_cons (ev_tup (ea_cons ev_int (ea_cons ev_int ea_nil))) (ea_cons (ev_tup (ea_cons ev_int (ea_cons ev_int ea_nil))) (ea_cons (ev_tup (ea_cons ev_int (ea_cons ev_int ea_nil))) (ea_cons (ev_tup (ea_cons ev_int (ea_cons ev_int ea_nil))) ea_nil))))) ea_nil))) (Nat.le_of_ble_eq_true rfl))) (sd_seq (sd_asg (ev_catL (ev_var rfl) (ev_lst (ea_cons (ev_lst (ea_cons (ev_tup (ea_cons ev_int (ea_cons ev_int ea_nil))) (ea_cons (ev_tup (ea_cons ev_int (ea_cons ev_int ea_nil))) (ea_cons (ev_tup (ea_cons ev_int (ea_cons ev_int ea_nil))) ea_nil)))) (ea_cons (ev_lst (ea_cons (ev_tup (ea_cons ev_int (ea_cons ev_int ea_nil))) (ea_cons (ev_tup (ea_cons ev_int (ea_cons ev_int ea_nil))) (ea_cons (ev_tup (ea_cons ev_int (ea_cons ev_int ea_nil))) (ea_cons (ev_tup (ea_cons ev_int (ea_cons ev_int ea_nil))) ea_nil))))) (ea_cons (ev_lst (ea_cons (ev_tup (ea_cons ev_int (ea_cons ev_int ea_nil))) (ea_cons (ev_tup (ea_cons ev_int (ea_cons ev_int ea_nil))) (ea_cons (ev_tup (ea_cons ev_int (ea_cons ev_int ea_nil))) ea_nil)))) ea_nil)))) (Nat.le_of_ble_eq_true rfl))) (sd_seq (sd_asg (ev_catL (ev_var rfl) (ev_lst (ea_cons (ev_lst (ea_cons (ev_tup (ea_cons ev_int (ea_cons ev_int ea_nil))) (ea_cons (ev_tup (ea_cons ev_int (ea_cons ev_int ea_nil))) (ea_cons (ev_tup (ea_cons ev_int (ea_cons ev_int ea_nil))) (ea_cons (ev_tup (ea_cons ev_int (ea_cons ev_int ea_nil))) ea_nil))))) (ea_cons (ev_lst (ea_cons (ev_tup (ea_cons ev_int (ea_cons ev_int ea_nil))) (ea_cons (ev_tup (ea_cons ev_int (ea_cons ev_int ea_nil))) (ea_cons (ev_tup (ea_cons ev_int (ea_cons ev_int ea_nil))) (ea_cons (ev_tup (ea_cons ev_int (ea_cons ev_int ea_nil))) (ea_cons (ev_tup (ea_cons ev_int (ea_cons ev_int ea_nil))) ea_nil)))))) ea_nil))) (Nat.le_of_ble_eq_true rfl))) (sd_ret (lst_is (ev_catL (ev_var rfl) (ev_lst (ea_cons (ev_lst (ea_cons (ev_tup (ea_cons ev_int (ea_cons ev_int ea_nil))) (ea_cons (ev_tup (ea_cons ev_int (ea_cons ev_int ea_nil))) (ea_cons (ev_tup (ea_cons ev_int (ea_cons ev_int ea_nil))) (ea_cons (ev_tup (ea_cons ev_int (ea_cons ev_int ea_nil))) (ea_cons (ev_tup (ea_cons ev_int (ea_cons ev_int ea_nil))) (ea_cons (ev_tup (ea_cons ev_int (ea_cons ev_int ea_nil))) ea_nil))))))) ea_nil)) (Nat.le_of_ble_eq_true rfl)) rfl)))))))))
abbrev s_law_directions : Stmt := top 79
theorem sc_law_directions : FnScope ["_law_corners", "_law_result_here", "_law_k", "_law_a", "_law_b", "_law_x", "_law_y", "_law_both", "_law_way", "_law_e"] ["_law_corners"] (defScope s_law_directions) := ⟨rfl, rfl, rfl, by decide +kernel, rfl, by decide +kernel, by decide +kernel⟩
def R_law_directions (ds : List Da) (d : Da) : Prop := ∃ vs : List Ve, ds = [.lst (vs.map v2)] ∧ PolC vs ∧ (∀ i, i < vs.length → edg vs (i : Nat) ≠ (0, 0)) ∧ d = .lst ((lwDirs vs).map v2)
theorem ri_law_directions {vs : List Ve} (h0 : PolC vs) (h1 : (∀ i, i < vs.length → edg vs (i : Nat) ≠ (0, 0))) : R_law_directions [.lst (vs.map v2)] (.lst ((lwDirs vs).map v2)) := ⟨vs, rfl, h0, h1, rfl⟩
theorem ok_law_directions {f : Addr} {fd : FuncData}  (F : FnP K "_law_directions" "_law_directions" s_law_directions f fd) (hm : mg "_law_directions" = some (.ref f)) (fr_range : mg "range" = none) (fr_len : mg "len" = none) (c__law_gcd : C8.Cal P w K mg base 1 "_law_gcd" (Prm T R_law_gcd) []) (c__law_cross : C8.Cal P w K mg base 1 "_law_cross" (Prm T R_law_cross) [])  : C8.Cal P w K mg base 2 "_law_directions" (Prm T R_law_directions) [] := by
  refine ⟨⟨f, fd, _, [], fn_pure F sc_law_directions (fun ds d h => ?_) fun cdv A outer s H E hr => ⟨_, (pss_cons (ps_set (i := 1) sc_law_directions.nd rfl (Or.inl rfl) (pe_lst pa_nil)) (pss_cons (ps_for PassesOwn.never rfl (pi_range1 rfl fr_range (pa_cons (pe_callB call_len_seq (by rfl) fr_len PySem.boot_len (pa_cons (pv 0) pa_nil)) pa_nil)) (pg_name (i := 2) sc_law_directions.nd rfl (Or.inl rfl)) (pss_cons (ps_par (i := 3) (j := 4) (by rfl) sc_law_directions.nd rfl rfl (by decide) rfl rfl (pa_cons (pe_ix ix_list (pv 0) (pv 2) (fun _ _ => rfl)) (pa_cons (pe_ix ix_list (pv 0) (pe_op op_mod (pe_op op_add (pv 2) pe_int) (pe_callB call_len_seq (by rfl) fr_len PySem.boot_len (pa_cons (pv 0) pa_nil))) (fun _ _ => rfl)) pa_nil)) (by rfl)) (pss_cons (ps_par (i := 5) (j := 6) (by rfl) sc_law_directions.nd rfl rfl (by decide) rfl rfl (pa_cons (pe_op op_sub (pe_ix ix_tup (pv 4) pe_int (fun _ _ => rfl)) (pe_ix ix_tup (pv 3) pe_int (fun _ _ => rfl))) (pa_cons (pe_op op_sub (pe_ix ix_tup (pv 4) pe_int (fun _ _ => rfl)) (pe_ix ix_tup (pv 3) pe_int (fun _ _ => rfl))) pa_nil)) (by rfl)) (pss_cons (ps_set (i := 7) sc_law_directions.nd rfl (Or.inl rfl) (pe_op op_mulW (C8.pe_c c__law_gcd hr (by decide) rfl (pa_cons (pv 5) (pa_cons (pv 6) pa_nil))) (pe_ifExp (PW.pt (pw_or (pt_cmpR op_gt (pv 6) pe_int (nomark _)) (pw_or1 (PW.pt (pw_and (pt_cmpR op_eq (pv 6) pe_int (nomark _)) (pw_and1 (pt_cmpR op_gt (pv 5) pe_int (nomark _)))))))) pe_int (pe_un un_neg pe_int)))) (pss_cons (ps_set (i := 8) sc_law_directions.nd rfl (Or.inr rfl) (pe_tup (pa_cons (pe_op op_fdivN (pv 5) (pv 7)) (pa_cons (pe_op op_fdivN (pv 6) (pv 7)) pa_nil)))) (pss_one (ps_if (pt_cmpR (op_notInD (room65 hr)) (pv 8) (pv 1) (by rfl)) (pss_one (ps_expr (pe_bm PySem.F.plainAttrs_list PySem.F.slot_list_insert PySem.F.type_list_insert mt_insert (pv 1) (pa_cons (pe_callB call_len_seq (by rfl) fr_len PySem.boot_len (pa_cons (pe_lc (by rfl) sc_law_directions.nd (pi_list (pv 1)) (blkOk_by (own := [("_law_e", 9)]) (N := ["_law_corners", "_law_result_here", "_law_k", "_law_a", "_law_b", "_law_x", "_law_y", "_law_both", "_law_way", "_law_e"]) (sc := defScope s_law_directions) (by decide +kernel)) (fun _ _ _ _ _ => (pg_name (i := 9) sc_law_directions.nd rfl (Or.inl rfl))) (fun _ _ _ _ _ => pts_one (pt_cmpR op_gt (C8.pe_c c__law_cross hr (by decide) rfl (pa_cons (pv 9) (pa_cons (pv 8) pa_nil))) pe_int (nomark _))) (fun _ _ _ _ _ => (pv 9))) pa_nil)) (pa_cons (pv 8) pa_nil))))) pss_nil))))))) (pss_one (ps_ret (pv 1))))), fun ds d h => ?_⟩, hm, F.kp, F.bindsN (fun _ _ _ _ _ _ us hl => match us, hl with | [_], _ => rfl), .nil⟩⟩
  · obtain ⟨vs, rfl, hB, hE, rfl⟩ := h
    rfl
  · obtain ⟨vs, rfl, hB, hE, rfl⟩ := h
    have hl := hB.lo
    have hh := hB.hi
    have hlen : (0 : Int) < ((vs.map v2).length : Nat) := by rw [List.length_map]; omega
    refine .ret (sd_mineL fun pr => sd_forS (G := (fun a δ' S' => ∃ acc z2 z3 z4 z5 z6 z7 z8, acc = (List.range a).foldl (fun acc k => lwIns acc (lwWay vs k)) [] ∧ (∀ v ∈ acc, v.1.natAbs ≤ 10001 ∧ v.2.natAbs ≤ 10001) ∧ acc.length ≤ a ∧ S'.lookup pr = some (.lst (acc.map v2)) ∧ δ' = [some (.lst (vs.map v2)), some (.fn pr), z2, z3, z4, z5, z6, z7, z8, none] : Nat → List (Option Da) → Os → Prop) vs.length) (it_is (it_rng1 (ea_cons (ev_cb (ea_cons (ev_var rfl) ea_nil) cd_lenL) ea_nil) (by rw [List.length_map]; omega)) (by rw [List.length_map]; exact rng_nat)) (for_nat vs.length (it := fun i => .int ((i : Nat) : Int)) (fun a δ' S' => ∃ acc z2 z3 z4 z5 z6 z7 z8, acc = (List.range a).foldl (fun acc k => lwIns acc (lwWay vs k)) [] ∧ (∀ v ∈ acc, v.1.natAbs ≤ 10001 ∧ v.2.natAbs ≤ 10001) ∧ acc.length ≤ a ∧ S'.lookup pr = some (.lst (acc.map v2)) ∧ δ' = [some (.lst (vs.map v2)), some (.fn pr), z2, z3, z4, z5, z6, z7, z8, none]) ?_ ⟨[], none, none, none, none, none, none, none, rfl, nofun, Nat.le_refl _, lk0, rfl⟩) ?_)
    · rintro a δ S ha ⟨acc, z2, z3, z4, z5, z6, z7, z8, hacc, hb, hle, hS, rfl⟩
      have v1 := hB.co _ (hB.mem (a : Int)); have w1 := hB.co _ (hB.mem ((a : Int) + 1))
      have x1 : (edg vs a).1.natAbs ≤ 10000 := by unfold edg dif; simp only; omega
      have y1 : (edg vs a).2.natAbs ≤ 10000 := by unfold edg dif; simp only; omega
      have hg := gcd_pos (hE a ha)
      have hgl := gcd_le x1 y1
      have hw := lwWay_bd x1 y1
      have b1 := bdN (k := 15) hw.1; have b2 := bdN (k := 15) hw.2
      have c : ∀ i : Int, CDivN i ((Int.gcd (edg vs a).1 (edg vs a).2 : Nat) * (if (edg vs a).2 > 0 ∨ ((edg vs a).2 = 0 ∧ (edg vs a).1 > 0) then 1 else -1)) := fun i => by
        split
        · exact ⟨by omega, by omega⟩
        · exact ⟨by omega, by omega⟩
      have bg : Bd 20 ((Int.gcd (edg vs a).1 (edg vs a).2 : Nat) : Int) := ⟨by omega⟩
      have bs : Bd 1 (if (edg vs a).2 > 0 ∨ ((edg vs a).2 = 0 ∧ (edg vs a).1 > 0) then (1 : Int) else -1) := by split <;> exact ⟨by decide⟩
      have hst : ∀ acc', acc' = lwIns acc (lwWay vs a) → acc' = (List.range (a + 1)).foldl (fun acc k => lwIns acc (lwWay vs k)) [] := fun acc' h => by
        rw [List.range_succ, List.foldl_append, ← hacc, h]; rfl
      have post : ∀ acc', acc' = lwIns acc (lwWay vs a) → (∀ v ∈ acc', v.1.natAbs ≤ 10001 ∧ v.2.natAbs ≤ 10001) ∧ acc'.length ≤ a + 1 := fun acc' h => by
        subst h
        unfold lwIns
        split
        · exact ⟨hb, by omega⟩
        · refine ⟨fun v hv => ?_, ?_⟩
          · simp only [List.mem_append, List.mem_singleton] at hv
            rcases hv with (hv | hv) | hv
            · exact hb v (List.mem_of_mem_take hv)
            · rw [hv]; exact hw
            · exact hb v (List.mem_of_mem_drop hv)
          · simp only [List.length_append, List.length_take, List.length_drop, List.length_singleton]
            omega
      refine ⟨_, _, [some (.lst (vs.map v2)), some (.fn pr), some (.int (a : Nat)), some (v2 (vtx vs a)), some (v2 (vtx vs ((a : Int) + 1))), some (.int (edg vs a).1), some (.int (edg vs a).2), some (.int ((Int.gcd (edg vs a).1 (edg vs a).2 : Nat) * (if (edg vs a).2 > 0 ∨ ((edg vs a).2 = 0 ∧ (edg vs a).1 > 0) then 1 else -1))), some (v2 (lwWay vs a)), none], (pr, .lst ((lwIns acc (lwWay vs a)).map v2)) :: S, gd_name, sd_seq (sd_par (ea_cons (ev_ixL (ev_var rfl) (ev_var rfl) (idxN ha)) (ea_cons (ev_ixL (ev_var rfl) (ev_mod (ev_add (ev_var rfl) ev_int) (ev_cb (ea_cons (ev_var rfl) ea_nil) cd_lenL) hlen) (hB.atI _)) ea_nil))) (sd_seq (sd_par (ea_cons (ev_sub (ev_ixT (ev_var rfl) ev_int rfl) (ev_ixT (ev_var rfl) ev_int rfl)) (ea_cons (ev_sub (ev_ixT (ev_var rfl) ev_int rfl) (ev_ixT (ev_var rfl) ev_int rfl)) ea_nil))) (sd_seq (sd_asg (ev_mulB (ev_call (ea_cons (ev_var rfl) (ea_cons (ev_var rfl) ea_nil)) ri_law_gcd) (ev_sgn (et_is (et_or (et_test (ev_cmp (ev_var rfl) ev_int)) (fun _ => (et_and (et_test (ev_eqI (ev_var rfl) ev_int)) (fun _ => (et_test (ev_cmp (ev_var rfl) ev_int)))))) or_dec) ev_int (ev_neg ev_int)) (x := bg) (y := bs))) (sd_seq (sd_asg (ev_tup (ea_cons (ev_fdivN (ev_var rfl) (ev_var rfl) (c _)) (ea_cons (ev_fdivN (ev_var rfl) (ev_var rfl) (c _)) ea_nil)))) ?_))), _, _, _, _, _, _, _, _, hst _ rfl, (post _ rfl).1, (post _ rfl).2, lk0, rfl⟩
      by_cases hm : lwWay vs a ∈ acc
      · have e2 : lwIns acc (lwWay vs a) = acc := by unfold lwIns; rw [if_pos hm]
        rw [e2]
        exact sd_own (sd_ifF (et_is (et_viewL (i := 1) hS rfl (et_test (ev_notInV (ev_var rfl) (ev_var rfl)))) (by rw [decide_eq_true hm]; rfl)) sd_next) (fun p c h => by
          rw [lookup_put] at h
          by_cases hp : p = pr
          · rw [if_pos hp] at h; cases h; rw [hp]; exact hS
          · rw [if_neg hp] at h; exact h)
      · have e2 : (acc.map v2).take (acc.filter fun e => decide (crs e (lwWay vs a) > 0)).length ++ [v2 (lwWay vs a)] ++ (acc.map v2).drop (acc.filter fun e => decide (crs e (lwWay vs a) > 0)).length = (lwIns acc (lwWay vs a)).map v2 := by
          unfold lwIns
          rw [if_neg hm]
          simp only [List.map_append, List.map_take, List.map_drop, List.map_cons, List.map_nil]
        rw [← e2]
        have hfl : (acc.filter fun e => decide (crs e (lwWay vs a) > 0)).length ≤ acc.length := List.length_filter_le ..
        exact sd_ifT (et_is (et_viewL (i := 1) hS rfl (et_test (ev_notInV (ev_var rfl) (ev_var rfl)))) (by rw [decide_eq_false hm]; rfl)) (sd_ins (ev_var rfl) (ev_is (ev_viewL (i := 1) hS rfl (ev_cb (ea_cons (ev_lc (it_list (ev_var rfl)) (lc_filtG (i := 9) (xs := acc) (q := fun e => decide (crs e (lwWay vs a) > 0)) (g := v2) (f := v2) (by decide) (fun e he => et_test (ev_cmp (ev_call (ea_cons (ev_var rfl) (ea_cons (ev_var rfl) ea_nil)) (ri_law_cross ((bdN (k := 15) (hb e he).1).up (by decide)) ((bdN (k := 15) (hb e he).2).up (by decide)) (b1.up (by decide)) (b2.up (by decide)))) ev_int)) (fun e _ _ => ev_var rfl)) (by rw [List.length_map]; omega)) ea_nil) cd_lenL)) (by rw [List.length_map])) (ev_var rfl) hS (by rw [List.length_map]; omega) (by omega))
    · rintro δ S ⟨acc, z2, z3, z4, z5, z6, z7, z8, hacc, hb, hle, hS, rfl⟩
      subst hacc
      exact sd_retL (ev_var rfl) hS
end
end O26
set_option Elab.async false
set_option linter.all false
set_option maxRecDepth 100000
set_option maxHeartbeats 4000000
namespace O26
open PySem PySem.Spec PyProof.Rows L2
abbrev rwD (r : Row) : Da := .tup [v2 r.one, v2 r.two, .int (r.near : Nat), .int (r.far : Nat), v2 r.sh, .int r.w, .int r.v, .int r.d]
theorem maxIx_lt {l : List Int} (h : l ≠ []) : maxIx l < l.length := by
  obtain ⟨M, _, h1, _⟩ := maxIx_spec h
  obtain ⟨k, _⟩ := List.getElem?_eq_some_iff.mp h1
  exact k
theorem minIx_lt {l : List Int} (h : l ≠ []) : minIx l < l.length := by
  obtain ⟨M, _, h1, _⟩ := minIx_spec h
  obtain ⟨k, _⟩ := List.getElem?_eq_some_iff.mp h1
  exact k
theorem lcm_go : ∀ (ns : List Int) (r : Int), 0 < r → (∀ n ∈ ns, 0 < n ∧ n ≤ 1000000000) → 0 < ns.foldl (fun r n => r / (Int.gcd r n : Nat) * n) r ∧ ns.foldl (fun r n => r / (Int.gcd r n : Nat) * n) r ≤ r * 1000000000 ^ ns.length
  | [], r, h, _ => ⟨h, by simp⟩
  | n :: ns, r, h, hn => by
    have h1 := hn n List.mem_cons_self
    have hs := lcm_step h h1.1
    obtain ⟨a, b⟩ := lcm_go ns (r / (Int.gcd r n : Nat) * n) hs.1 fun m hm => hn m (List.mem_cons_of_mem _ hm)
    refine ⟨a, Int.le_trans b ?_⟩
    rw [List.length_cons, Int.pow_succ, Int.mul_comm (1000000000 ^ ns.length) 1000000000, ← Int.mul_assoc]
    exact Int.mul_le_mul_of_nonneg_right (Int.le_trans hs.2 (Int.mul_le_mul_of_nonneg_left h1.2 (Int.le_of_lt h))) (Int.le_of_lt (Int.pow_pos (by decide)))
theorem lcm_bd {ns : List Int} (hl : ns.length ≤ 8) (hn : ∀ n ∈ ns, 0 < n ∧ n ≤ 1000000000) : 0 < lcmL ns ∧ Bd 300 (lcmL ns) := by
  obtain ⟨a, b⟩ := lcm_go ns 1 (by decide) hn
  refine ⟨a, ⟨?_⟩⟩
  have h4 := ipow_le hl
  have h5 : (1000000000 : Int) ^ 8 = 1000000000000000000000000000000000000000000000000000000000000000000000000 := by decide +kernel
  have h6 : (1000000000000000000000000000000000000000000000000000000000000000000000000 : Nat) < 2 ^ 300 := by decide +kernel
  rw [Int.one_mul] at b
  have b' : lcmL ns ≤ 1000000000 ^ ns.length := b
  have a' : 0 < lcmL ns := a
  omega
section
variable {P : Program} {w : World} {K : PySem.W.Frag} {mg : Str → Option Value} {base : Heap} {T : Tb}
abbrev s_law_far_shift : Stmt := top 80
theorem sc_law_far_shift : FnScope ["_law_corners", "_law_one", "_law_two", "_law_u", "_law_rows", "_law_near", "_law_far", "_law_a", "_law_b", "_law_c"] ["_law_corners", "_law_one", "_law_two"] (defScope s_law_far_shift) := ⟨rfl, rfl, rfl, by decide +kernel, rfl, by decide +kernel, by decide +kernel⟩
def R_law_far_shift (ds : List Da) (d : Da) : Prop := ∃ (vs : List Ve) (a b : Ve), ds = [.lst (vs.map v2), v2 a, v2 b] ∧ PolC vs ∧ (a.1.natAbs ≤ 1000 ∧ a.2.natAbs ≤ 1000) ∧ (b.1.natAbs ≤ 1000 ∧ b.2.natAbs ≤ 1000) ∧ d = fpD (farP vs a b)
theorem ri_law_far_shift {vs : List Ve} {a b : Ve} (h0 : PolC vs) (h1 : (a.1.natAbs ≤ 1000 ∧ a.2.natAbs ≤ 1000)) (h2 : (b.1.natAbs ≤ 1000 ∧ b.2.natAbs ≤ 1000)) : R_law_far_shift [.lst (vs.map v2), v2 a, v2 b] (fpD (farP vs a b)) := ⟨vs, a, b, rfl, h0, h1, h2, rfl⟩
theorem ok_law_far_shift {f : Addr} {fd : FuncData}  (F : FnP K "_law_far_shift" "_law_far_shift" s_law_far_shift f fd) (hm : mg "_law_far_shift" = some (.ref f)) (c__law_cross : C8.Cal P w K mg base 1 "_law_cross" (Prm T R_law_cross) []) (fr_max : mg "max" = none) (fr_min : mg "min" = none)  : C8.Cal P w K mg base 2 "_law_far_shift" (Prm T R_law_far_shift) [] := by
  refine ⟨⟨f, fd, _, [], fn_pure F sc_law_far_shift (fun ds d h => ?_) fun cdv A outer s H E hr => ⟨_, (pss_cons (ps_set (i := 3) sc_law_far_shift.nd rfl (Or.inr rfl) (pe_tup (pa_cons (pe_op op_add (pe_ix ix_tup (pv 1) pe_int (fun _ _ => rfl)) (pe_ix ix_tup (pv 2) pe_int (fun _ _ => rfl))) (pa_cons (pe_op op_add (pe_ix ix_tup (pv 1) pe_int (fun _ _ => rfl)) (pe_ix ix_tup (pv 2) pe_int (fun _ _ => rfl))) pa_nil)))) (pss_cons (ps_setLc (i := 4) (by rfl) sc_law_far_shift.nd rfl rfl (sw_true rfl rfl rfl (by decide +kernel)) (pi_list (pv 0)) (blkOk_by (own := [("_law_c", 9)]) (N := ["_law_corners", "_law_one", "_law_two", "_law_u", "_law_rows", "_law_near", "_law_far", "_law_a", "_law_b", "_law_c"]) (sc := defScope s_law_far_shift) (by decide +kernel)) (fun _ _ _ _ _ => (pg_name (i := 9) sc_law_far_shift.nd rfl (Or.inl rfl))) (fun _ _ _ _ _ => pts_nil) (fun _ _ _ _ _ => (C8.pe_c c__law_cross hr (by decide) rfl (pa_cons (pv 3) (pa_cons (pv 9) pa_nil))))) (pss_cons (ps_par (i := 5) (j := 6) (by rfl) sc_law_far_shift.nd rfl rfl (by decide) rfl rfl (pa_cons (pe_bm PySem.F.plainAttrs_list PySem.F.slot_list_index PySem.F.type_list_index mt_index (pv 4) (pa_cons (pe_callB (cr_max (by rfl)) (by rfl) fr_max (by decide +kernel) (pa_cons (pv 4) pa_nil)) pa_nil)) (pa_cons (pe_bm PySem.F.plainAttrs_list PySem.F.slot_list_index PySem.F.type_list_index mt_index (pv 4) (pa_cons (pe_callB (cr_min (by rfl)) (by rfl) fr_min (by decide +kernel) (pa_cons (pv 4) pa_nil)) pa_nil)) pa_nil)) (by rfl)) (pss_cons (ps_par (i := 7) (j := 8) (by rfl) sc_law_far_shift.nd rfl rfl (by decide) rfl rfl (pa_cons (pe_ix ix_list (pv 0) (pv 5) (fun _ _ => rfl)) (pa_cons (pe_ix ix_list (pv 0) (pv 6) (fun _ _ => rfl)) pa_nil)) (by rfl)) (pss_one (ps_ret (pe_tup (pa_cons (pv 5) (pa_cons (pv 6) (pa_cons (pe_tup (pa_cons (pe_op op_mulW pe_int (pe_op op_sub (pe_ix ix_tup (pv 8) pe_int (fun _ _ => rfl)) (pe_ix ix_tup (pv 7) pe_int (fun _ _ => rfl)))) (pa_cons (pe_op op_mulW pe_int (pe_op op_sub (pe_ix ix_tup (pv 8) pe_int (fun _ _ => rfl)) (pe_ix ix_tup (pv 7) pe_int (fun _ _ => rfl)))) pa_nil))) pa_nil)))))))))), fun ds d h => ?_⟩, hm, F.kp, F.bindsN (fun _ _ _ _ _ _ us hl => match us, hl with | [_, _, _], _ => rfl), .nil⟩⟩
  · obtain ⟨vs, a, b, rfl, hB, ha, hb, rfl⟩ := h
    rfl
  · obtain ⟨vs, a, b, rfl, hB, ha, hb, rfl⟩ := h
    have hl := hB.lo
    have hh := hB.hi
    have x1 := bdN (k := 10) ha.1; have x2 := bdN (k := 10) ha.2; have y1 := bdN (k := 10) hb.1; have y2 := bdN (k := 10) hb.2
    have len : (farVals vs a b).length = vs.length := by unfold farVals; rw [List.length_map]
    have hne : farVals vs a b ≠ [] := fun z => by
      have := congrArg List.length z
      rw [len, List.length_nil] at this
      omega
    obtain ⟨M, hM, iM⟩ := maxIx_spec hne
    obtain ⟨N, hN, iN⟩ := minIx_spec hne
    have kM := maxIx_lt hne; have kN := minIx_lt hne
    rw [len] at kM kN
    have cM := hB.co _ (hB.mem (maxIx (farVals vs a b) : Nat)); have cN := hB.co _ (hB.mem (minIx (farVals vs a b) : Nat))
    have := bdN (k := 13) cM.1; have := bdN (k := 13) cM.2; have := bdN (k := 13) cN.1; have := bdN (k := 13) cN.2
    exact .ret (sd_seq (sd_asg (ev_tup (ea_cons (ev_add (ev_ixT (ev_var rfl) ev_int rfl) (ev_ixT (ev_var rfl) ev_int rfl)) (ea_cons (ev_add (ev_ixT (ev_var rfl) ev_int rfl) (ev_ixT (ev_var rfl) ev_int rfl)) ea_nil)))) (sd_seq (sd_asg (x := .lst ((farVals vs a b).map Da.int)) (lst_is (ev_lc (it_list (ev_var rfl)) (lc_mapG (i := 9) (xs := vs) (g := v2) (f := fun v => .int (crs (a.1 + b.1, a.2 + b.2) v)) (by decide) fun v hv => ev_call (ea_cons (ev_var rfl) (ea_cons (ev_var rfl) ea_nil)) (ri_law_cross (Bd.up (bdAdd (x := x1) (y := y1)) (by decide)) (Bd.up (bdAdd (x := x2) (y := y2)) (by decide)) ((bdN (k := 13) (hB.co v hv).1).up (by decide)) ((bdN (k := 13) (hB.co v hv).2).up (by decide)))) (by rw [List.length_map]; omega)) (by unfold farVals; rw [List.map_map]; rfl))) (sd_seq (sd_par (ea_cons (ev_index (ns := farVals vs a b) (ev_var rfl) (ev_cb (ea_cons (ev_var rfl) ea_nil) (cd_max hM)) iM) (ea_cons (ev_index (ns := farVals vs a b) (ev_var rfl) (ev_cb (ea_cons (ev_var rfl) ea_nil) (cd_min hN)) iN) ea_nil))) (sd_seq (sd_par (ea_cons (ev_ixL (ev_var rfl) (ev_var rfl) (idxN kM)) (ea_cons (ev_ixL (ev_var rfl) (ev_var rfl) (idxN kN)) ea_nil))) (sd_ret (ev_tup (ea_cons (ev_var rfl) (ea_cons (ev_var rfl) (ea_cons (ev_tup (ea_cons (ev_mulB ev_int (ev_sub (ev_ixT (ev_var rfl) ev_int rfl) (ev_ixT (ev_var rfl) ev_int rfl))) (ea_cons (ev_mulB ev_int (ev_sub (ev_ixT (ev_var rfl) ev_int rfl) (ev_ixT (ev_var rfl) ev_int rfl))) ea_nil))) ea_nil)))))))))
abbrev s_law_far_rows : Stmt := top 81
theorem sc_law_far_rows : FnScope ["_law_corners", "_law_ways", "_law_result_here", "_law_k", "_law_near", "_law_far", "_law_shift", "_law_sizes"] ["_law_corners"] (defScope s_law_far_rows) := ⟨rfl, rfl, rfl, by decide +kernel, rfl, by decide +kernel, by decide +kernel⟩
def R_law_far_rows (ds : List Da) (d : Da) : Prop := ∃ vs : List Ve, ds = [.lst (vs.map v2)] ∧ PolC vs ∧ LawOk vs ∧ d = .lst ((lwRows vs).map rwD)
theorem ri_law_far_rows {vs : List Ve} (h0 : PolC vs) (h1 : LawOk vs) : R_law_far_rows [.lst (vs.map v2)] (.lst ((lwRows vs).map rwD)) := ⟨vs, rfl, h0, h1, rfl⟩
theorem ok_law_far_rows {f : Addr} {fd : FuncData}  (F : FnP K "_law_far_rows" "_law_far_rows" s_law_far_rows f fd) (hm : mg "_law_far_rows" = some (.ref f)) (c__law_directions : C8.Cal P w K mg base 2 "_law_directions" (Prm T R_law_directions) []) (fr_range : mg "range" = none) (fr_len : mg "len" = none) (c__law_far_shift : C8.Cal P w K mg base 2 "_law_far_shift" (Prm T R_law_far_shift) []) (fr_abs : mg "abs" = none) (c__law_cross : C8.Cal P w K mg base 1 "_law_cross" (Prm T R_law_cross) [])  : C8.Cal P w K mg base 3 "_law_far_rows" (Prm T R_law_far_rows) [] := by
  refine ⟨⟨f, fd, _, [], fn_pure F sc_law_far_rows (fun ds d h => ?_) fun cdv A outer s H E hr => ⟨_, (pss_cons (ps_set (i := 1) sc_law_far_rows.nd rfl (Or.inl rfl) (C8.pe_c c__law_directions hr (by decide) rfl (pa_cons (pv 0) pa_nil))) (pss_cons (ps_par (i := 1) (j := 2) (by rfl) sc_law_far_rows.nd rfl rfl (by decide) rfl rfl (pa_cons (pe_op op_cat (pv 1) (pe_lst (pa_cons (pe_tup (pa_cons (pe_op op_sub pe_int (pe_ix ix_tup (pe_ix ix_list (pv 1) pe_int (fun _ _ => rfl)) pe_int (fun _ _ => rfl))) (pa_cons (pe_op op_sub pe_int (pe_ix ix_tup (pe_ix ix_list (pv 1) pe_int (fun _ _ => rfl)) pe_int (fun _ _ => rfl))) pa_nil))) pa_nil))) (pa_cons (pe_lst pa_nil) pa_nil)) (by rfl)) (pss_cons (ps_for PassesOwn.never rfl (pi_range1 rfl fr_range (pa_cons (pe_op op_sub (pe_callB call_len_seq (by rfl) fr_len PySem.boot_len (pa_cons (pv 1) pa_nil)) pe_int) pa_nil)) (pg_name (i := 3) sc_law_far_rows.nd rfl (Or.inl rfl)) (pss_cons (ps_asg (C8.pe_c c__law_far_shift hr (by decide) rfl (pa_cons (pv 0) (pa_cons (pe_ix ix_list (pv 1) (pv 3) (fun _ _ => rfl)) (pa_cons (pe_ix ix_list (pv 1) (pe_op op_add (pv 3) pe_int) (fun _ _ => rfl)) pa_nil)))) (pg_tup (by rfl) (pgs_cons (pg_name (i := 4) sc_law_far_rows.nd rfl (Or.inl rfl)) (pgs_cons (pg_name (i := 5) sc_law_far_rows.nd rfl (Or.inl rfl)) (pgs_cons (pg_name (i := 6) sc_law_far_rows.nd rfl (Or.inl rfl)) pgs_nil))))) (pss_cons (ps_set (i := 7) sc_law_far_rows.nd rfl (Or.inl rfl) (pe_lst (pa_cons (pe_callB call_abs (by rfl) fr_abs (by decide +kernel) (pa_cons (C8.pe_c c__law_cross hr (by decide) rfl (pa_cons (pe_ix ix_list (pv 1) (pv 3) (fun _ _ => rfl)) (pa_cons (pv 6) pa_nil))) pa_nil)) (pa_cons (pe_callB call_abs (by rfl) fr_abs (by decide +kernel) (pa_cons (C8.pe_c c__law_cross hr (by decide) rfl (pa_cons (pe_ix ix_list (pv 1) (pe_op op_add (pv 3) pe_int) (fun _ _ => rfl)) (pa_cons (pv 6) pa_nil))) pa_nil)) pa_nil)))) (pss_one (ps_expr (pe_bm PySem.F.plainAttrs_list PySem.F.slot_list_append PySem.F.type_list_append mt_append (pv 2) (pa_cons (pe_tup (pa_cons (pe_ix ix_list (pv 1) (pv 3) (fun _ _ => rfl)) (pa_cons (pe_ix ix_list (pv 1) (pe_op op_add (pv 3) pe_int) (fun _ _ => rfl)) (pa_cons (pv 4) (pa_cons (pv 5) (pa_cons (pv 6) (pa_cons (pe_ix ix_list (pv 7) pe_int (fun _ _ => rfl)) (pa_cons (pe_ix ix_list (pv 7) pe_int (fun _ _ => rfl)) (pa_cons (C8.pe_c c__law_cross hr (by decide) rfl (pa_cons (pe_ix ix_list (pv 1) (pv 3) (fun _ _ => rfl)) (pa_cons (pe_ix ix_list (pv 1) (pe_op op_add (pv 3) pe_int) (fun _ _ => rfl)) pa_nil))) pa_nil))))))))) pa_nil))))))) (pss_one (ps_ret (pv 2)))))), fun ds d h => ?_⟩, hm, F.kp, F.bindsN (fun _ _ _ _ _ _ us hl => match us, hl with | [_], _ => rfl), .nil⟩⟩
  · obtain ⟨vs, rfl, hB, hL, rfl⟩ := h
    rfl
  · obtain ⟨vs, rfl, hB, hL, rfl⟩ := h
    have n1 := hL.n1; have n6 := hL.n6
    have hd0 : 0 < (lwDirs vs).length := by omega
    have wl : (lwWays vs).length = (lwDirs vs).length + 1 := by unfold lwWays; rw [List.length_append, List.length_singleton]
    have e1 : (lwDirs vs).map v2 ++ [i2 (0 - ((lwDirs vs).getD 0 (0, 0)).1) (0 - ((lwDirs vs).getD 0 (0, 0)).2)] = (lwWays vs).map v2 := by unfold lwWays; rw [List.map_append]; rfl
    refine .ret (sd_seq (sd_asg (ev_call (ea_cons (ev_var rfl) ea_nil) (ri_law_directions hB hL.edge))) (sd_parMine (lst_is (ev_catL (ev_var rfl) (ev_lst (ea_cons (ev_tup (ea_cons (ev_sub ev_int (ev_ixT (ev_ixL (ev_var rfl) ev_int (atI_getD (i := 0) (d0 := (0, 0)) hd0)) ev_int rfl)) (ea_cons (ev_sub ev_int (ev_ixT (ev_ixL (ev_var rfl) ev_int (atI_getD (i := 0) (d0 := (0, 0)) hd0)) ev_int rfl)) ea_nil))) ea_nil)) (by rw [List.length_map]; simp only [List.length_cons, List.length_nil]; omega)) e1) fun pr => sd_forS (G := (fun a δ' S' => ∃ z3 z4 z5 z6 z7, S'.lookup pr = some (.lst (((List.range a).map (lwRow vs)).map rwD)) ∧ δ' = [some (.lst (vs.map v2)), some (.lst ((lwWays vs).map v2)), some (.fn pr), z3, z4, z5, z6, z7] : Nat → List (Option Da) → Os → Prop) (lwDirs vs).length) (it_is (it_rng1 (ea_cons (ev_sub (ev_cb (ea_cons (ev_var rfl) ea_nil) cd_lenL) ev_int) ea_nil) (by rw [List.length_map]; omega)) (by rw [List.length_map, wl, show (((lwDirs vs).length + 1 : Nat) : Int) - 1 = (((lwDirs vs).length : Nat) : Int) by omega]; exact rng_nat)) (for_nat (lwDirs vs).length (it := fun i => .int ((i : Nat) : Int)) (fun a δ' S' => ∃ z3 z4 z5 z6 z7, S'.lookup pr = some (.lst (((List.range a).map (lwRow vs)).map rwD)) ∧ δ' = [some (.lst (vs.map v2)), some (.lst ((lwWays vs).map v2)), some (.fn pr), z3, z4, z5, z6, z7]) ?_ ⟨none, none, none, none, none, lk0, rfl⟩) ?_))
    · rintro a δ S ha ⟨z3, z4, z5, z6, z7, hS, rfl⟩
      have ka : a < (lwWays vs).length := by omega
      have kb : a + 1 < (lwWays vs).length := by omega
      have va := hL.vec _ (getD_mem (d0 := (0, 0)) ka); have vb := hL.vec _ (getD_mem (d0 := (0, 0)) kb)
      have hsh := (hL.part (lwRow vs a) (List.mem_map.mpr ⟨a, List.mem_range.mpr ha, rfl⟩)).2
      have s1 := bdN (k := 17) hsh.1; have s2 := bdN (k := 17) hsh.2
      have a1 := bdN (k := 10) va.1; have a2 := bdN (k := 10) va.2; have b1 := bdN (k := 10) vb.1; have b2 := bdN (k := 10) vb.2
      have cr1 := ri_law_cross (a1.up (by decide)) (a2.up (by decide)) (s1.up (by decide)) (s2.up (by decide))
      have cr2 := ri_law_cross (b1.up (by decide)) (b2.up (by decide)) (s1.up (by decide)) (s2.up (by decide))
      have cr3 := ri_law_cross (a1.up (by decide)) (a2.up (by decide)) (b1.up (by decide)) (b2.up (by decide))
      have k1 : (((a : Nat) : Int) + 1) = ((a + 1 : Nat) : Int) := by omega
      refine ⟨_, _, [some (.lst (vs.map v2)), some (.lst ((lwWays vs).map v2)), some (.fn pr), some (.int (a : Nat)), some (.int ((lwRow vs a).near : Nat)), some (.int ((lwRow vs a).far : Nat)), some (v2 (lwRow vs a).sh), some (.lst [.int (lwRow vs a).w, .int (lwRow vs a).v])], (pr, .lst (((List.range a).map (lwRow vs)).map rwD ++ [rwD (lwRow vs a)])) :: S, gd_name, sd_seq (sd_asgG (ev_call (ea_cons (ev_var rfl) (ea_cons (ev_ixL (ev_var rfl) (ev_var rfl) (atI_getD (d0 := (0, 0)) ka)) (ea_cons (ev_ixL (ev_var rfl) (ev_is (ev_add (ev_var rfl) ev_int) (congrArg Da.int k1)) (atI_getD (d0 := (0, 0)) kb)) ea_nil))) (ri_law_far_shift hB va vb)) (gd_tup (gds_cons gd_name (gds_cons gd_name (gds_cons gd_name gds_nil))))) (sd_seq (sd_asg (ev_lst (ea_cons (ev_cb (ea_cons (ev_call (ea_cons (ev_ixL (ev_var rfl) (ev_var rfl) (atI_getD (d0 := (0, 0)) ka)) (ea_cons (ev_var rfl) ea_nil)) cr1) ea_nil) cd_abs) (ea_cons (ev_cb (ea_cons (ev_call (ea_cons (ev_ixL (ev_var rfl) (ev_is (ev_add (ev_var rfl) ev_int) (congrArg Da.int k1)) (atI_getD (d0 := (0, 0)) kb)) (ea_cons (ev_var rfl) ea_nil)) cr2) ea_nil) cd_abs) ea_nil)))) (sd_app (ev_var rfl) (ev_tup (ea_cons (ev_ixL (ev_var rfl) (ev_var rfl) (atI_getD (d0 := (0, 0)) ka)) (ea_cons (ev_ixL (ev_var rfl) (ev_is (ev_add (ev_var rfl) ev_int) (congrArg Da.int k1)) (atI_getD (d0 := (0, 0)) kb)) (ea_cons (ev_var rfl) (ea_cons (ev_var rfl) (ea_cons (ev_var rfl) (ea_cons (ev_ixL (ev_var rfl) ev_int rfl) (ea_cons (ev_ixL (ev_var rfl) ev_int rfl) (ea_cons (ev_call (ea_cons (ev_ixL (ev_var rfl) (ev_var rfl) (atI_getD (d0 := (0, 0)) ka)) (ea_cons (ev_ixL (ev_var rfl) (ev_is (ev_add (ev_var rfl) ev_int) (congrArg Da.int k1)) (atI_getD (d0 := (0, 0)) kb)) ea_nil)) cr3) ea_nil))))))))) hS (by rw [List.length_map, List.length_map, List.length_range]; omega))), _, _, _, _, _, ?_, rfl⟩
      rw [lk0, List.range_succ, List.map_append, List.map_append]
      rfl
    · rintro δ S ⟨z3, z4, z5, z6, z7, hS, rfl⟩
      exact sd_retL (ev_var rfl) hS
abbrev s_law_modulus : Stmt := top 82
theorem sc_law_modulus : FnScope ["_law_corners", "_law_result_here", "_law_one", "_law_two", "_law_near", "_law_far", "_law_shift", "_law_w", "_law_v", "_law_d", "_law_part"] ["_law_corners"] (defScope s_law_modulus) := ⟨rfl, rfl, rfl, by decide +kernel, rfl, by decide +kernel, by decide +kernel⟩
def R_law_modulus (ds : List Da) (d : Da) : Prop := ∃ vs : List Ve, ds = [.lst (vs.map v2)] ∧ PolC vs ∧ LawOk vs ∧ d = .int (lwMod vs)
theorem ri_law_modulus {vs : List Ve} (h0 : PolC vs) (h1 : LawOk vs) : R_law_modulus [.lst (vs.map v2)] (.int (lwMod vs)) := ⟨vs, rfl, h0, h1, rfl⟩
theorem ok_law_modulus {f : Addr} {fd : FuncData}  (F : FnP K "_law_modulus" "_law_modulus" s_law_modulus f fd) (hm : mg "_law_modulus" = some (.ref f)) (c__law_far_rows : C8.Cal P w K mg base 3 "_law_far_rows" (Prm T R_law_far_rows) []) (c__law_gcd : C8.Cal P w K mg base 1 "_law_gcd" (Prm T R_law_gcd) [])  : C8.Cal P w K mg base 4 "_law_modulus" (Prm T R_law_modulus) [] := by
  refine ⟨⟨f, fd, _, [], fn_pure F sc_law_modulus (fun ds d h => ?_) fun cdv A outer s H E hr => ⟨_, (pss_cons (ps_set (i := 1) sc_law_modulus.nd rfl (Or.inl rfl) pe_int) (pss_cons (ps_for PassesOwn.never rfl (pi_list (C8.pe_c c__law_far_rows hr (by decide) rfl (pa_cons (pv 0) pa_nil))) (pg_tup (by rfl) (pgs_cons (pg_name (i := 2) sc_law_modulus.nd rfl (Or.inl rfl)) (pgs_cons (pg_name (i := 3) sc_law_modulus.nd rfl (Or.inl rfl)) (pgs_cons (pg_name (i := 4) sc_law_modulus.nd rfl (Or.inl rfl)) (pgs_cons (pg_name (i := 5) sc_law_modulus.nd rfl (Or.inl rfl)) (pgs_cons (pg_name (i := 6) sc_law_modulus.nd rfl (Or.inl rfl)) (pgs_cons (pg_name (i := 7) sc_law_modulus.nd rfl (Or.inl rfl)) (pgs_cons (pg_name (i := 8) sc_law_modulus.nd rfl (Or.inl rfl)) (pgs_cons (pg_name (i := 9) sc_law_modulus.nd rfl (Or.inl rfl)) pgs_nil))))))))) (pss_cons (ps_set (i := 10) sc_law_modulus.nd rfl (Or.inl rfl) (pe_op op_fdivW (pe_op op_mulW (pv 7) (pv 8)) (C8.pe_c c__law_gcd hr (by decide) rfl (pa_cons (pe_op op_mulW (pv 7) (pv 8)) (pa_cons (pv 9) pa_nil))))) (pss_one (ps_set (i := 1) sc_law_modulus.nd rfl (Or.inl rfl) (pe_op op_mulW (pe_op op_fdivW (pv 1) (C8.pe_c c__law_gcd hr (by decide) rfl (pa_cons (pv 1) (pa_cons (pv 10) pa_nil)))) (pv 10)))))) (pss_one (ps_ret (pv 1))))), fun ds d h => ?_⟩, hm, F.kp, F.bindsN (fun _ _ _ _ _ _ us hl => match us, hl with | [_], _ => rfl), .nil⟩⟩
  · obtain ⟨vs, rfl, hB, hL, rfl⟩ := h
    rfl
  · obtain ⟨vs, rfl, hB, hL, rfl⟩ := h
    have n6 := hL.n6
    have rl : (lwRows vs).length = (lwDirs vs).length := by unfold lwRows; rw [List.length_map, List.length_range]
    have wl : (lwWays vs).length = (lwDirs vs).length + 1 := by unfold lwWays; rw [List.length_append, List.length_singleton]
    exact .ret (sd_seq (sd_asg ev_int) (sd_forS (G := (fun done δ' S' => ∃ z2 z3 z4 z5 z6 z7 z8 z9 z10, (∀ r ∈ done, r ∈ lwRows vs) ∧ S' = [] ∧ δ' = [some (.lst (vs.map v2)), some (.int (lcmL (done.map lwPart))), z2, z3, z4, z5, z6, z7, z8, z9, z10] : List Row → List (Option Da) → Os → Prop) (lwRows vs)) (it_list (ev_call (ea_cons (ev_var rfl) ea_nil) (ri_law_far_rows hB hL))) (for_each (xs := lwRows vs) (it := rwD) (fun done δ' S' => ∃ z2 z3 z4 z5 z6 z7 z8 z9 z10, (∀ r ∈ done, r ∈ lwRows vs) ∧ S' = [] ∧ δ' = [some (.lst (vs.map v2)), some (.int (lcmL (done.map lwPart))), z2, z3, z4, z5, z6, z7, z8, z9, z10]) (by
      rintro done r δ S hr hd ⟨z2, z3, z4, z5, z6, z7, z8, z9, z10, hdone, rfl, rfl⟩
      have hp := hL.part r hr
      obtain ⟨k, hk, e⟩ := List.mem_map.mp hr
      have hk := List.mem_range.mp hk
      have va := hL.vec _ (getD_mem (d0 := (0, 0)) (show k < (lwWays vs).length by omega)); have vb := hL.vec _ (getD_mem (d0 := (0, 0)) (show k + 1 < (lwWays vs).length by omega))
      have a1 := bdN (k := 10) va.1; have a2 := bdN (k := 10) va.2; have b1 := bdN (k := 10) vb.1; have b2 := bdN (k := 10) vb.2
      have s1 : Bd 17 r.sh.1 := bdN hp.2.1
      have s2 : Bd 17 r.sh.2 := bdN hp.2.2
      have bw : Bd 60 r.w := by
        subst e
        exact Bd.up (bdAbs (h := bdSub (x := bdMul (x := a1) (y := s2)) (y := bdMul (x := a2) (y := s1)))) (by decide)
      have bv : Bd 60 r.v := by
        subst e
        exact Bd.up (bdAbs (h := bdSub (x := bdMul (x := b1) (y := s2)) (y := bdMul (x := b2) (y := s1)))) (by decide)
      have bd : Bd 60 r.d := by
        subst e
        exact Bd.up (bdSub (x := bdMul (x := a1) (y := b2)) (y := bdMul (x := a2) (y := b1))) (by decide)
      have hdn := hp.1.1.2
      have hg : (0 : Int) < (Int.gcd (r.w * r.v) r.d : Nat) := by
        have := Int.gcd_pos_iff.mpr (.inr hdn : r.w * r.v ≠ 0 ∨ r.d ≠ 0)
        omega
      have hgl : ((Int.gcd (r.w * r.v) r.d : Nat) : Int).natAbs < 2 ^ 60 := Nat.lt_of_le_of_lt (Int.gcd_le_natAbs_right _ hdn) bd.out
      have hdm : ∀ n ∈ done.map lwPart, 0 < n ∧ n ≤ 1000000000 := fun n hn => by
        obtain ⟨r', hr', rfl⟩ := List.mem_map.mp hn
        have := (hL.part r' (hdone r' hr')).1
        exact ⟨this.1.1, this.2⟩
      obtain ⟨l0, l1⟩ := lcm_bd (ns := done.map lwPart) (by rw [List.length_map]; omega) hdm
      have hg2 : (0 : Int) < (Int.gcd (lcmL (done.map lwPart)) (lwPart r) : Nat) := by
        have := Int.gcd_pos_iff.mpr (.inl (Int.ne_of_gt l0) : lcmL (done.map lwPart) ≠ 0 ∨ lwPart r ≠ 0)
        omega
      have hgl2 : ((Int.gcd (lcmL (done.map lwPart)) (lwPart r) : Nat) : Int).natAbs < 2 ^ 300 := Nat.lt_of_le_of_lt (Int.gcd_le_natAbs_left _ (Int.ne_of_gt l0)) l1.out
      have hq : Bd 300 (lcmL (done.map lwPart) / (Int.gcd (lcmL (done.map lwPart)) (lwPart r) : Nat)) := ⟨by
        have h0 := l1.out
        have := Int.natAbs_ediv_le_natAbs (lcmL (done.map lwPart)) ((Int.gcd (lcmL (done.map lwPart)) (lwPart r) : Nat) : Int)
        omega⟩
      have hnb : Bd 30 (lwPart r) := .of_le 1000000000 (by have := hp.1.1.1; omega) hp.1.2
      have e2 : lcmL ((done ++ [r]).map lwPart) = lcmL (done.map lwPart) / (Int.gcd (lcmL (done.map lwPart)) (lwPart r) : Nat) * lwPart r := by
        unfold lcmL
        rw [List.map_append, List.foldl_append]
        rfl
      rw [e2]
      refine ⟨_, _, _, [], gd_tup (gds_cons gd_name (gds_cons gd_name (gds_cons gd_name (gds_cons gd_name (gds_cons gd_name (gds_cons gd_name (gds_cons gd_name (gds_cons gd_name gds_nil)))))))), sd_seq (sd_asg (x := .int (lwPart r)) (ev_fdiv (ev_mulB (ev_var rfl) (ev_var rfl) (x := bw) (y := bv)) (ev_call (ea_cons (ev_mulB (ev_var rfl) (ev_var rfl) (x := bw) (y := bv)) (ea_cons (ev_var rfl) ea_nil)) ri_law_gcd) (wide_div (b := 60) hg hgl (by decide) (by decide)))) (sd_asg (ev_mulB (ev_fdiv (ev_var rfl) (ev_call (ea_cons (ev_var rfl) (ea_cons (ev_var rfl) ea_nil)) ri_law_gcd) (wide_div (b := 300) hg2 hgl2 (by decide) (by decide))) (ev_var rfl) (x := hq) (y := hnb))), _, _, _, _, _, _, _, _, _, ?_, rfl, rfl⟩
      intro r' hr'
      rcases List.mem_append.mp hr' with h | h
      · exact hdone r' h
      · rw [List.mem_singleton.mp h]; exact hr) ⟨_, _, _, _, _, _, _, _, _, nofun, rfl, rfl⟩) (by
      rintro δ S ⟨z2, z3, z4, z5, z6, z7, z8, z9, z10, _, rfl, rfl⟩
      exact (sd_ret (ev_var rfl)))))
end
end O26
set_option Elab.async false
set_option linter.all false
set_option maxRecDepth 100000
set_option maxHeartbeats 4000000
namespace O26
open PySem PySem.Spec PyProof.Rows L2
theorem tabGo_small : ∀ (n : Nat) (q : Pen) (a b : Ve) (k : Nat), small3 k a → small3 k b → small3 (k + n) (tabGo n q a b).1.1 ∧ small3 (k + n) (tabGo n q a b).1.2
  | 0, q, a, b, k, h1, h2 => ⟨h1, h2⟩
  | n + 1, q, a, b, k, h1, h2 => by
    have := tabGo_small n (drawP q 8) (mapC (rowT (drawN q 8)) a) (mapC (rowT (drawN q 8)) b) (k + 1) (small3_map h1) (small3_map h2)
    rw [show k + 1 + n = k + (n + 1) by omega] at this
    exact this
structure TabS (t : Tab) : Prop where
  a : t.a.natAbs ≤ 27
  b : t.b.natAbs ≤ 27
  c : t.c.natAbs ≤ 27
  d : t.d.natAbs ≤ 27
  p : t.p.natAbs ≤ 20
  q : t.q.natAbs ≤ 20
theorem tabT_s (q : Pen) : TabS (tabT q) := by
  have h4 := drawN_lt (q := q) (n := 4) (by decide)
  have h := tabGo_small (drawN q 4) (drawP q 4) (1, 0) (0, 1) 0 ⟨by decide, by decide⟩ ⟨by decide, by decide⟩
  rw [Nat.zero_add] at h
  have e : 3 ^ drawN q 4 ≤ 27 := Nat.le_trans (Nat.pow_le_pow_right (by decide) (by omega : drawN q 4 ≤ 3)) (by decide)
  have d1 := drawD_nn (q := (tabM q).2) (m := 41) (by decide); have d2 := drawD_lt (q := (tabM q).2) (m := 41) (by decide)
  have d3 := drawD_nn (q := drawP (tabM q).2 41) (m := 41) (by decide); have d4 := drawD_lt (q := drawP (tabM q).2 41) (m := 41) (by decide)
  exact ⟨Nat.le_trans h.1.x e, Nat.le_trans h.2.x e, Nat.le_trans h.1.y e, Nat.le_trans h.2.y e, by show (drawD _ 41 - 20).natAbs ≤ 20; omega, by show (drawD _ 41 - 20).natAbs ≤ 20; omega⟩
theorem TabS.bd {t : Tab} (h : TabS t) : TabBd t := ⟨bdN h.a, bdN h.b, bdN h.c, bdN h.d, bdN h.p, bdN h.q⟩
theorem fromLeast_mem {l : List Ve} {v : Ve} : v ∈ fromLeast l ↔ v ∈ l := by
  cases l with
  | nil => exact Iff.rfl
  | cons a r =>
    unfold fromLeast rotL
    rw [List.mem_append]
    constructor
    · rintro (h | h)
      · exact List.mem_of_mem_drop h
      · exact List.mem_of_mem_take h
    · intro h
      rw [← List.take_append_drop (leastK a r) (a :: r), List.mem_append] at h
      exact h.symm
theorem fromLeast_len {l : List Ve} : (fromLeast l).length = l.length := by
  cases l with
  | nil => rfl
  | cons a r =>
    have := leastK_lt a r
    unfold fromLeast rotL
    rw [List.length_append, List.length_drop, List.length_take]
    omega
theorem mapped_mem {t : Tab} {vs : List Ve} {v : Ve} : v ∈ mappedL t vs ↔ ∃ u ∈ vs, mapC t u = v := by
  unfold mappedL
  rw [fromLeast_mem]
  split
  · exact List.mem_map
  · rw [List.mem_reverse]; exact List.mem_map
theorem mapped_len {t : Tab} {vs : List Ve} : (mappedL t vs).length = vs.length := by
  unfold mappedL
  rw [fromLeast_len]
  split
  · exact List.length_map ..
  · rw [List.length_reverse]; exact List.length_map ..
theorem base_mem (q : Pen) : shBase q ∈ shapesL := by
  have h := drawN_lt (q := q) (n := 17) (by decide)
  exact getD_mem (show drawN q 17 < shapesL.length from h)
theorem shapes_small : ∀ s ∈ shapesL, (3 ≤ s.length ∧ s.length ≤ 6) ∧ ∀ v ∈ s, v.1.natAbs ≤ 4 ∧ v.2.natAbs ≤ 4 := by decide +kernel
theorem many_bd (q : Pen) : 1 ≤ shMany q ∧ shMany q ≤ 3 := by
  have := drawD_nn (q := drawP q 17) (m := 3) (by decide); have := drawD_lt (q := drawP q 17) (m := 3) (by decide)
  unfold shMany
  omega
theorem scale_small {q : Pen} : ∀ v ∈ scaleL (shMany q) (shBase q), v.1.natAbs ≤ 12 ∧ v.2.natAbs ≤ 12 := fun v hv => by
  obtain ⟨u, hu, rfl⟩ := List.mem_map.mp hv
  have h := (shapes_small _ (base_mem q)).2 u hu
  have hm := many_bd q
  have m3 : (shMany q).natAbs ≤ 3 := by omega
  rw [Int.natAbs_mul, Int.natAbs_mul]
  exact ⟨Nat.le_trans (Nat.mul_le_mul m3 h.1) (by decide), Nat.le_trans (Nat.mul_le_mul m3 h.2) (by decide)⟩
theorem scale_len {q : Pen} : (scaleL (shMany q) (shBase q)).length = (shBase q).length := by unfold scaleL; exact List.length_map ..
theorem mapC_small {t : Tab} (ht : TabS t) {v : Ve} (h : v.1.natAbs ≤ 12 ∧ v.2.natAbs ≤ 12) : (mapC t v).1.natAbs ≤ 5000 ∧ (mapC t v).2.natAbs ≤ 5000 := by
  have k1 : (t.a * v.1).natAbs ≤ 27 * 12 := by rw [Int.natAbs_mul]; exact Nat.mul_le_mul ht.a h.1
  have k2 : (t.b * v.2).natAbs ≤ 27 * 12 := by rw [Int.natAbs_mul]; exact Nat.mul_le_mul ht.b h.2
  have k3 : (t.c * v.1).natAbs ≤ 27 * 12 := by rw [Int.natAbs_mul]; exact Nat.mul_le_mul ht.c h.1
  have k4 : (t.d * v.2).natAbs ≤ 27 * 12 := by rw [Int.natAbs_mul]; exact Nat.mul_le_mul ht.d h.2
  have k5 := ht.p; have k6 := ht.q
  unfold mapC
  simp only
  omega
theorem shRes_polC (q : Pen) : PolC (shRes q) := by
  have h := shapes_small _ (base_mem q)
  have e : (shRes q).length = (shBase q).length := by unfold shRes; rw [mapped_len, scale_len]
  refine ⟨by rw [e]; exact h.1.1, by rw [e]; exact h.1.2, fun v hv => ?_⟩
  unfold shRes at hv
  obtain ⟨u, hu, rfl⟩ := mapped_mem.mp hv
  exact mapC_small (tabT_s _) (scale_small u hu)
def mxA (v : Ve) : Int := if iabs v.2 > iabs v.1 then iabs v.2 else iabs v.1
theorem mxA_60 (v : Ve) : decide (mxA v > 60) = (decide (60 < v.1.natAbs) || decide (60 < v.2.natAbs)) := by
  rw [← Bool.decide_or, decide_eq_decide]
  unfold mxA
  rw [iabs_eq, iabs_eq]
  split <;> omega
theorem wide_eq {vs : List Ve} {m : Int} (h : m ∈ vs.map mxA ∧ ∀ y ∈ vs.map mxA, y ≤ m) : decide (m > 60) = O26.wide vs := by
  unfold O26.wide
  cases e : vs.any fun v => decide (60 < v.1.natAbs) || decide (60 < v.2.natAbs) with
  | true =>
    obtain ⟨v, hv, k⟩ := List.any_eq_true.mp e
    rw [← mxA_60] at k
    have := h.2 _ (List.mem_map_of_mem hv)
    have := of_decide_eq_true k
    exact decide_eq_true (by omega)
  | false =>
    obtain ⟨v, hv, rfl⟩ := List.mem_map.mp h.1
    have := List.any_eq_false.mp e v hv
    rw [← mxA_60] at this
    exact decide_eq_false fun z => this (decide_eq_true z)
theorem pick_sh {q : Pen} {l : List (List Ve)} (h : 0 < l.length) : pickD q (l.map shD) = shD (l.getD (drawN q l.length) []) := by
  unfold pickD
  rw [List.length_map, List.getD_eq_getElem?_getD, List.getElem?_map, List.getElem?_eq_getElem (drawN_lt h), List.getD_eq_getElem?_getD, List.getElem?_eq_getElem (drawN_lt h)]
  rfl
abbrev densD : List Da := [.int 1, .int 1, .int 2, .int 3, .int 7]
def denD (q : Pen) : Int := ([1, 1, 2, 3, 7] : List Int).getD (drawN q 5) 1
theorem dens_ok (q : Pen) : 1 ≤ denD q ∧ denD q ≤ 7 := by
  have h := drawN_lt (q := q) (n := 5) (by decide)
  unfold denD
  generalize drawN q 5 = k at h
  have : ∀ k, k < 5 → 1 ≤ ([1, 1, 2, 3, 7] : List Int).getD k 1 ∧ ([1, 1, 2, 3, 7] : List Int).getD k 1 ≤ 7 := by decide
  exact this k h
theorem dens_pick (q : Pen) : pickD q densD = .int (denD q) := by
  have h := drawN_lt (q := q) (n := 5) (by decide)
  unfold pickD denD
  have e : densD.length = 5 := rfl
  rw [e]
  generalize drawN q 5 = k at h
  match k, h with
  | 0, _ => rfl
  | 1, _ => rfl
  | 2, _ => rfl
  | 3, _ => rfl
  | 4, _ => rfl
def deadP (q : Pen) (vs : List Ve) : Pen := drawP (drawP q (vs.length : Nat)) 5
def deadV (q : Pen) (vs : List Ve) (m : Int) : Pt :=
  let a := vtx vs (drawN q vs.length : Nat)
  let b := vtx vs ((drawN q vs.length : Nat) + 1)
  let d := denD (drawP q (vs.length : Nat))
  pform (a.1 * d + m * (a.1 - b.1)) (a.2 * d + m * (a.2 - b.2)) d
section
variable {P : Program} {w : World} {K : PySem.W.Frag} {mg : Str → Option Value} {base : Heap} {T : Tb}
abbrev s_law_shape : Stmt := top 87
theorem sc_law_shape : FnScope ["_law_pen_here", "_law_base", "_law_many", "_law_result_here", "_law_x", "_law_y"] ["_law_pen_here"] (defScope s_law_shape) := ⟨rfl, rfl, rfl, by decide +kernel, rfl, by decide +kernel, by decide +kernel⟩
def R_law_shape (ds : List Da) (S0 S1 : Os) (d : Da) : Prop := ∃ (p : Addr) (q : Pen) (n : Nat), ds = [.fn p] ∧ PenOk n q ∧ n ≤ 800000 ∧ LawOk (shRes q) ∧ S0 = pS p q ∧ S1 = pS p (shapeP q) ∧ d = .lst ((shapeV q).map v2)
theorem ok_law_shape {f : Addr} {fd : FuncData}  (F : FnP K "_law_shape" "_law_shape" s_law_shape f fd) (hm : mg "_law_shape" = some (.ref f)) (c__law_shapes : C8.Cal P w K mg base 1 "_law_shapes" (Prm T R_law_shapes) []) (c__law_pick : C8.Cal P w K mg base 2 "_law_pick" (PrmS T R_law_pick) []) (c__law_draw : C8.Cal P w K mg base 1 "_law_draw" (PrmS T R_law_draw) []) (c__law_table : C8.Cal P w K mg base 3 "_law_table" (PrmS T R_law_table) []) (c__law_mapped : C8.Cal P w K mg base 2 "_law_mapped" (Prm T R_law_mapped) []) (fr_max : mg "max" = none) (fr_abs : mg "abs" = none) (c__law_modulus : C8.Cal P w K mg base 4 "_law_modulus" (Prm T R_law_modulus) []) (c__law_from_least : C8.Cal P w K mg base 1 "_law_from_least" (Prm T R_law_from_least) [])  : C8.Cal P w K mg base 5 "_law_shape" (PrmS T R_law_shape) [] := by
  refine ⟨f, fd, _, [], fn_own F sc_law_shape (fun ds S0 S1 d h => ?_) fun cdv A outer s H E hr => ⟨_, (pss_cons (ps_set (i := 1) sc_law_shape.nd rfl (Or.inl rfl) (C8.pe_c c__law_pick hr (by decide) rfl (pa_cons (pv 0) (pa_cons (pe_c0 c__law_shapes hr (by decide) rfl) pa_nil)))) (pss_cons (ps_set (i := 2) sc_law_shape.nd rfl (Or.inr rfl) (pe_op op_add pe_int (C8.pe_c c__law_draw hr (by decide) rfl (pa_cons (pv 0) (pa_cons pe_int pa_nil))))) (pss_cons (ps_set (i := 3) sc_law_shape.nd rfl (Or.inl rfl) (C8.pe_c c__law_mapped hr (by decide) rfl (pa_cons (C8.pe_c c__law_table hr (by decide) rfl (pa_cons (pv 0) (pa_cons pe_int pa_nil))) (pa_cons (pe_lc (by rfl) sc_law_shape.nd (pi_list (pv 1)) (blkOk_by (own := [("_law_x", 4), ("_law_y", 5)]) (N := ["_law_pen_here", "_law_base", "_law_many", "_law_result_here", "_law_x", "_law_y"]) (sc := defScope s_law_shape) (by decide +kernel)) (fun _ _ _ _ _ => (pg_tupK (K := K) (n := 2) rfl (by rfl) (pgs_cons (pg_name (i := 4) sc_law_shape.nd rfl (Or.inl rfl)) (pgs_cons (pg_name (i := 5) sc_law_shape.nd rfl (Or.inl rfl)) pgs_nil)))) (fun _ _ _ _ _ => pts_nil) (fun _ _ _ _ _ => (pe_tup (pa_cons (pe_op op_mulW (pv 2) (pv 4)) (pa_cons (pe_op op_mulW (pv 2) (pv 5)) pa_nil))))) pa_nil)))) (pss_cons (ps_if (PW.pt (pw_or (pt_cmpR op_gt (pe_callB (cr_max (by rfl)) (by rfl) fr_max (by decide +kernel) (pa_cons (pe_lc (by rfl) sc_law_shape.nd (pi_list (pv 3)) (blkOk_by (own := [("_law_x", 4), ("_law_y", 5)]) (N := ["_law_pen_here", "_law_base", "_law_many", "_law_result_here", "_law_x", "_law_y"]) (sc := defScope s_law_shape) (by decide +kernel)) (fun _ _ _ _ _ => (pg_tupK (K := K) (n := 2) rfl (by rfl) (pgs_cons (pg_name (i := 4) sc_law_shape.nd rfl (Or.inl rfl)) (pgs_cons (pg_name (i := 5) sc_law_shape.nd rfl (Or.inl rfl)) pgs_nil)))) (fun _ _ _ _ _ => pts_nil) (fun _ _ _ _ _ => (pe_callB (call_max2 (by rfl)) (by rfl) fr_max (by decide +kernel) (pa_cons (pe_callB call_abs (by rfl) fr_abs (by decide +kernel) (pa_cons (pv 4) pa_nil)) (pa_cons (pe_callB call_abs (by rfl) fr_abs (by decide +kernel) (pa_cons (pv 5) pa_nil)) pa_nil))))) pa_nil)) pe_int (nomark _)) (pw_or1 (pt_cmpR op_gt (C8.pe_c c__law_modulus hr (by decide) rfl (pa_cons (pv 3) pa_nil)) pe_int (nomark _))))) (pss_one (ps_ret (C8.pe_c c__law_from_least hr (by decide) rfl (pa_cons (C8.pe_c c__law_pick hr (by decide) rfl (pa_cons (pv 0) (pa_cons (pe_slice sl_list (pe_c0 c__law_shapes hr (by decide) rfl) po_none (po_some pe_int)) pa_nil))) pa_nil)))) pss_nil) (pss_one (ps_ret (pv 3))))))), fun ds S0 S1 d h => ?_⟩, hm, F.kp, F.bindsN (fun _ _ _ _ _ _ us hl => match us, hl with | [_], _ => rfl), .nil⟩
  · obtain ⟨p, q, n, rfl, hq, hn, hL, rfl, rfl, rfl⟩ := h
    rfl
  · obtain ⟨p, q, n, rfl, hq, hn, hL, rfl, rfl, rfl⟩ := h
    have hC := shRes_polC q
    have hbs := shapes_small _ (base_mem q)
    have hq2 := shPen_ok hq
    have hm := many_bd q
    have bm : Bd 2 (shMany q) := ⟨by omega⟩
    obtain ⟨m, hmx⟩ : ∃ m, m ∈ (shRes q).map mxA ∧ ∀ y ∈ (shRes q).map mxA, y ≤ m := by
      cases e : (shRes q).map mxA with
      | nil =>
        have := congrArg List.length e
        rw [List.length_map, List.length_nil] at this
        have := hC.lo
        omega
      | cons a l => exact maxI a l
    have hlo := hC.lo; have hhi := hC.hi
    have e17 : shapesL.length = 17 := rfl
    have eB : pickD q (shapesL.map shD) = .lst ((shBase q).map v2) := pick_sh (by decide)
    refine sdo_pen (sd_seq (δ1 := [some (.fn p), some (.lst ((shBase q).map v2)), none, none, none, none]) (S1 := pS p (drawP q 17)) (sds_asg (evs_is (evs_pen (EvA.s (ea_cons (ev_var rfl) (ea_cons (ev_call ea_nil (ri_law_shapes (u := ()))) ea_nil))) ⟨p, q, shapesL.map shD, n, rfl, by decide, by decide, hq, by omega, rfl, rfl, rfl⟩) eB)) (sd_seq (δ1 := [some (.fn p), some (.lst ((shBase q).map v2)), some (.int (shMany q)), none, none, none]) (S1 := pS p (shPen q)) (sds_asg (evs_op (EvD.s ev_int) (evs_pen (EvA.s (ea_cons (ev_var rfl) (ea_cons ev_int ea_nil))) ⟨p, drawP q 17, 3, n + 1, rfl, by decide, by decide, hq.draw, by omega, rfl, rfl, rfl⟩) od_add)) (sd_seq (δ1 := [some (.fn p), some (.lst ((shBase q).map v2)), some (.int (shMany q)), some (.lst ((shRes q).map v2)), none, none]) (S1 := pS p (tabP (shPen q))) (sds_asg (evs_call (eas_cons (evs_pen (EvA.s (ea_cons (ev_var rfl) (ea_cons ev_int ea_nil))) ⟨p, shPen q, n + 2, rfl, hq2, by omega, rfl, rfl, rfl⟩) (eas_cons (EvD.s (lst_is (ev_lc (it_list (ev_var rfl)) (lc_mapD (it := v2) (f := fun v : Ve => v2 (shMany q * v.1, shMany q * v.2)) (fun v => [some (.fn p), some (.lst ((shBase q).map v2)), some (.int (shMany q)), none, some (.int v.1), some (.int v.2)]) (fun v => gd_tup (gds_cons gd_name (gds_cons gd_name gds_nil))) (by decide) (fun v hv => by
      have k := hbs.2 v hv
      have b1 : Bd 3 v.1 := bdN k.1
      have b2 : Bd 3 v.2 := bdN k.2
      exact (ev_tup (ea_cons (ev_mulB (ev_var rfl) (ev_var rfl)) (ea_cons (ev_mulB (ev_var rfl) (ev_var rfl)) ea_nil))))) (by rw [List.length_map]; omega)) (by unfold scaleL; rw [List.map_map]; rfl : (shBase q).map (fun v : Ve => v2 (shMany q * v.1, shMany q * v.2)) = (scaleL (shMany q) (shBase q)).map v2))) eas_nil)) (ri_law_mapped (tabT_s _).bd (fun v hv => ⟨bdN (Nat.le_trans (scale_small v hv).1 (by decide : 12 ≤ 1000)), bdN (Nat.le_trans (scale_small v hv).2 (by decide : 12 ≤ 1000))⟩) (fun z => by have := congrArg List.length z; rw [scale_len, List.length_nil] at this; omega) (by rw [scale_len]; omega)))) ?_)))
    have hq6 := tabP_ok hq2
    have eT : (decide (m > 60) || decide (lwMod (shRes q) > 4096)) = shBad q := by unfold shBad; rw [wide_eq hmx]
    by_cases hb : shBad q = true
    · have eV : shapeV q = fromLeast ((shapesL.take 3).getD (drawN (tabP (shPen q)) 3) []) := by unfold shapeV; rw [if_pos hb]
      have eP : shapeP q = drawP (tabP (shPen q)) 3 := by unfold shapeP; rw [if_pos hb]
      rw [eV, eP]
      have hlt := drawN_lt (q := tabP (shPen q)) (n := 3) (by decide)
      have hmem : (shapesL.take 3).getD (drawN (tabP (shPen q)) 3) [] ∈ shapesL := List.mem_of_mem_take (getD_mem (show drawN (tabP (shPen q)) 3 < (shapesL.take 3).length from hlt))
      obtain ⟨v, r, e⟩ : ∃ v r, (shapesL.take 3).getD (drawN (tabP (shPen q)) 3) [] = v :: r := by
        have := (shapes_small _ hmem).1.1
        cases e : (shapesL.take 3).getD (drawN (tabP (shPen q)) 3) [] with
        | nil => rw [e] at this; exact absurd this (by decide)
        | cons v r => exact ⟨v, r, rfl⟩
      have hr6 := (shapes_small _ hmem).1.2
      rw [e, List.length_cons] at hr6
      have e3 : pickD (tabP (shPen q)) ((shapesL.take 3).map shD) = .lst ((v :: r).map v2) := by
        rw [pick_sh (by decide)]
        exact congrArg shD e
      rw [e]
      exact sd_seqS (sd_ifT (et_is (et_or (et_test (ev_cmp (ev_cb (ea_cons (lst_is (ev_lc (it_list (ev_var rfl)) (lc_mapD (it := v2) (f := fun v : Ve => .int (mxA v)) (fun v => [some (.fn p), some (.lst ((shBase q).map v2)), some (.int (shMany q)), some (.lst ((shRes q).map v2)), some (.int v.1), some (.int v.2)]) (fun v => gd_tup (gds_cons gd_name (gds_cons gd_name gds_nil))) (by decide) (fun v hv => ev_cb (ea_cons (ev_cb (ea_cons (ev_var rfl) ea_nil) cd_abs) (ea_cons (ev_cb (ea_cons (ev_var rfl) ea_nil) cd_abs) ea_nil)) cd_max2)) (by rw [List.length_map]; omega)) (by rw [List.map_map]; rfl : (shRes q).map (fun v : Ve => Da.int (mxA v)) = ((shRes q).map mxA).map Da.int)) ea_nil) (cd_max hmx)) ev_int)) (fun _ => et_test (ev_cmp (ev_call (ea_cons (ev_var rfl) ea_nil) (ri_law_modulus hC hL)) ev_int))) (eT.trans hb)) (sds_ret (evs_call (eas_cons (evs_is (evs_pen (EvA.s (ea_cons (ev_var rfl) (ea_cons (lst_is (ev_slL (ev_call ea_nil (ri_law_shapes (u := ()))) eo_none (eo_some ev_int)) (rfl : cutD (shapesL.map shD) none (some 3) = (shapesL.take 3).map shD)) ea_nil))) ⟨p, tabP (shPen q), (shapesL.take 3).map shD, n + 2 + 6, rfl, by decide, by decide, hq6, by omega, rfl, rfl, rfl⟩) e3) eas_nil) (ri_law_from_least (by omega)))))
    · have eV : shapeV q = shRes q := by unfold shapeV; rw [if_neg hb]
      have eP : shapeP q = tabP (shPen q) := by unfold shapeP; rw [if_neg hb]
      rw [eV, eP]
      exact sd_seq (sd_ifF (et_is (et_or (et_test (ev_cmp (ev_cb (ea_cons (lst_is (ev_lc (it_list (ev_var rfl)) (lc_mapD (it := v2) (f := fun v : Ve => .int (mxA v)) (fun v => [some (.fn p), some (.lst ((shBase q).map v2)), some (.int (shMany q)), some (.lst ((shRes q).map v2)), some (.int v.1), some (.int v.2)]) (fun v => gd_tup (gds_cons gd_name (gds_cons gd_name gds_nil))) (by decide) (fun v hv => ev_cb (ea_cons (ev_cb (ea_cons (ev_var rfl) ea_nil) cd_abs) (ea_cons (ev_cb (ea_cons (ev_var rfl) ea_nil) cd_abs) ea_nil)) cd_max2)) (by rw [List.length_map]; omega)) (by rw [List.map_map]; rfl : (shRes q).map (fun v : Ve => Da.int (mxA v)) = ((shRes q).map mxA).map Da.int)) ea_nil) (cd_max hmx)) ev_int)) (fun _ => et_test (ev_cmp (ev_call (ea_cons (ev_var rfl) ea_nil) (ri_law_modulus hC hL)) ev_int))) (eT.trans (Bool.eq_false_iff.mpr hb))) sd_next) (sd_retS (ev_var rfl))
abbrev s_law_dead_end : Stmt := top 89
theorem sc_law_dead_end : FnScope ["_law_pen_here", "_law_corners", "_law_many", "_law_k", "_law_d", "_law_a", "_law_b"] ["_law_pen_here", "_law_corners", "_law_many"] (defScope s_law_dead_end) := ⟨rfl, rfl, rfl, by decide +kernel, rfl, by decide +kernel, by decide +kernel⟩
def R_law_dead_end (ds : List Da) (S0 S1 : Os) (d : Da) : Prop := ∃ (p : Addr) (q : Pen) (n : Nat) (vs : List Ve) (m : Int), ds = [.fn p, .lst (vs.map v2), .int m] ∧ PenOk n q ∧ n ≤ 800000 ∧ PolB vs ∧ Bd 130 m ∧ S0 = pS p q ∧ S1 = pS p (deadP q vs) ∧ d = p3 (deadV q vs m)
theorem ok_law_dead_end {f : Addr} {fd : FuncData}  (F : FnP K "_law_dead_end" "_law_dead_end" s_law_dead_end f fd) (hm : mg "_law_dead_end" = some (.ref f)) (fr_len : mg "len" = none) (c__law_draw : C8.Cal P w K mg base 1 "_law_draw" (PrmS T R_law_draw) []) (c__law_pick : C8.Cal P w K mg base 2 "_law_pick" (PrmS T R_law_pick) []) (c__law_point_form : C8.Cal P w K mg base 2 "_law_point_form" (Prm T R_law_point_form) [])  : C8.Cal P w K mg base 3 "_law_dead_end" (PrmS T R_law_dead_end) [] := by
  refine ⟨f, fd, _, [], fn_own F sc_law_dead_end (fun ds S0 S1 d h => ?_) fun cdv A outer s H E hr => ⟨_, (pss_cons (ps_par (i := 3) (j := 4) (by rfl) sc_law_dead_end.nd rfl rfl (by decide) rfl rfl (pa_cons (C8.pe_c c__law_draw hr (by decide) rfl (pa_cons (pv 0) (pa_cons (pe_callB call_len_seq (by rfl) fr_len PySem.boot_len (pa_cons (pv 1) pa_nil)) pa_nil))) (pa_cons (C8.pe_c c__law_pick hr (by decide) rfl (pa_cons (pv 0) (pa_cons (pe_lst (pa_cons pe_int (pa_cons pe_int (pa_cons pe_int (pa_cons pe_int (pa_cons pe_int pa_nil)))))) pa_nil))) pa_nil)) (by rfl)) (pss_cons (ps_par (i := 5) (j := 6) (by rfl) sc_law_dead_end.nd rfl rfl (by decide) rfl rfl (pa_cons (pe_ix ix_list (pv 1) (pv 3) (fun _ _ => rfl)) (pa_cons (pe_ix ix_list (pv 1) (pe_op op_mod (pe_op op_add (pv 3) pe_int) (pe_callB call_len_seq (by rfl) fr_len PySem.boot_len (pa_cons (pv 1) pa_nil))) (fun _ _ => rfl)) pa_nil)) (by rfl)) (pss_one (ps_ret (C8.pe_c c__law_point_form hr (by decide) rfl (pa_cons (pe_op op_add (pe_op op_mulW (pe_ix ix_tup (pv 5) pe_int (fun _ _ => rfl)) (pv 4)) (pe_op op_mulW (pv 2) (pe_op op_sub (pe_ix ix_tup (pv 5) pe_int (fun _ _ => rfl)) (pe_ix ix_tup (pv 6) pe_int (fun _ _ => rfl))))) (pa_cons (pe_op op_add (pe_op op_mulW (pe_ix ix_tup (pv 5) pe_int (fun _ _ => rfl)) (pv 4)) (pe_op op_mulW (pv 2) (pe_op op_sub (pe_ix ix_tup (pv 5) pe_int (fun _ _ => rfl)) (pe_ix ix_tup (pv 6) pe_int (fun _ _ => rfl))))) (pa_cons (pv 4) pa_nil)))))))), fun ds S0 S1 d h => ?_⟩, hm, F.kp, F.bindsN (fun _ _ _ _ _ _ us hl => match us, hl with | [_, _, _], _ => rfl), .nil⟩
  · obtain ⟨p, q, n, vs, m, rfl, hq, hn, hB, bm, rfl, rfl, rfl⟩ := h
    rfl
  · obtain ⟨p, q, n, vs, m, rfl, hq, hn, hB, bm, rfl, rfl, rfl⟩ := h
    have hl := hB.lo
    have hh := hB.hi
    have hlt := drawN_lt (q := q) (n := vs.length) (by omega)
    have hlen : (0 : Int) < ((vs.map v2).length : Nat) := by rw [List.length_map]; omega
    have hd := dens_ok (drawP q vs.length)
    have bd : Bd 4 (denD (drawP q vs.length)) := ⟨by omega⟩
    have k1 := hB.b1 (drawN q vs.length : Nat); have k2 := hB.b2 (drawN q vs.length : Nat); have k3 := hB.b1 ((drawN q vs.length : Nat) + 1); have k4 := hB.b2 ((drawN q vs.length : Nat) + 1)
    refine sdo_pen (sd_seq (sds_par (eas_cons (evs_is (evs_pen (EvA.s (ea_cons (ev_var rfl) (ea_cons (ev_cb (ea_cons (ev_var rfl) ea_nil) cd_lenL) ea_nil))) ⟨p, q, (((vs.map v2).length : Nat) : Int), n, rfl, by rw [List.length_map]; omega, by rw [List.length_map]; omega, hq, by omega, rfl, rfl, rfl⟩) (by rw [List.length_map, drawN_eq (by omega)])) (eas_cons (evs_is (y := .int (denD (drawP q (vs.length : Nat)))) (evs_pen (EvA.s (ea_cons (ev_var rfl) (ea_cons (ev_lst (ea_cons ev_int (ea_cons ev_int (ea_cons ev_int (ea_cons ev_int (ea_cons ev_int ea_nil)))))) ea_nil))) ⟨p, _, densD, n + 1, rfl, by decide, by decide, hq.draw, by omega, rfl, rfl, rfl⟩) (by rw [List.length_map]; exact dens_pick _)) eas_nil))) ?_)
    rw [List.length_map]
    exact sd_seq (sd_par (ea_cons (ev_ixL (ev_var rfl) (ev_var rfl) (idxN hlt)) (ea_cons (ev_ixL (ev_var rfl) (ev_mod (ev_add (ev_var rfl) ev_int) (ev_cb (ea_cons (ev_var rfl) ea_nil) cd_lenL) hlen) (hB.atI _)) ea_nil))) (sd_retS (ev_call (ea_cons (ev_add (ev_mulB (ev_ixT (ev_var rfl) ev_int rfl) (ev_var rfl)) (ev_mulB (ev_var rfl) (ev_sub (ev_ixT (ev_var rfl) ev_int rfl) (ev_ixT (ev_var rfl) ev_int rfl)))) (ea_cons (ev_add (ev_mulB (ev_ixT (ev_var rfl) ev_int rfl) (ev_var rfl)) (ev_mulB (ev_var rfl) (ev_sub (ev_ixT (ev_var rfl) ev_int rfl) (ev_ixT (ev_var rfl) ev_int rfl)))) (ea_cons (ev_var rfl) ea_nil))) (ri_law_point_form (by omega) (by omega))))
end
end O26
set_option Elab.async false
set_option linter.all false
set_option maxRecDepth 100000
set_option maxHeartbeats 4000000
namespace O26
open PySem PySem.Spec PyProof.Rows L2
/-- a polygon that passes all its checks -/
structure PolF (vs : List Ve) : Prop where
  b : PolB vs
  f : FarOk vs
  m : modU vs ≤ 4096
section
variable {P : Program} {w : World} {K : PySem.W.Frag} {mg : Str → Option Value} {base : Heap} {T : Tb}
abbrev s_period_of : Stmt := top 53
theorem sc_period_of : FnScope ["polygon", "point"] ["polygon", "point"] (defScope s_period_of) := ⟨rfl, rfl, rfl, by decide +kernel, rfl, by decide +kernel, by decide +kernel⟩
def R_period_of (C_Polygon : Addr) (ds : List Da) (d : Da) : Prop := ∃ (vs : List Ve) (q : Pt) (segs : List Sgm) (tl : Tl), ds = [poly C_Polygon vs, p3 q] ∧ PolF vs ∧ PtOk q ∧ OutS vs q ∧ OrbO vs 1 q none segs tl ∧ d = .non
theorem ri_period_of {C_Polygon : Addr} {vs : List Ve} {q : Pt} {segs : List Sgm} {tl : Tl} (h0 : PolF vs) (h1 : PtOk q) (h2 : OutS vs q) (h3 : OrbO vs 1 q none segs tl) : (R_period_of C_Polygon) [poly C_Polygon vs, p3 q] (.non) := ⟨vs, q, segs, tl, rfl, h0, h1, h2, h3, rfl⟩
theorem ok_period_of {f : Addr} {fd : FuncData} {C_Polygon : Addr} {C_Segment : Addr} {C_Orbit : Addr} (F : FnP K "period_of" "period_of" s_period_of f fd) (hm : mg "period_of" = some (.ref f)) (c_require_outside : C8.Cal P w K mg base 6 "require_outside" (Prm T (R_require_outside C_Polygon)) []) (c_require_modulus : C8.Cal P w K mg base 10 "require_modulus" (Prm T (R_require_modulus C_Polygon)) []) (c_period_from : C8.Cal P w K mg base 10 "period_from" (Prm T (R_period_from C_Polygon C_Segment C_Orbit)) [])  : C8.Cal P w K mg base 11 "period_of" (Prm T (R_period_of C_Polygon)) [] := by
  refine ⟨⟨f, fd, _, [], fn_pure F sc_period_of (fun ds d h => ?_) fun cdv A outer s H E hr => ⟨_, (pss_cons (ps_expr (C8.pe_c c_require_outside hr (by decide) rfl (pa_cons (pv 0) (pa_cons (pv 1) pa_nil)))) (pss_cons (ps_expr (C8.pe_c c_require_modulus hr (by decide) rfl (pa_cons (pv 0) pa_nil))) (pss_one (ps_ret (C8.pe_c c_period_from hr (by decide) rfl (pa_cons (pv 0) (pa_cons (pv 1) pa_nil))))))), fun ds d h => ?_⟩, hm, F.kp, F.bindsN (fun _ _ _ _ _ _ us hl => match us, hl with | [_, _], _ => rfl), .nil⟩⟩
  · obtain ⟨vs, q, segs, tl, rfl, hP, hq, hS, hO, rfl⟩ := h
    rfl
  · obtain ⟨vs, q, segs, tl, rfl, hP, hq, hS, hO, rfl⟩ := h
    exact .ret (sd_seq (sd_drop (ev_call (ea_cons (ev_var rfl) (ea_cons (ev_var rfl) ea_nil)) (ri_require_outside hP.b hq hS))) (sd_seq (sd_drop (ev_call (ea_cons (ev_var rfl) ea_nil) (ri_require_modulus hP.b hP.f hP.m))) (sd_ret (ev_call (ea_cons (ev_var rfl) (ea_cons (ev_var rfl) ea_nil)) (ri_period_from hP.b hq.s hO)))))
abbrev s_dead_ends : Stmt := top 55
theorem sc_dead_ends : FnScope ["polygon", "point"] ["polygon", "point"] (defScope s_dead_ends) := ⟨rfl, rfl, rfl, by decide +kernel, rfl, by decide +kernel, by decide +kernel⟩
def R_dead_ends (C_Polygon : Addr) (ds : List Da) (d : Da) : Prop := ∃ (vs : List Ve) (q : Pt) (segs segs2 : List Sgm) (tl tl2 : Tl) (a b : IP), ds = [poly C_Polygon vs, p3 q] ∧ PolF vs ∧ PtOk q ∧ OutS vs q ∧ OrbO vs 1 q none segs tl ∧ OrbO vs (-1) q none segs2 tl2 ∧ tl.getLast? = some a ∧ tl2.getLast? = some b ∧ d = i2 b.1 a.1
theorem ri_dead_ends {C_Polygon : Addr} {vs : List Ve} {q : Pt} {segs segs2 : List Sgm} {tl tl2 : Tl} {a b : IP} (h0 : PolF vs) (h1 : PtOk q) (h2 : OutS vs q) (h3 : OrbO vs 1 q none segs tl) (h4 : OrbO vs (-1) q none segs2 tl2) (h5 : tl.getLast? = some a) (h6 : tl2.getLast? = some b) : (R_dead_ends C_Polygon) [poly C_Polygon vs, p3 q] (i2 b.1 a.1) := ⟨vs, q, segs, segs2, tl, tl2, a, b, rfl, h0, h1, h2, h3, h4, h5, h6, rfl⟩
theorem ok_dead_ends {f : Addr} {fd : FuncData} {C_Polygon : Addr} {C_Segment : Addr} {C_Orbit : Addr} (F : FnP K "dead_ends" "dead_ends" s_dead_ends f fd) (hm : mg "dead_ends" = some (.ref f)) (c_require_outside : C8.Cal P w K mg base 6 "require_outside" (Prm T (R_require_outside C_Polygon)) []) (c_require_modulus : C8.Cal P w K mg base 10 "require_modulus" (Prm T (R_require_modulus C_Polygon)) []) (c_end_steps : C8.Cal P w K mg base 10 "end_steps" (Prm T (R_end_steps C_Polygon C_Segment C_Orbit)) [])  : C8.Cal P w K mg base 11 "dead_ends" (Prm T (R_dead_ends C_Polygon)) [] := by
  refine ⟨⟨f, fd, _, [], fn_pure F sc_dead_ends (fun ds d h => ?_) fun cdv A outer s H E hr => ⟨_, (pss_cons (ps_expr (C8.pe_c c_require_outside hr (by decide) rfl (pa_cons (pv 0) (pa_cons (pv 1) pa_nil)))) (pss_cons (ps_expr (C8.pe_c c_require_modulus hr (by decide) rfl (pa_cons (pv 0) pa_nil))) (pss_one (ps_ret (C8.pe_c c_end_steps hr (by decide) rfl (pa_cons (pv 0) (pa_cons (pv 1) pa_nil))))))), fun ds d h => ?_⟩, hm, F.kp, F.bindsN (fun _ _ _ _ _ _ us hl => match us, hl with | [_, _], _ => rfl), .nil⟩⟩
  · obtain ⟨vs, q, segs, segs2, tl, tl2, a, b, rfl, hP, hq, hS, hO, hO2, ha, hb, rfl⟩ := h
    rfl
  · obtain ⟨vs, q, segs, segs2, tl, tl2, a, b, rfl, hP, hq, hS, hO, hO2, ha, hb, rfl⟩ := h
    exact .ret (sd_seq (sd_drop (ev_call (ea_cons (ev_var rfl) (ea_cons (ev_var rfl) ea_nil)) (ri_require_outside hP.b hq hS))) (sd_seq (sd_drop (ev_call (ea_cons (ev_var rfl) ea_nil) (ri_require_modulus hP.b hP.f hP.m))) (sd_ret (ev_call (ea_cons (ev_var rfl) (ea_cons (ev_var rfl) ea_nil)) (ri_end_steps hP.b hq.s hO hO2 ha hb)))))
end
end O26
set_option Elab.async false
set_option linter.all false
set_option maxRecDepth 100000
set_option maxHeartbeats 4000000
namespace PySem
namespace UndX
open PySem.W PySem.Calls PyProof.Rows PySem.HandSPX
open Builtin Builtin.ObjectAttr
abbrev reTail : List Value := [.type "RuntimeError", .type "Exception", .type "BaseException", .type "object"]
/-! ### the text of __init__ -/
def iA (p1 p2 : Pos) : Arguments := { posonlyargs := [], args := [{ arg := "self", annotation := none, pos := p1 }, { arg := "steps", annotation := none, pos := p2 }], vararg := none, kwonlyargs := [], kw_defaults := [], kwarg := none, defaults := [] }
def iB (q1 q2 q3 q4 : Pos) : List Stmt := [.Assign [.Attribute (.Name "self" q1) "steps" q2] (.Name "steps" q3) q4]
def iS : Scope := { kind := .function, names := [(PySem.Str.ofString "self", .local), (PySem.Str.ofString "steps", .local)], isGenerator := false, isCoroutine := false, more := [] }
/-- what the written part says of Undefined, at C, and of its __init__, at fI -/
structure UndTxt (K : Frag) (mg : Str → Option Value) (C fI : Addr) : Prop where
  gC : mg "Undefined" = some (.ref C)
  cls : ∃ nm q N bs bm sn sub ab col dd k0 k1 k2 k3 k5, K.lookup C = some (excClassObj nm q C N bs bm true sn sub ab col dd k0 k1 k2 k3 k5 "RuntimeError.__new__") ∧ excTail reTail bm = true
  sa : findIn K (.ref C) "__setattr__" = some (some (.builtin "object.__setattr__"))
  ga : findIn K (.ref C) "__getattribute__" = some (some (.builtin "BaseException.__getattribute__"))
  gg : findIn K (.ref C) "__getattr__" = some none
  noN : findIn K (.ref C) "steps" = some none
  iC : findIn K (.ref C) "__init__" = some (some (.ref fI))
  tC : typeIn K (.ref fI) = some (.type "function")
  kC : keepIn K (.ref C) = true
  exC : subIn K (.ref C) (.type "BaseException") = some true
  tyC : typeIn K (.ref C) = some (.type "type")
  hdC : hasDictIn K C = true
  te : exmOne K (.ref C) (.ref C) = some true
  fn : ∃ (oc : Value) (od : Option Addr) (doc pm : Value) (an : Option Addr) (cdv ct : Value) (osl : Array (Option Value)) (p1 p2 q1 q2 q3 q4 : Pos),
    K.lookup fI = some ⟨oc, od, .func (fnOf "__init__" "Undefined.__init__" (iA p1 p2) (iB q1 q2 q3 q4) iS .none .none doc pm an cdv ct), osl⟩ ∧ codeIn K cdv "Undefined.__init__" = true
theorem one_size (v : Value) : [v].length ≤ sizeLine := by
  rw [sizeLine_eq]
  exact (by decide : 1 ≤ 16777216)
theorem kept_but {K : Frag} {h h' : Heap} {x : Addr} (X : K.In h) (hx : K.lookup x = none) (k : ∀ b o, b ≠ x → h.get? b = some o → h'.get? b = some o) : K.In h' := fun a o e =>
  k a o (fun z => by rw [z, hx] at e; cases e) (X a o e)
theorem ldC {M : Model} {s : Shared} {name : Str} {scope : Scope} {L a : Addr} {cd : Value} {m : Str → Option Value} {x : Str} {pos : Pos} {v : Value} {Q : Value → Shared → Prop} {A : Around} {E : Value → Shared → Prop} (hn : s.heap.Ns L m) (hv : m x = some v) (h : Q v s)
    (hk : scope.kind = .function := by rfl) (hl : (envOfC name scope L a cd).kindOf x = some .local := by rfl) (hd : (x == ("__debug__" : Str)) = false := by decide) :
    wpAny M A (eval (.Name x pos) (envOfC name scope L a cd)) Q E s := wpAny_Name (wpAny_loadName_local hk hl hn hv h) hd
/-- what __init__ leaves of a fresh exception at x -/
structure InitEnd (h h' : Heap) (x C dx t1 : Addr) (v : Value) : Prop where
  keep : ∀ b o, b ≠ x → h.get? b = some o → h'.get? b = some o
  obj : h'.get? x = some { cls := .ref C, dict := some dx, data := .fields #[.ref t1, .none, .none, .none, .bool false, .none] }
  dbig : h.objs.size ≤ dx
  dne : dx ≠ x
  ns : h'.Ns1 dx (fun y => if y = "steps" then some v else none)
/-- a made Undefined -/
structure OwnMade (h h' : Heap) (e C d : Addr) (v : Value) : Prop where
  keep : ∀ b o, h.get? b = some o → h'.get? b = some o
  new : h.objs.size ≤ e
  obj : ∃ oe vs, h'.get? e = some oe ∧ oe.cls = .ref C ∧ oe.dict = some d ∧ oe.data = .fields vs ∧ vs[1]? = some .none
  dbig : h.objs.size ≤ d
  dne : d ≠ e
  ns : h'.Ns1 d (fun y => if y = "steps" then some v else none)
section
variable {prog : Program} {w : World} {A : Around} {E : Value → Shared → Prop} {R : Result → Shared → Prop} {s : Shared} {K : Frag} {mg : Str → Option Value} {C fI : Addr}
theorem und_osa {hp : Heap} {g : Array GenState} {dw : Drawn} {t : Nat} {os : OsState} {nm : Str} {tk : Tok} {u : Value} {x : Addr} {fv : Array Value} {cd : ClassData} (XK : K.In hp) (hx : hp.get? x = some { cls := .ref C, data := .fields fv }) (hcd : clsIn K C = some cd) (ho : excOver K C reTail = true) (hh : cd.hasDict = true) (ha : findIn K (.ref C) nm = some none)
    (hq : ∀ h' tk' dx, (∀ b o, b ≠ x → hp.get? b = some o → h'.get? b = some o) → hp.objs.size ≤ dx → dx ≠ x → h'.get? x = some { cls := .ref C, dict := some dx, data := .fields fv } → h'.Ns1 dx (fun y => if y = nm then some u else none) → R (.ok (.ret .none)) ⟨h', g, dw, tk', os⟩) :
    codeAny (model prog w) A (.call (.builtin "object.__setattr__") ⟨[.ref x, .str nm tk, u], []⟩) R ⟨hp, g, dw, t, os⟩ := by
  have hne : x ≠ hp.objs.size := Nat.ne_of_lt (Heap.lt_size hx)
  have hL : Looks (model prog w) hp (classData C) cd := looks_clsIn XK hcd
  refine osa_openX (s := ⟨hp, g, dw, t, os⟩) F.store_RuntimeError XK (od := none) ⟨hx, rfl, rfl, trivial⟩ ho (L2.NoAttr.taker ha) fun b => ?_
  show wpAny _ _ (storeInOwnDict (.ref x) (.ref C) (.str nm tk) nm u b) _ _ _
  obtain ⟨nm0, bs0, mro0, ns0, qn0, hd0, sn0, sb0, ab0, col0, del0⟩ := cd
  dsimp only at hh
  subst hh
  unfold Builtin.ObjectAttr.storeInOwnDict Builtin.ObjectAttr.ownDictForStores
  repeat (first | (with_reducible refine store_in_new ?_ ?_) | (with_reducible refine wpAny_loadPart_at hx ?_) | (with_reducible refine hL.at ?_) | wp_step)
  · exact ⟨_, #[], _, (Heap.get?_update_ne _ _ _ _ hne.symm).trans (Heap.get?_push_at rfl rfl), rfl, fun en hen => absurd hen (by simp), fun _ => rfl⟩
  · intro h2 tk2 hn2 hs2
    have hx2 : (hp.push { cls := .type "dict", data := .dict #[] }).get? x = some { cls := .ref C, data := .fields fv } := Heap.get?_push_of_some _ hx
    exact hq h2 tk2 hp.objs.size (fun b o hb e => (hs2.2 b (Nat.ne_of_lt (Heap.lt_size e))).trans ((Heap.get?_update_ne _ _ _ _ hb).trans (Heap.get?_push_of_some _ e))) (Nat.le_refl _) hne.symm ((hs2.2 x hne).trans (Heap.get?_update_self _ hx2 rfl)) hn2
theorem und_init (T : UndTxt K mg C fI) {x t0 : Addr} {v : Value} (X : K.In s.heap) (hlim : s.heap.NoLimit) (hx : s.heap.get? x = some (excO C t0)) (hnx : K.lookup x = none) (hroom : A.depth < recursionLimit)
    (hq : ∀ h' tk dx, InitEnd s.heap h' x C dx t0 v → R (.ok (.ret .none)) { s with heap := h', toks := tk }) :
    codeAny (model prog w) A (.call (.ref fI) ⟨[.ref x, v], []⟩) R s := by
  obtain ⟨oc, od, doc, pm, an, cdv, ct, osl, p1, p2, q1, q2, q3, q4, ho, hcd⟩ := T.fn
  obtain ⟨nm, q, N, bs, bm, sn, sub, ab, col, dd, k0, k1, k2, k3, k5, hC, hbm⟩ := T.cls
  have hcl : clsIn K C = some { name := nm, bases := bs, mro := .ref C :: bm, ns := N, qualname := q, hasDict := true, slotNames := sn, subclasses := sub, abstract := ab, collection := col, hasDel := false } := by unfold clsIn; rw [hC] <;> rfl
  have hov : excOver K C reTail = true := by
    unfold excOver
    rw [hcl]
    show (C == C && excTail reTail bm) = true
    rw [hbm, beq_self_eq_true]
    rfl
  refine Att.call_fn (binds := [("self", .ref x), ("steps", v)]) X hlim ho hcd hroom (BindsTo.of_eq (by first | rfl | with_unfolding_all rfl)) (by first | rfl | decide | with_unfolding_all rfl) (fun s₁ IC => ?_) rfl rfl rfl
  obtain ⟨h₁, tk₁, rfl⟩ := IC.toInCall.same
  have k : ∀ b o, s.heap.get? b = some o → h₁.get? b = some o := IC.toInCall.keep
  have hn := IC.toInCall.ns
  have hxL : s.heap.objs.size ≠ x := Nat.ne_of_gt (Heap.lt_size hx)
  have X₁ : K.In h₁ := X.keeps k
  have hx₁ := k _ _ hx
  -- self.by = by
  show wpAny _ _ (execs _ _) _ _ _
  refine wpAny_execs_cons (plainObj_wpAny_Assign_Attribute ?_)
  refine ldC (v := v) hn (by first | rfl | with_unfolding_all rfl | kernel_rfl) (ldC (v := .ref x) hn (by first | rfl | with_unfolding_all rfl | kernel_rfl) ?_)
  refine set_plain X₁ (ox := excO C t0) (od := none) ⟨hx₁, rfl, rfl, trivial⟩ T.sa ?_
  refine und_osa X₁ hx₁ hcl hov rfl T.noN (fun h₃ tk₃ dx k₃ dn dne hx₃ hn₃ => ?_)
  show wpAny _ _ (execs _ _) _ _ _
  have z : s.heap.objs.size < h₁.objs.size := hn.lt
  exact wpAny_execs_nil (hq h₃ tk₃ dx ⟨fun b o hb e => k₃ b o hb (k b o e), hx₃, Nat.le_of_lt (Nat.lt_of_lt_of_le z dn), dne, hn₃⟩)
theorem und_made (T : UndTxt K mg C fI) {v : Value} (X : K.In s.heap) (hlim : s.heap.NoLimit) (hroom : A.depth + 1 < recursionLimit)
    (hq : ∀ h' tk e d, OwnMade s.heap h' e C d v → R (.ok (.ret (.ref e))) { s with heap := h', toks := tk }) :
    codeAny (model prog w) A (.call (.ref C) ⟨[v], []⟩) R s := by
  obtain ⟨nm, q, N, bs, bm, sn, sub, ab, col, dd, k0, k1, k2, k3, k5, hC, hbm⟩ := T.cls
  obtain ⟨hp, g, dr, tk, os⟩ := s
  have k : ∀ b o, hp.get? b = some o → ((hp.push (kdv_tup [v])).push (excO C hp.objs.size)).get? b = some o := fun b o e => Heap.get?_push_of_some _ (Heap.get?_push_of_some _ e)
  have hget : ((hp.push (kdv_tup [v])).push (excO C hp.objs.size)).get? (hp.objs.size + 1) = some (excO C hp.objs.size) := by heap_get
  have hnx : K.lookup (hp.objs.size + 1) = none := by
    cases e : K.lookup (hp.objs.size + 1) with
    | none => rfl
    | some o =>
      have z : hp.get? (hp.objs.size + 1) = some o := X _ _ e
      exact absurd (Nat.lt_of_succ_lt (Heap.lt_size z)) (Nat.lt_irrefl _)
  refine call_own F.excBase_RuntimeError (fun X => excTail_contains X bm hbm) (X _ _ hC) (looks_findIn X T.iC) (fun self => bind_fn X self T.tC) (one_size v) ?_
  refine und_init (s := ⟨(hp.push (kdv_tup [v])).push (excO C hp.objs.size), g, dr, tk, os⟩) T (X.keeps k) (hlim.keeps k) hget hnx ?_ fun h' tk' dx ⟨k', hx, dn, dne, hns⟩ => ?_
  · show A.depth + 1 < recursionLimit
    exact hroom
  · have old : ∀ b o, hp.get? b = some o → h'.get? b = some o := fun b o e => k' b o (Nat.ne_of_lt (Nat.lt_succ_of_lt (Heap.lt_size e))) (k b o e)
    have z : hp.objs.size + 1 + 1 ≤ dx := by
      first
        | (simpa only [Heap.size_push] using dn)
        | exact dn
        | (have q := dn; rw [Heap.size_push, Heap.size_push] at q; exact q)
    exact ⟨rfl, hq h' tk' (hp.objs.size + 1) dx ⟨old, Nat.le_succ _, ⟨_, _, hx, rfl, rfl, rfl, rfl⟩, Nat.le_trans (Nat.le_trans (Nat.le_succ _) (Nat.le_succ _)) z, dne, hns⟩⟩
end
end UndX
end PySem
namespace L2
open PySem PySem.Spec PyProof.Rows
theorem relO_und {v : V} {v' : Value} (r : RelV v v') (f : Str) : RelO (List.lookup f [(("steps" : Str), v)]) (if f = "steps" then some v' else none) := by
  by_cases hw : f = "steps"
  · subst hw
    rw [if_pos rfl]
    have q : List.lookup ("steps" : Str) [(("steps" : Str), v)] = some v := by simp [List.lookup]
    rw [q]
    exact r
  · rw [if_neg hw]
    have qw : (f == ("steps" : Str)) = false := by simpa using hw
    have q2 : List.lookup f [(("steps" : Str), v)] = none := by simp [List.lookup, qw]
    rw [q2]
    trivial
section
variable {X : Cx} {C fI : Addr}
/-- Undefined(e) -/
def tMkUnd (C : Addr) (ta : TA) : St → Hp → XK → Prop := fun σ H Q => ta σ H fun vs H1 => ∃ v, vs = [v] ∧ ∀ d, H1 d = none → Q (.ref C) (some d) (upd H1 d (.xd [(("steps" : Str), v)]))
theorem pmk_und {a : Expr} {ta : TA} {p pos : Pos} {k : Nat} (T : PySem.UndX.UndTxt X.K X.mg C fI) (hr : Room k X.A) (ha : PA X [a] ta) (hg : Gl X "Undefined" := by rfl)
    (he : starEach (a :: []) X.env = (false, eval a X.env) :: starEach [] X.env := by rfl) (hpl : (backTo pos (starEach [] X.env)).any (·.1) = false := by rfl) :
    PMk X (.Call (.Name "Undefined" p) [a] [] pos) (tMkUnd C ta) := by
  intro pins s σ H Q I h
  refine wpAny_Call_Name_kw (ld_glob I hg T.gC ?_)
  refine PySem.W.callWith_K (h₀ := X.base) I.ok.mod.kin T.kC (thn (ha.run pos pins s σ H _ I h) fun us s1 hh => ?_) he hpl
  obtain ⟨vs, H1, I1, r1, v, ev, q1⟩ := hh
  subst ev
  refine ⟨I1.kIn, ?_⟩
  cases r1 with
  | cons rv rn =>
    rename_i v' us'
    cases rn
    show wpAny _ _ (call (.ref C) [v']) _ _ _
    have hlim := I1.nolimit
    obtain ⟨hp, g, dr, tk, os⟩ := s1
    refine wpAny_call (PySem.UndX.und_made T I1.kIn hlim (by have := hr.dp; omega) fun h' tk' e d M => ?_)
    show MkP X pins σ Q (.ref e) ⟨h', g, dr, tk', os⟩
    obtain ⟨oe, fv, hoe, hc, hd, hdat, h1⟩ := M.obj
    have hns := M.ns
    obtain ⟨G', g1, g2⟩ := restrict h' fun b => decide (b ≠ e)
    have gk : ∀ b, b ≠ e → G'.get? b = h'.get? b := fun b hb => g1 b (decide_eq_true hb)
    have ge : G'.get? e = none := g2 e (by simp)
    have old : ∀ b o, hp.get? b = some o → G'.get? b = some o := fun b o q => (gk b (Nat.ne_of_lt (Nat.lt_of_lt_of_le (Heap.lt_size q) M.new))).trans (M.keep b o q)
    have ob : ObjOk X.prog X.w (upd H1 d (.xd [(("steps" : Str), v)])) G' d (.xd [(("steps" : Str), v)]) :=
      ⟨_, hns.at (fun o q => (gk d M.dne).trans q), fun f => relO_und rv f⟩
    have J : Inv X pins σ (upd H1 d (.xd [(("steps" : Str), v)])) ⟨G', g, dr, tk', os⟩ := I1.laid (t' := tk') old M.dbig ob
    refine ⟨e, oe, fv, ⟨G', g, dr, tk', os⟩, _, .ref C, some d, rfl, J, fun b o q => ?_, ge, hoe, ⟨hc, hd⟩, hdat, h1, ?_, rfl, I1.bare, raises_own T.exC T.tyC, q1 d (I1.hok.fresh M.dbig)⟩
    · by_cases hb : b = e
      · have q' : G'.get? b = some o := q
        rw [hb, ge] at q'; cases q'
      · exact (gk b hb).symm.trans q
    · rw [upd_ne (Ne.symm M.dne)]
      exact I1.hok.fresh M.new
/-- raise Undefined(e) -/
def tRaiseUnd (C : Addr) (W : WX) (ta : TA) : TS := fun _ σ H => tMkUnd C ta σ H fun cls d H' => W cls d σ H'
theorem ps_raiseUnd {a : Expr} {ta : TA} {W : WX} {p pos pos2 : Pos} {k : Nat} (hc : X.calm = true) (T : PySem.UndX.UndTxt X.K X.mg C fI) (hr : Room k X.A) (tk : Takes X W) (ha : PA X [a] ta) (hg : Gl X "Undefined" := by rfl)
    (he : starEach (a :: []) X.env = (false, eval a X.env) :: starEach [] X.env := by rfl) (hpl : (backTo pos (starEach [] X.env)).any (·.1) = false := by rfl) :
    PS X (.Raise (some (.Call (.Name "Undefined" p) [a] [] pos)) none pos2) (tRaiseUnd C W ta) := ps_raise hc tk (pmk_und T hr ha hg he hpl)
/-- e.steps, e the exception that the suite holds (at a; its class cls, its dict d) -/
def tStepsU (C : Addr) (a : Addr) (cls : Value) (d : Option Addr) (te : TE) : TE := fun σ H Q => te σ H fun x H1 => x = .ref a ∧ cls = .ref C ∧ ∃ (dd : Addr) (v : V), d = some dd ∧ H1 dd = some (.xd [(("steps" : Str), v)]) ∧ Q v H1
theorem pe_stepsU {a : Addr} {oe : Obj} {cls : Value} {d : Option Addr} {pn : List (Addr × Obj)} {e : Expr} {te : TE} {pos : Pos} (T : PySem.UndX.UndTxt X.K X.mg C fI) (hz : Zc cls d oe) (hf : ∃ vs, oe.data = .fields vs) (he : PE (X.suite a ((a, oe) :: pn)) e te)
    (hb : attributeBase e "steps" X.env (eval e X.env) = eval e X.env := by rfl) :
    PE (X.suite a ((a, oe) :: pn)) (.Attribute e "steps" pos) (tStepsU C a cls d te) := by
  refine ⟨fun pins s σ H Q I h => ?_⟩
  refine attr_of hb (thn (he.run pins s σ H _ I h) fun u s1 hh => ?_)
  obtain ⟨x, H1, I1, rx, ex, ec, dd, v, ed, ea, q⟩ := hh
  subst ex
  obtain rfl : u = Value.ref a := rx
  subst ec
  subst ed
  obtain ⟨ha, _⟩ := I1.pin (a, oe) (List.mem_append_left _ List.mem_cons_self)
  obtain ⟨vs, hd⟩ := hf
  have hx : ObjOk X.prog X.w H1 s1.heap dd (.xd [(("steps" : Str), v)]) := I1.hok dd _ ea
  obtain ⟨mA, hns, hr⟩ := hx
  obtain ⟨od, ho, hl⟩ := lookIn_ns hns
  have l : List.lookup ("steps" : Str) [(("steps" : Str), v)] = some v := by simp [List.lookup]
  obtain ⟨u, hu, ru⟩ := RelO.some_of (v := v) (o := mA "steps") (by rw [← l]; exact hr "steps")
  have J : PySem.W.InstAt s1.heap a oe C (some od) := ⟨ha, hz.1, by unfold PySem.W.notCls; rw [hd] <;> rfl, by rw [hz.2]; exact ho⟩
  exact HandSPX.exc_get I1.kIn J T.ga T.gg T.exC (PySem.W.findObj_own T.hdC T.noN rfl (by rw [hl, hu])) (handed_of ru) ⟨v, H1, I1.tok _, ru, q⟩
end
end L2
set_option Elab.async false
set_option linter.all false
set_option maxRecDepth 100000
set_option maxHeartbeats 4000000
namespace O26
open PySem PySem.Spec PyProof.Rows L2
/-! defs that may raise Undefined -/
section
variable (T : Tb) (C : Addr)
def PrmX (R : List Da → Da → Prop) (RX : List Da → Int → Prop) : Sp := fun vs H Q E => ∃ (F : Hp) (ds : List Da), Sg T [] F H ∧ DrL F vs ds ∧ ((∃ d, R ds d ∧ ∀ v F' H', Gr T [] F H F' H' → Dr F' v d → Q v H') ∨
  ∃ n, RX ds n ∧ ∀ dx F' H', Gr T [] F H F' H' → F' dx = some (.xd [(("steps" : Str), .int n)]) → E (.ref C) (some dx) H')
def SDx (E : XK) (t : TS) (δ : List (Option Da)) (n : Int) : Prop := ∀ (F H : Hp) (σ : L2.St) (D : Ends), Sg T [] F H → EnvR F σ δ → (∀ dx F' H', Gr T [] F H F' H' → F' dx = some (.xd [(("steps" : Str), .int n)]) → E (.ref C) (some dx) H') → t D σ H
end
/-- a def that may raise, callable by its name -/
structure XCal (P : Program) (w : World) (K : PySem.W.Frag) (mg : Str → Option Value) (base : Heap) (k : Nat) (x : Str) (sp : Sp) : Prop where
  ex : ∃ (f : Addr) (fd : FuncData) (ps : List Str), FnOk P w K mg base (L2.CX P w) k f fd ps sp ∧ mg x = some (.ref f) ∧ PySem.W.keepIn K (.ref f) = true ∧ L2.Binds K fd ps []
theorem pe_cx {X : Cx} {k j : Nat} {x : Str} {sp : Sp} {E : XK} {p pos : Pos} {e : Expr} {es : List Expr} {t : TA} (c : XCal X.prog X.w X.K X.mg X.base k x sp) (hr : Room j X.A) (hk : k ≤ j) (hg : Gl X x) (ha : PA X (e :: es) t) (hx : Passes (L2.CX X.prog X.w) X E)
    (hdb : (x == ("__debug__" : Str)) = false := by decide) (he : starEach (e :: es) X.env = (false, eval e X.env) :: starEach es X.env := by rfl) (hpl : (backTo pos (starEach es X.env)).any (·.1) = false := by rfl) :
    PE X (.Call (.Name x p) (e :: es) [] pos) (tCall sp [] E t) := by
  obtain ⟨f, fd, ps, F, hm, kp, b⟩ := c.ex
  exact pe_call F (hr.mono hk) hg hm kp b .nil hx ha hdb he hpl
section
variable {T : Tb} {S S1 : Os} {C : Addr} {E : XK} {K : PySem.W.Frag} {δ δ1 : List (Option Da)} {ta : TA} {tt : TT} {ts tu : TS} {n : Int} {ds : List Da} {d : Da} {R : List Da → Da → Prop} {RX : List Da → Int → Prop}
theorem ev_callX (h : EvA T S ta δ ds) (hR : R ds d) : EvD T S (tCall (PrmX T C R RX) [] E ta) δ d := fun F H σ Q s e q =>
  h F H σ _ s e fun vs F1 H1 g1 r1 => ⟨F1, ds, g1.sg.bare, by rw [List.append_nil]; exact r1, .inl ⟨d, hR, fun v F2 H2 g2 r2 => q v F2 H2 (g1.trans (g2.with g1.sg)) r2⟩⟩
theorem sdx_raise (h : EvA T [] ta δ [.int n]) : SDx T C E (tRaiseUnd C (fun cls d _ H => E cls d H) ta) δ n := fun F H σ D s e q =>
  h F H σ _ s e fun vs F1 H1 g1 r1 => by
    cases r1 with
    | cons a r =>
      cases a; cases r
      exact ⟨_, rfl, fun dx hx => q dx _ _ (g1.trans (Gr.new g1.sg hx nofun)) upd_same⟩
theorem sdx_seq (h : SD T [] ts δ (.nx δ1 S1)) (k : SDx T C E tu δ1 n) : SDx T C E (tSeq ts tu) δ n := fun F H σ D s e q =>
  h F H σ { D with nx := tu D } s e fun F1 H1 g1 σ1 e1 => k F1 H1 σ1 D g1.sg.bare e1 fun dx F2 H2 g2 hx => q dx F2 H2 ((g1.drop).gr.trans g2) hx
theorem sdx_seq1 (k : SDx T C E ts δ n) : SDx T C E (tSeq ts tu) δ n := fun F H σ D s e q => k F H σ { D with nx := tu D } s e q
theorem sdx_ifT (h : EvT T [] tt δ true) (k : SDx T C E ts δ n) : SDx T C E (tIfS tt ts tu) δ n := fun F H σ D s e q =>
  h F H σ _ s e fun F1 H1 g1 => iteT (k F1 H1 σ D g1.sg (e.mono g1.ff) fun dx F2 H2 g2 hx => q dx F2 H2 (g1.trans g2) hx)
theorem sdx_ret (h : EvA T [] ta δ ds) (hR : RX ds n) : SDx T C E (tRet (tCall (PrmX T C R RX) [] E ta)) δ n := fun F H σ D s e q =>
  h F H σ _ s e fun vs F1 H1 g1 r1 => ⟨F1, ds, g1.sg, by rw [List.append_nil]; exact r1, .inr ⟨n, hR, fun dx F2 H2 g2 hx => q dx F2 H2 (g1.trans g2) hx⟩⟩
end
theorem OrbR.tl2 {vs : List Ve} {dir : Int} {q : Pt} {lim : Option Int} {h : Pt} {n : Int} {segs : List Sgm} {tl : List (Int × Pt)} (o : OrbR vs dir q lim h n segs tl) : tl.length ≤ 2 := by
  induction o with
  | lim _ => exact Nat.zero_le _
  | fin0 _ _ _ => exact Nat.le_succ _
  | fin1 _ _ _ => exact Nat.le_refl _
  | seg _ _ _ _ _ _ _ _ _ ih => exact ih
section
variable {P : Program} {w : World} {K : PySem.W.Frag} {mg : Str → Option Value} {base : Heap} {T : Tb}
theorem fn_exc {x qual : Str} {params : Arguments} {body : List Stmt} {scope : Scope} {dvs : List V} {kws : List (Str × V)} {f : Addr} {fd : FuncData} {N ps : List Str} {k : Nat} {C : Addr} {R : List Da → Da → Prop} {RX : List Da → Int → Prop}
    (F : FunD K x qual params body scope dvs kws f fd) (S : FnScope N ps scope) (hl : ∀ ds d, R ds d → ds.length = ps.length) (hlx : ∀ ds n, RX ds n → ds.length = ps.length)
    (hb : ∀ (cdv : Value) (A : Around) (outer : List Env) (s : Shared) (H : Hp) (E : XK), Room k (A.deeper (envOfC qual scope s.heap.objs.size f cdv)) →
      ∃ t, PSs (cxOf (L2.CX P w) P w K mg base N qual scope f cdv A outer s H E) body t ∧ (∀ ds d, R ds d → SDf T t (startD N.length ds) d) ∧ ∀ ds n, RX ds n → SDx T C E t (startD N.length ds) n) : FnOk P w K mg base (L2.CX P w) (k + 1) f fd ps (PrmX T C R RX) :=
  F.ok S (fun vs H Q E ⟨F, ds, s, r, h⟩ => r.length.trans (by
    rcases h with ⟨d, hR, _⟩ | ⟨n, hR, _⟩
    · exact hl ds d hR
    · exact hlx ds n hR)) fun cdv A outer s H vs Q E hr ⟨F, ds, sg, r, h⟩ => by
    obtain ⟨t, ht, hs, hx⟩ := hb cdv A outer s H E hr
    refine ⟨t, ht, ?_⟩
    rcases h with ⟨d, hR, q⟩ | ⟨n, hR, q⟩
    · rcases hs ds d hR with h | ⟨δ', S', h, rfl⟩
      · exact h F H _ { nx := fun _ H' => Q .non H', rt := Q } sg (EnvR.start r) fun F' H' g v r => q v F' H' g.gr r
      · exact h F H _ { nx := fun _ H' => Q .non H', rt := Q } sg (EnvR.start r) fun F' H' g σ e => q .non F' H' g.gr .non
    · exact hx ds n hR F H _ { nx := fun _ H' => Q .non H', rt := Q } sg (EnvR.start r) fun dx F' H' g hx => q dx F' H' g hx
/-- an orbit to a bound, walked from q by n steps -/
structure WayO (vs : List Ve) (q : Pt) (n : Int) (segs : List Sgm) (tl : Tl) : Prop where
  b : PolB vs
  qs : PtS q
  o : OrbO vs (if n ≥ 0 then 1 else -1) q (some (iabs n)) segs tl
abbrev s_point_from : Stmt := top 50
theorem sc_point_from : FnScope ["polygon", "point", "steps", "orbit"] ["polygon", "point", "steps"] (defScope s_point_from) := ⟨rfl, rfl, rfl, by decide +kernel, rfl, by decide +kernel, by decide +kernel⟩
def R_point_from (C_Polygon : Addr) (C_Segment : Addr) (C_Orbit : Addr) (ds : List Da) (d : Da) : Prop := ∃ (vs : List Ve) (q : Pt) (n : Int) (segs : List Sgm) (tl : Tl) (k : Nat) (p : Pt), ds = [poly C_Polygon vs, p3 q, .int n] ∧ WayO vs q n segs tl ∧ (tl = [] ∨ ∃ a, tl.getLast? = some a ∧ iabs n ≤ a.1) ∧ AtK vs segs tl (iabs n) k p ∧ d = p3 p
def RX_point_from (C_Polygon : Addr) (C_Segment : Addr) (C_Orbit : Addr) (ds : List Da) (n : Int) : Prop := ∃ (vs : List Ve) (q : Pt) (m : Int) (segs : List Sgm) (tl : Tl) (a : IP), ds = [poly C_Polygon vs, p3 q, .int m] ∧ WayO vs q m segs tl ∧ tl.getLast? = some a ∧ a.1 < iabs m ∧ n = a.1
theorem ok_point_from {f : Addr} {fd : FuncData} {C_Polygon : Addr} {C_Segment : Addr} {C_Orbit : Addr} {C_Undefined fI : Addr} (U0 : PySem.UndX.UndTxt K mg C_Undefined fI) (F : FnP K "point_from" "point_from" s_point_from f fd) (hm : mg "point_from" = some (.ref f)) (fr_abs : mg "abs" = none) (k_Orbit : C8.Mak P w K mg base 8 "Orbit" C_Orbit (PrmI T C_Orbit (R_OrbitU_initU C_Polygon C_Segment C_Orbit)) []) (cl_Orbit : Cls K C_Orbit) (na_Orbit_cycle : NoAttr K C_Orbit "cycle") (m_Orbit_point_at : C8.Met P w K mg base 3 C_Orbit "point_at" (Prm T (R_Orbit_point_at C_Polygon C_Segment C_Orbit)) []) (na_Orbit_tail : NoAttr K C_Orbit "tail") (m_Orbit_last_step : C8.Met P w K mg base 1 C_Orbit "last_step" (Prm T (R_Orbit_last_step C_Polygon C_Segment C_Orbit)) [])  : XCal P w K mg base 10 "point_from" (PrmX T C_Undefined (R_point_from C_Polygon C_Segment C_Orbit) (RX_point_from C_Polygon C_Segment C_Orbit)) := by
  refine ⟨f, fd, _, fn_exc F sc_point_from (fun ds d h => ?_) (fun ds n h => ?_) fun cdv A outer s H E hr => ⟨_, (pss_cons (ps_set (i := 3) sc_point_from.nd rfl (Or.inl rfl) (C8.pe_mk k_Orbit hr (by decide) rfl (pa_cons (pv 0) (pa_cons (pv 1) (pa_cons (pe_ifExp (pt_cmpR op_ge (pv 2) pe_int (nomark _)) pe_int (pe_un un_neg pe_int)) (pa_cons (pe_callB call_abs (by rfl) fr_abs (by decide +kernel) (pa_cons (pv 2) pa_nil)) pa_nil)))))) (pss_cons (ps_if (pt_cmpR op_notN (pe_fld (pv 3) rfl) pe_non (nomark _)) (pss_one (ps_ret (C8.pe_mt m_Orbit_point_at hr (by decide) (pv 3) (pa_cons (pe_op op_mod (pe_callB call_abs (by rfl) fr_abs (by decide +kernel) (pa_cons (pv 2) pa_nil)) (pe_fld (pv 3) rfl)) pa_nil)))) pss_nil) (pss_cons (ps_if (PW.pt (pw_and (pt_cmpR (op_neD hr.units) (pe_fld (pv 3) rfl) (pe_lst pa_nil) (nomark _)) (pw_and1 (pt_cmpR op_gt (pe_callB call_abs (by rfl) fr_abs (by decide +kernel) (pa_cons (pv 2) pa_nil)) (C8.pe_mt0 m_Orbit_last_step hr (by decide) (pv 3)) (nomark _))))) (pss_one (ps_raiseUnd rfl U0 hr (takes_of rfl rfl rfl rfl) (pa_cons (C8.pe_mt0 m_Orbit_last_step hr (by decide) (pv 3)) pa_nil))) pss_nil) (pss_one (ps_ret (C8.pe_mt m_Orbit_point_at hr (by decide) (pv 3) (pa_cons (pe_callB call_abs (by rfl) fr_abs (by decide +kernel) (pa_cons (pv 2) pa_nil)) pa_nil))))))), fun ds d h => ?_, fun ds n h => ?_⟩, hm, F.kp, F.bindsN (fun _ _ _ _ _ _ us hl => match us, hl with | [_, _, _], _ => rfl)⟩
  · obtain ⟨vs, q, n, segs, tl, k, p, rfl, hW, hT, hA, rfl⟩ := h
    rfl
  · obtain ⟨vs, q, m, segs, tl, a, rfl, hW, hT, hlt, rfl⟩ := h
    rfl
  · obtain ⟨vs, q, n, segs, tl, k, p, rfl, hW, hT, hA, rfl⟩ := h
    have hpl : (Da.lst (tl.map tlD)).plain = true ∧ SeqAt.shaped (Da.lst (tl.map tlD)).py = true := tl_plain hW.o.o.tl2
    have bsg : Bd 2 (if n ≥ 0 then (1 : Int) else -1) := by split <;> exact ⟨by decide⟩
    refine .ret (sd_seq (sd_asg (ev_make (ea_cons (ev_var rfl) (ea_cons (ev_var rfl) (ea_cons (ev_sgn (et_test (ev_cmp (ev_var rfl) ev_int)) ev_int (ev_neg ev_int)) (ea_cons (ev_cb (ea_cons (ev_var rfl) ea_nil) cd_abs) ea_nil)))) (fun _ => .nil) ⟨vs, q, _, some (iabs n), segs, tl, rfl, hW.b, hW.qs, bsg, hW.o.o, hW.o.len, rfl⟩)) (sd_seq (sd_ifF (et_is (et_test (ev_notN (ev_fld (ev_var rfl) cl_Orbit na_Orbit_cycle rfl))) rfl) sd_next) (sd_seq (sd_ifF ?_ sd_next) (sd_ret (ev_meth (ev_var rfl) (ea_cons (ev_cb (ea_cons (ev_var rfl) ea_nil) cd_abs) ea_nil) (ri_Orbit_point_at hW.b hW.o.len (Nat.le_trans hW.o.o.tl2 (by decide)) hA))))))
    rcases hT with h0 | ⟨a, ha, hle⟩
    · subst h0
      exact et_is (et_and (a := false) (b := true) (et_test (ev_neD (ev_fld (ev_var rfl) cl_Orbit na_Orbit_tail rfl) (ev_lst ea_nil) hpl.1 rfl hpl.2 rfl)) (fun z => by cases z)) rfl
    · refine et_is (et_and (a := true) (b := false) (et_is (et_test (ev_neD (ev_fld (ev_var rfl) cl_Orbit na_Orbit_tail rfl) (ev_lst ea_nil) hpl.1 rfl hpl.2 rfl)) ?_) (fun _ => et_is (et_test (ev_cmp (ev_cb (ea_cons (ev_var rfl) ea_nil) cd_abs) (ev_meth (ev_var rfl) ea_nil (ri_Orbit_last_step ha)))) (decide_eq_false (by omega)))) rfl
      cases tl with
      | nil => cases ha
      | cons b l => rfl
  · obtain ⟨vs, q, m, segs, tl, a, rfl, hW, hT, hlt, rfl⟩ := h
    have hpl : (Da.lst (tl.map tlD)).plain = true ∧ SeqAt.shaped (Da.lst (tl.map tlD)).py = true := tl_plain hW.o.o.tl2
    have bsg : Bd 2 (if m ≥ 0 then (1 : Int) else -1) := by split <;> exact ⟨by decide⟩
    refine sdx_seq (sd_asg (ev_make (ea_cons (ev_var rfl) (ea_cons (ev_var rfl) (ea_cons (ev_sgn (et_test (ev_cmp (ev_var rfl) ev_int)) ev_int (ev_neg ev_int)) (ea_cons (ev_cb (ea_cons (ev_var rfl) ea_nil) cd_abs) ea_nil)))) (fun _ => .nil) ⟨vs, q, _, some (iabs m), segs, tl, rfl, hW.b, hW.qs, bsg, hW.o.o, hW.o.len, rfl⟩)) (sdx_seq (sd_ifF (et_is (et_test (ev_notN (ev_fld (ev_var rfl) cl_Orbit na_Orbit_cycle rfl))) rfl) sd_next) (sdx_seq1 (sdx_ifT ?_ (sdx_raise (ea_cons (ev_meth (ev_var rfl) ea_nil (ri_Orbit_last_step hT)) ea_nil)))))
    refine et_is (et_and (a := true) (b := true) (et_is (et_test (ev_neD (ev_fld (ev_var rfl) cl_Orbit na_Orbit_tail rfl) (ev_lst ea_nil) hpl.1 rfl hpl.2 rfl)) ?_) (fun _ => et_is (et_test (ev_cmp (ev_cb (ea_cons (ev_var rfl) ea_nil) cd_abs) (ev_meth (ev_var rfl) ea_nil (ri_Orbit_last_step hT)))) (decide_eq_true (by omega)))) rfl
    cases tl with
    | nil => cases hT
    | cons b l => rfl
abbrev s_point_after : Stmt := top 51
theorem sc_point_after : FnScope ["polygon", "point", "steps"] ["polygon", "point", "steps"] (defScope s_point_after) := ⟨rfl, rfl, rfl, by decide +kernel, rfl, by decide +kernel, by decide +kernel⟩
def R_point_after (C_Polygon : Addr) (C_Segment : Addr) (C_Orbit : Addr) (ds : List Da) (d : Da) : Prop := ∃ (vs : List Ve) (q : Pt) (n : Int) (p : Pt), ds = [poly C_Polygon vs, p3 q, .int n] ∧ PolF vs ∧ PtOk q ∧ OutS vs q ∧ iabs n ≤ 10000000000000000000000000000000000000000 ∧ R_point_from C_Polygon C_Segment C_Orbit [poly C_Polygon vs, p3 q, .int n] (p3 p) ∧ d = p3 p
def RX_point_after (C_Polygon : Addr) (C_Segment : Addr) (C_Orbit : Addr) (ds : List Da) (n : Int) : Prop := ∃ (vs : List Ve) (q : Pt) (m : Int) (r : Int), ds = [poly C_Polygon vs, p3 q, .int m] ∧ PolF vs ∧ PtOk q ∧ OutS vs q ∧ iabs m ≤ 10000000000000000000000000000000000000000 ∧ RX_point_from C_Polygon C_Segment C_Orbit [poly C_Polygon vs, p3 q, .int m] r ∧ n = r
theorem ok_point_after {f : Addr} {fd : FuncData} {C_Polygon : Addr} {C_Segment : Addr} {C_Orbit : Addr} {C_Undefined fI : Addr} (U0 : PySem.UndX.UndTxt K mg C_Undefined fI) (F : FnP K "point_after" "point_after" s_point_after f fd) (hm : mg "point_after" = some (.ref f)) (c_require_outside : C8.Cal P w K mg base 6 "require_outside" (Prm T (R_require_outside C_Polygon)) []) (cs_MAX_STEPS : ∃ u, mg "MAX_STEPS" = some u ∧ RelV (.int 10000000000000000000000000000000000000000) u) (c_require_steps : C8.Cal P w K mg base 3 "require_steps" (Prm T R_require_steps) []) (c_require_modulus : C8.Cal P w K mg base 10 "require_modulus" (Prm T (R_require_modulus C_Polygon)) []) (x_point_from : XCal P w K mg base 10 "point_from" (PrmX T C_Undefined (R_point_from C_Polygon C_Segment C_Orbit) (RX_point_from C_Polygon C_Segment C_Orbit)))  : XCal P w K mg base 11 "point_after" (PrmX T C_Undefined (R_point_after C_Polygon C_Segment C_Orbit) (RX_point_after C_Polygon C_Segment C_Orbit)) := by
  refine ⟨f, fd, _, fn_exc F sc_point_after (fun ds d h => ?_) (fun ds n h => ?_) fun cdv A outer s H E hr => ⟨_, (pss_cons (ps_expr (C8.pe_c c_require_outside hr (by decide) rfl (pa_cons (pv 0) (pa_cons (pv 1) pa_nil)))) (pss_cons (ps_expr (C8.pe_c c_require_steps hr (by decide) rfl (pa_cons (pv 2) (pa_cons (pe_un un_neg (C8.pe_gc rfl cs_MAX_STEPS)) pa_nil)))) (pss_cons (ps_expr (C8.pe_c c_require_modulus hr (by decide) rfl (pa_cons (pv 0) pa_nil))) (pss_one (ps_ret (pe_cx x_point_from hr (by decide) rfl (pa_cons (pv 0) (pa_cons (pv 1) (pa_cons (pv 2) pa_nil))) (passes_call (takes_of rfl rfl rfl rfl) fun _ _ _ _ h => h))))))), fun ds d h => ?_, fun ds n h => ?_⟩, hm, F.kp, F.bindsN (fun _ _ _ _ _ _ us hl => match us, hl with | [_, _, _], _ => rfl)⟩
  · obtain ⟨vs, q, n, p, rfl, hP, hq, hS, hn, hR, rfl⟩ := h
    rfl
  · obtain ⟨vs, q, m, r, rfl, hP, hq, hS, hn, hR, rfl⟩ := h
    rfl
  · obtain ⟨vs, q, n, p, rfl, hP, hq, hS, hn, hR, rfl⟩ := h
    have ha := iabs_eq n
    exact .ret (sd_seq (sd_drop (ev_call (ea_cons (ev_var rfl) (ea_cons (ev_var rfl) ea_nil)) (ri_require_outside hP.b hq hS))) (sd_seq (sd_drop (ev_call (ea_cons (ev_var rfl) (ea_cons (ev_neg ev_int) ea_nil)) (ri_require_steps (by omega) (by omega)))) (sd_seq (sd_drop (ev_call (ea_cons (ev_var rfl) ea_nil) (ri_require_modulus hP.b hP.f hP.m))) (sd_ret (ev_callX (ea_cons (ev_var rfl) (ea_cons (ev_var rfl) (ea_cons (ev_var rfl) ea_nil))) hR)))))
  · obtain ⟨vs, q, m, r, rfl, hP, hq, hS, hn, hR, rfl⟩ := h
    have ha := iabs_eq m
    exact sdx_seq (sd_drop (ev_call (ea_cons (ev_var rfl) (ea_cons (ev_var rfl) ea_nil)) (ri_require_outside hP.b hq hS))) (sdx_seq (sd_drop (ev_call (ea_cons (ev_var rfl) (ea_cons (ev_neg ev_int) ea_nil)) (ri_require_steps (by omega) (by omega)))) (sdx_seq (sd_drop (ev_call (ea_cons (ev_var rfl) ea_nil) (ri_require_modulus hP.b hP.f hP.m))) (sdx_ret (ea_cons (ev_var rfl) (ea_cons (ev_var rfl) (ea_cons (ev_var rfl) ea_nil))) hR)))
end
end O26
set_option Elab.async false
set_option linter.all false
set_option maxRecDepth 100000
set_option maxHeartbeats 4000000
namespace O26
open PySem PySem.Spec PyProof.Rows L2 LamX
/-- what isinstance(e, RuntimeError) asks of Undefined -/
structure UndC (K : PySem.W.Frag) (C : Addr) : Prop where
  cl : (PySem.W.clsIn K C).isSome = true
  ga : PySem.W.findIn K (.ref C) "__getattribute__" = some (some (.builtin "BaseException.__getattribute__"))
  gg : PySem.W.findIn K (.ref C) "__getattr__" = some none
  sb : PySem.W.subIn K (.ref C) (.type "BaseException") = some true
  ca : PySem.W.findIn K (.ref C) "__class__" = some (some (.builtin "object.__class__"))
  hn : PySem.W.specialIn K (.builtin "object.__class__") "__get__" = some (some (.builtin "getset_descriptor.__get__"))
  tk : PySem.W.takesIn K (.builtin "object.__class__") = some true
  mo : PySem.W.mroIn K C (.type "object") = some true
  ki : PySem.W.kitOne K (.ref C) (.type "RuntimeError") = some true
def rIsU (C a : Addr) (cls : Value) (d : Option Addr) : List V → Hp → VK → Prop := fun xs H Q => ∃ (dd : Addr) (fs : List (Str × V)), xs = [.ref a, .ty "RuntimeError"] ∧ cls = .ref C ∧ d = some dd ∧ H dd = some (.xd fs) ∧ Q (.bl true) H
theorem call_isU {X : Cx} {a C : Addr} {oe : Obj} {cls : Value} {d : Option Addr} {pn : List (Addr × Obj)} (U : UndC X.K C) (hz : Zc cls d oe) (hf : ∃ vs, oe.data = .fields vs) : CallR (X.suite a ((a, oe) :: pn)) (.builtin "isinstance") (rIsU C a cls d) := by
  intro pins s σ H xs us Q I r h
  obtain ⟨dd, fs, rfl, rfl, rfl, hd, q⟩ := h
  obtain ⟨u, w', rfl, ru, rw'⟩ := vals2 r
  cases ru
  obtain rfl : w' = Value.type "RuntimeError" := rw'
  obtain ⟨hget, _⟩ := I.pin (a, oe) (List.mem_append.mpr (.inl List.mem_cons_self))
  obtain ⟨vs, hv⟩ := hf
  have hx : ObjOk X.prog X.w H s.heap dd (.xd fs) := I.hok dd _ hd
  obtain ⟨mA, hns, hr⟩ := hx
  obtain ⟨od, ho, hl⟩ := lookIn_ns hns
  have J : PySem.W.InstAt s.heap a oe C (some od) := ⟨hget, hz.1, by unfold PySem.W.notCls; rw [hv] <;> rfl, by rw [hz.2]; exact ho⟩
  exact PySem.W.kia_one (PySem.W.kitx_exc U.cl U.ga U.gg U.sb U.ca U.hn U.tk U.mo) I.kIn J U.ki (fun z => nomatch z) fun tk => ⟨.bl true, H, I.kept (t' := tk) fun _ _ z => z, rfl, q⟩
theorem takes_len {X : Cx} {W : WX} (t : Takes X W) : Takes X (fun c d σ H => σ.length = X.N.length → W c d σ H) := fun u s' ⟨a, B, sI, pins, σ, H, cls, d, e, I, nb, up, sky, na, os, ag, w⟩ =>
  t u s' ⟨a, B, sI, pins, σ, H, cls, d, e, I, nb, up, sky, na, os, ag, w I.len⟩
abbrev s_law_result : Stmt := top 90
theorem sc_law_result : FnScope ["_law_call", "_law_e"] ["_law_call"] (defScope s_law_result) := ⟨rfl, rfl, rfl, by decide +kernel, rfl, by decide +kernel, by decide +kernel⟩
/-- what _law_result makes of what it calls: it raises Undefined -/
def TRes (CU : Addr) : (XK → Hp → VK → Prop) → Hp → VK → Prop := fun tl H Q =>
  tl (fun cls d H' => cls = .ref CU ∧ ∃ (dd : Addr) (n : Int), d = some dd ∧ H' dd = some (.xd [(("steps" : Str), .int n)]) ∧ ∀ p, H' p = none → Q (.ref p) (upd H' p (.tup [.str "undefined", .int n, .bl true]))) H Q
theorem res_gives {X : Cx} {q : Str} {g CU fI : Addr} {cdg : Value} (U0 : PySem.UndX.UndTxt X.K X.mg CU fI) (U : UndC X.K CU) (hI : X.mg "isinstance" = none) (hR : X.mg "RuntimeError" = none) :
    GivesTo X ["_law_call", "_law_e"] "_law_result" (defScope s_law_result) g cdg (defBody s_law_result) "_law_call" q (TRes CU) := by
  intro f c' s H Q tl act hc h
  refine ⟨_, pss_one (ps_try_as (X := (cxOf C8.CX0 X.prog X.w X.K X.mg X.base ["_law_call", "_law_e"] "_law_result" (defScope s_law_result) g cdg X.A X.stack s H C8.E0).nox) (c := .ref CU) (i := 1)
      (tb := fun W D σ H => ∃ Ech : XK, (∀ cls d σ' H', Ech cls d H' → σ'.length = 2 → W cls d σ' H') ∧ σ[0]? = some (some (.ref f)) ∧ H c' = some (CodeO c' q) ∧ tl Ech H D.rt)
      (ts := fun a cls d => tRet (tTup (tCons (tC (.str "undefined")) (tCons (tStepsU CU a cls d (tVar 1)) (tCons (tCB (rIsU CU a cls d) (tCons (tVar 1) (tCons (tC (.ty "RuntimeError")) tNil))) tNil)))))
      rfl rfl sc_law_result.nd rfl rfl ⟨rfl, by decide, .inl U0.gC⟩ L2.takes0 (fun W pn xe tk _ => ?_)
      (fun a oe cls d pn hz hf => pss_one (ps_ret (pe_tup (pa_cons pe_str (pa_cons (pe_stepsU U0 hz hf (pv 1)) (pa_cons (pe_callB (call_isU U hz hf) (by rfl) hI (by decide +kernel) (pa_cons (pv 1) (pa_cons (pe_bltn (by rfl) hR (by decide +kernel) (v := .ty "RuntimeError") rfl) pa_nil))) pa_nil))))))), ?_⟩
  · refine ⟨fun pins s' σ H' D I h' => ?_⟩
    obtain ⟨Ech, hW, h1, h2, h3⟩ := h'
    have hp := fun p1 p2 => act (fun c d σ H => σ.length = 2 → W c d σ H) pn xe Ech p1 p2 (takes_len tk) hW
    exact (pss_one (ps_ret (hp _ _))).run pins s' σ H' D I ⟨h1, h2, h3⟩
  · refine ⟨_, fun cls d σ' H' hh hl => ?_, rfl, hc, h⟩
    obtain ⟨rfl, dd, n, rfl, hx, hp⟩ := hh
    refine ⟨true, U0.te, fun _ a ha => ?_, fun z => by cases z⟩
    match σ', hl with
    | [x, y], _ => exact ⟨_, rfl, rfl, rfl, dd, _, rfl, hx, _, rfl, dd, _, rfl, rfl, rfl, hx, by show 3 ≤ sizeLine; rw [sizeLine_eq]; omega, fun p hp' => hp p hp'⟩
theorem ev_lam {T : Tb} {S : Os} {δ : List (Option Da)} {C : Addr} {R : List Da → Da → Prop} {RX : List Da → Int → Prop} {ta : TA} {ds : List Da} {n : Int} (h : EvA T S ta δ ds) (hR : RX ds n) :
    EvD T S (tLam T (TRes C) fun E => tCall (PrmX T C R RX) [] E ta) δ (.tup [.str "undefined", .int n, .bl true]) := fun F H σ Q s e q => by
  refine ⟨s.tab, fun H1 hE hT => ?_⟩
  have g1 : Gr T S F H F H1 := ⟨hE, Same.refl F, ⟨fun b u k => hE b u (s.ex b u k) fun ps z => s.nt b ps (by rw [k, z]), hT, s.nt, fun p c k => by
    obtain ⟨o, k1, k2, k3⟩ := s.own p c k
    exact ⟨o, hE p o k1 k3.nt.1, k2, k3⟩⟩, fun _ _ _ _ k => k⟩
  refine h F H1 σ _ g1.sg e fun vs F2 H2 g2 r2 => ⟨F2, ds, g2.sg.bare, by rw [List.append_nil]; exact r2, .inr ⟨n, hR, fun dx F3 H3 g3 hx => ⟨rfl, dx, n, rfl, g3.sg.ex _ _ hx, fun p hp => ?_⟩⟩⟩
  have g3' := g3.with g2.sg
  exact q (.ref p) _ _ (((g1.trans g2).trans g3').trans (Gr.newT g3'.sg hp)) (Dr.newT (g3'.sg.ex.free hp) (.cons (.str _) (.cons (.int _) (.cons (.bl _) .nil))))
end O26
set_option Elab.async false
set_option linter.all false
set_option maxRecDepth 100000
set_option maxHeartbeats 4000000
namespace O26
open PySem PySem.Spec PyProof.Rows L2 LamX
/-! repr of tuples, where nothing is being shown -/
def rReprD (K : PySem.W.Frag) : List V → Hp → VK → Prop := fun xs H Q => ∃ (a : Addr) (d : PyData), xs = [.ref a] ∧ Dp K H (.ref a) d ∧ d.showable = true ∧ d.hasDict = false ∧ d.depth < 60 ∧ d.shown.length ≤ sizeLine ∧ Q (.str d.shown) H
theorem call_reprT {X : Cx} (hg : X.A.guards = some []) (hu : X.A.units + 65 < cLine) : CallR X (.builtin "repr") (rReprD X.K) := by
  intro pins s σ H xs us Q I r h
  obtain ⟨a, d, rfl, hd, hs, hdc, hdp, hsz, q⟩ := h
  obtain ⟨u, rfl, ru⟩ := vals1 r
  cases ru
  obtain ⟨as, rr⟩ := Dp.reads I d _ _ hd (show L2.RelV (V.ref a) (Value.ref a) from rfl)
  exact repr_of_reads' rr hs (PyData.noDict_hsm hdc) hg (by omega) (fun _ _ h => h) (fun h' u tk hk => ⟨.str d.shown, H, I.kept hk, ⟨u, rfl⟩, q⟩) hsz
theorem shown_i2 {a b : Int} (ha : a.natAbs.log2 < 1920) (hb : b.natAbs.log2 < 1920) : (i2 a b).py.shown.length ≤ sizeLine := by
  have h1 := PyProof.Rows.int_text_len_1921 ha
  have h2 := PyProof.Rows.int_text_len_1921 hb
  have h := PySem.tupleText_len_le [Str.ofString (toString a), Str.ofString (toString b)]
  have e : (i2 a b).py.shown = PySem.tupleText [Str.ofString (toString a), Str.ofString (toString b)] := rfl
  rw [e, sizeLine_eq]
  simp only [List.map_cons, List.map_nil, List.sum_cons, List.sum_nil, List.length_cons, List.length_nil] at h
  omega
abbrev und3 (n : Int) : Da := .tup [.str "undefined", .int n, .bl true]
theorem shown_und {n : Int} (h : n.natAbs.log2 < 1920) : (und3 n).py.shown.length ≤ sizeLine := by
  have h1 := PyProof.Rows.int_text_len_1921 h
  have h2 := PySem.tupleText_len_le [reprText "undefined", Str.ofString (toString n), "True"]
  have e : (und3 n).py.shown = PySem.tupleText [reprText "undefined", Str.ofString (toString n), "True"] := rfl
  have e1 : (reprText "undefined").length = 11 := by decide +kernel
  have e2 : ("True" : Str).length = 4 := by decide +kernel
  rw [e, sizeLine_eq]
  simp only [List.map_cons, List.map_nil, List.sum_cons, List.sum_nil, List.length_cons, List.length_nil] at h2
  omega
section
variable {T : Tb} {S : Os} {K : PySem.W.Frag} {δ : List (Option Da)} {ta tb : TE}
theorem cd_reprT {l : List Da} (h1 : (Da.tup l).plain = true) (h2 : (Da.tup l).py.showable = true) (h3 : (Da.tup l).py.hasDict = false) (h4 : (Da.tup l).py.depth < 60) (h5 : (Da.tup l).py.shown.length ≤ sizeLine) : CaD T S (rReprD K) [.tup l] (.str (Da.tup l).py.shown) := fun F H vs Q s r q => by
  cases r with
  | cons a r =>
    cases r
    have hd := (a.mono s.ex).dp (K := K) h1
    cases a with
    | tup k1 k2 => exact ⟨_, _, rfl, hd, h2, h3, h4, h5, q _ F H (Gr.refl s) (.str _)⟩
theorem cd_reprI {i : Int} (h : i.natAbs.log2 < 1920) : CaD T S (fun xs H Q => ∃ i, xs = [.int i] ∧ i.natAbs.log2 < 1920 ∧ Q (.str (toString i)) H) [.int i] (.str (toString i)) := fun F H vs Q s r q => by
  cases r with
  | cons a r => cases a; cases r; exact ⟨i, rfl, h, q _ F H (Gr.refl s) (.str _)⟩
theorem ev_neS {x y : Str} (ha : EvD T S ta δ (.str x)) (hb : EvD T S tb δ (.str y)) : EvD T S (tOp rNe ta tb) δ (.bl (!decide (x = y))) := ev_op ha hb fun F H v u Q s a b q => by
  cases a; cases b
  refine ⟨rfl, q _ F H (Gr.refl s) ?_⟩
  have e : decide (V.str x = V.str y) = decide (x = y) := by
    rw [decide_eq_decide]
    exact ⟨fun h => by cases h; rfl, fun h => by rw [h]⟩
  rw [e]
  exact .bl _
theorem log_small {i : Int} (h : i.natAbs < 10000000000000000000000000000000000000000000000000000000000) : i.natAbs.log2 < 1920 := by
  by_cases h0 : i.natAbs = 0
  · rw [h0]; decide
  · refine Nat.lt_of_le_of_lt (Nat.log2_lt (k := 200) h0 |>.mpr ?_ |> Nat.le_of_lt) (by decide)
    have : (10000000000000000000000000000000000000000000000000000000000 : Nat) < 2 ^ 200 := by decide +kernel
    omega
theorem cd_repr2 {a b : Int} (ha : a.natAbs < 10000000000000000000000000000000000000000000000000000000000) (hb : b.natAbs < 10000000000000000000000000000000000000000000000000000000000) : CaD T S (rReprD K) [i2 a b] (.str (i2 a b).py.shown) :=
  cd_reprT rfl (by show (decide (a.natAbs.log2 < 1920) && (decide (b.natAbs.log2 < 1920) && true)) = true; rw [decide_eq_true (log_small ha), decide_eq_true (log_small hb)]; rfl) rfl (by show PyData.depth (.tuple [.int a, .int b]) < 60; simp [PyData.depth, PyData.depthAll]) (shown_i2 (log_small ha) (log_small hb))
theorem cd_reprU {n : Int} (h : n.natAbs < 10000000000000000000000000000000000000000000000000000000000) : CaD T S (rReprD K) [und3 n] (.str (und3 n).py.shown) :=
  cd_reprT rfl (by show (true && (decide (n.natAbs.log2 < 1920) && (true && true))) = true; rw [decide_eq_true (log_small h)]; rfl) rfl (by show PyData.depth (.tuple [.str "undefined", .int n, .bool true]) < 60; simp [PyData.depth, PyData.depthAll]) (shown_und (log_small h))
end
end O26
set_option Elab.async false
set_option linter.all false
set_option maxRecDepth 100000
set_option maxHeartbeats 4000000
namespace O26
open PySem PySem.Spec PyProof.Rows L2 LamX
/-! the pen, made of the script -/
theorem GrS.rd {T : Tb} {S S' : Os} {F H F' H' : Hp} {K : PySem.W.Frag} {a : Addr} {xs : List V} (g : GrS T S F H S' F' H') (n : S.lookup a = none) (h : SqL K H a xs) : SqL K H' a xs := by
  rcases h with (h | ⟨o, h⟩) | h
  · exact .inl (.inl (g.hh a _ h n nofun))
  · exact .inl (.inr ⟨o, g.hh a _ h n nofun⟩)
  · exact .inr h
theorem cut63 (ns : List Int) : cutV (ns.map V.int) none (some 63) = (ns.take 63).map V.int := by
  show ((ns.map V.int).drop 0).take (min 63 (ns.map V.int).length - 0) = _
  rw [List.drop_zero, List.length_map, Nat.sub_zero, ← List.map_take]
  congr 1
  by_cases h : ns.length ≤ 63
  · rw [Nat.min_eq_right h, List.take_of_length_le (Nat.le_refl _), List.take_of_length_le h]
  · rw [Nat.min_eq_left (by omega)]
abbrev pen0 (ns : List Int) : Pen := ⟨ns.take 63, 0, 0⟩
def PrmPen (T : Tb) (K : PySem.W.Frag) : Sp := fun vs H Q _ => ∃ (F : Hp) (a : Addr) (ns : List Int), vs = [.ref a] ∧ Sg T [] F H ∧ SqL K H a (ns.map V.int) ∧ ∀ p F' H', GrS T [] F H (pS p (pen0 ns)) F' H' → Q (.ref p) H'
section
variable {P : Program} {w : World} {K : PySem.W.Frag} {mg : Str → Option Value} {base : Heap} {T : Tb}
abbrev s_law_pen : Stmt := top 65
theorem sc_law_pen : FnScope ["_law_script"] ["_law_script"] (defScope s_law_pen) := ⟨rfl, rfl, rfl, by decide +kernel, rfl, by decide +kernel, by decide +kernel⟩
theorem ok_law_pen {f : Addr} {fd : FuncData} (F : FnP K "_law_pen" "_law_pen" s_law_pen f fd) (hm : mg "_law_pen" = some (.ref f)) (fr_list : mg "list" = none) : C8.Cal P w K mg base 1 "_law_pen" (PrmPen T K) [] := by
  refine ⟨f, fd, _, [], F.ok sc_law_pen (fun vs H Q E ⟨F, a, ns, e, _⟩ => by rw [e]; rfl) fun cdv A outer s H vs Q E hr ⟨F, a, ns, e, sg, hS, q⟩ => ⟨_, (pss_one (ps_ret (pe_disp (pps_cons pe_str (pe_callTy call_list_of (by rfl) fr_list (by decide +kernel) (pa_cons (pe_slice sl_list (pv 0) po_none (po_some pe_int)) pa_nil)) (pps_cons pe_str pe_int (pps_cons pe_str pe_int pps_nil))) (by rfl) (by rfl) (by decide) (by decide)))), ?_⟩, hm, F.kp, F.bindsN (fun _ _ _ _ _ _ us hl => match us, hl with | [_], _ => rfl), .nil⟩
  subst e
  intro p hp
  have g1 := GrS.mine (c := .dic []) sg hp ⟨[], rfl, .nil⟩
  have s1 := g1.rd (by rfl) hS
  refine ⟨.ref a, rfl, 63, rfl, a, _, rfl, s1, fun p2 hp2 => ?_⟩
  rw [cut63]
  have g2 := Gr.newL (xs := (ns.take 63).map V.int) g1.sg hp2
  refine ⟨p2, (ns.take 63).map V.int, rfl, .inl (SqL.of (g2.sg.ex _ _ upd_same)), fun m hm => ?_⟩
  have g3 := Gr.newL (xs := (ns.take 63).map V.int) g2.sg hm
  have g4 := g1.trans (g2.trans g3).s
  obtain ⟨o, k1, k2, ks, rfl, k3⟩ := g4.sg.own p _ lk0
  cases k3
  refine ⟨k1, [(.inr "cells", .ref m), (.inr "turn", .int 0), (.inr "left", .int 0)], rfl, Nat.le_of_ble_eq_true rfl, ?_⟩
  have g5 := GrS.write (c := .dic (penK (pen0 ns))) (o := .dK (mergeK [] [(.inr "cells", .ref m), (.inr "turn", .int 0), (.inr "left", .int 0)])) g4.sg lk0 ⟨[(.inr "cells", .ref m), (.inr "turn", .int 0), (.inr "left", .int 0)], rfl, .cons (Dr.newL (g2.sg.ex.free hm) (DrL.of_ints _)) (.cons (.int _) (.cons (.int _) .nil))⟩
  exact q p _ _ ((g4.trans g5).weak fun r c e => by
    rw [lookup_put] at e ⊢
    by_cases h : r = p
    · rw [if_pos h] at e ⊢; exact e
    · rw [if_neg h] at e; cases e)
end
end O26
set_option Elab.async false
set_option linter.all false
set_option maxRecDepth 100000
set_option maxHeartbeats 4000000
namespace O26
open PySem PySem.Spec PyProof.Rows L2 LamX
/-! one turn of the law's loop: what is asked of the math -/
structure Trip (vs : List Ve) (N : Nat) (pt : Nat → Pt) : Prop where
  nb : N ≤ 1000000000000000000000000000000000000000
  ok : ∀ i, i ≤ N → PtOk (pt i) ∧ OutS vs (pt i)
  e0 : btan vs (pt 0) = none
  eN : tan vs (pt N) = none
  orb : ∀ i, i ≤ N → ∃ (segs segs2 : List Sgm) (tl tl2 : Tl) (a b : IP), OrbO vs 1 (pt i) none segs tl ∧ OrbO vs (-1) (pt i) none segs2 tl2 ∧ tl.getLast? = some a ∧ tl2.getLast? = some b ∧ a.1 = (N : Int) - (i : Int) ∧ b.1 = (i : Int)
  go : ∀ (i j : Nat) (n : Int), i ≤ N → j ≤ N → (i : Int) + n = (j : Int) → ∃ (segs : List Sgm) (tl : Tl) (k : Nat), WayO vs (pt i) n segs tl ∧ (tl = [] ∨ ∃ a, tl.getLast? = some a ∧ iabs n ≤ a.1) ∧ AtK vs segs tl (iabs n) k (pt j)
  gone : ∀ (i : Nat) (n : Int), i ≤ N → (N : Int) < i + n ∨ (i : Int) + n < 0 → iabs n ≤ 10000000000000000000000000000000000000000 → ∃ (segs : List Sgm) (tl : Tl) (a : IP), WayO vs (pt i) n segs tl ∧ tl.getLast? = some a ∧ a.1 < iabs n ∧ a.1 = (if n ≥ 0 then (N : Int) - (i : Int) else (i : Int))
def rFig (q : Pen) : Nat := ([1, 3, 30] : List Nat).getD (drawN (shapeP q) 3) 1
def rQ2 (q : Pen) : Pen := drawP (shapeP q) 3
def rMany (q : Pen) : Int := 1 + (greatP (rFig q) (rQ2 q) 0).1
def rQ3 (q : Pen) : Pen := (greatP (rFig q) (rQ2 q) 0).2
def rLast (q : Pen) : Pt := deadV (rQ3 q) (shapeV q) (rMany q)
def rQ4 (q : Pen) : Pen := deadP (rQ3 q) (shapeV q)
def rQ5 (q : Pen) : Pen := (greatP 31 (rQ4 q) 0).2
def rQ6 (q : Pen) : Pen := drawP (rQ5 q) 4
def rBack (q : Pen) (N : Nat) : Nat := ([0, N, N / 2, (greatP 31 (rQ4 q) 0).1.toNat % (N + 1)] : List Nat).getD (drawN (rQ5 q) 4) 0
structure RoundOk (q : Pen) : Prop where
  law : LawOk (shRes q)
  pol : PolF (shapeV q)
  cvx : Cvx (shapeV q)
  lst : ∃ v r, shapeV q = v :: r ∧ leastV v r = v
  trip : ∃ (N : Nat) (pt : Nat → Pt), Trip (shapeV q) N pt ∧ pt N = rLast q
theorem rFig_le (q : Pen) : rFig q ≤ 30 := by
  have h := drawN_lt (q := shapeP q) (n := 3) (by decide)
  unfold rFig
  rcases (by omega : drawN (shapeP q) 3 = 0 ∨ drawN (shapeP q) 3 = 1 ∨ drawN (shapeP q) 3 = 2) with e | e | e <;> rw [e] <;> decide
theorem rFig_pick (q : Pen) : pickD (shapeP q) [.int 1, .int 3, .int 30] = .int (rFig q : Nat) := by
  have h := drawN_lt (q := shapeP q) (n := 3) (by decide)
  unfold rFig
  show ([.int 1, .int 3, .int 30] : List Da).getD (drawN (shapeP q) 3) .non = _
  rcases (by omega : drawN (shapeP q) 3 = 0 ∨ drawN (shapeP q) 3 = 1 ∨ drawN (shapeP q) 3 = 2) with e | e | e <;> rw [e] <;> rfl
theorem rMany_bd (q : Pen) : 1 ≤ rMany q ∧ rMany q ≤ 1000000000000000000000000000000 := by
  obtain ⟨h1, h2⟩ := greatP_bd (rFig q) (rQ2 q) 0 (by decide)
  have h3 : (0 + 1 : Int) * 10 ^ rFig q ≤ 10 ^ 30 := by
    rw [Int.zero_add, Int.one_mul]
    exact_mod_cast Nat.pow_le_pow_right (by decide : 0 < 10) (rFig_le q)
  unfold rMany
  omega
theorem rBack_le (q : Pen) (N : Nat) : rBack q N ≤ N := by
  have h := drawN_lt (q := rQ5 q) (n := 4) (by decide)
  have h2 := Nat.mod_lt (greatP 31 (rQ4 q) 0).1.toNat (by omega : 0 < N + 1)
  unfold rBack
  rcases (by omega : drawN (rQ5 q) 4 = 0 ∨ drawN (rQ5 q) 4 = 1 ∨ drawN (rQ5 q) 4 = 2 ∨ drawN (rQ5 q) 4 = 3) with e | e | e | e <;> rw [e] <;> simp <;> omega
theorem rBack_pick (q : Pen) (N : Nat) : pickD (rQ5 q) [.int 0, .int (N : Nat), .int ((N : Int) / 2), .int ((greatP 31 (rQ4 q) 0).1 % ((N : Int) + 1))] = .int (rBack q N : Nat) := by
  have h := drawN_lt (q := rQ5 q) (n := 4) (by decide)
  obtain ⟨h1, h2⟩ := greatP_bd 31 (rQ4 q) 0 (by decide)
  unfold rBack
  show ([.int 0, .int (N : Nat), .int ((N : Int) / 2), .int ((greatP 31 (rQ4 q) 0).1 % ((N : Int) + 1))] : List Da).getD (drawN (rQ5 q) 4) .non = _
  rcases (by omega : drawN (rQ5 q) 4 = 0 ∨ drawN (rQ5 q) 4 = 1 ∨ drawN (rQ5 q) 4 = 2 ∨ drawN (rQ5 q) 4 = 3) with e | e | e | e <;> rw [e]
  · rfl
  · rfl
  · show Da.int ((N : Int) / 2) = Da.int ((N / 2 : Nat) : Int)
    rw [Int.natCast_ediv]; rfl
  · show Da.int ((greatP 31 (rQ4 q) 0).1 % ((N : Int) + 1)) = Da.int (((greatP 31 (rQ4 q) 0).1.toNat % (N + 1) : Nat) : Int)
    rw [Int.natCast_emod, Int.toNat_of_nonneg h1]; rfl
theorem rQ_ok {q : Pen} {n : Nat} (h : PenOk n q) : PenOk (n + 9) (shapeP q) ∧ PenOk (n + 10) (rQ2 q) ∧ PenOk (n + 40) (rQ3 q) ∧ PenOk (n + 42) (rQ4 q) ∧ PenOk (n + 73) (rQ5 q) ∧ PenOk (n + 74) (rQ6 q) := by
  have h1 := shapeP_ok h
  have h2 : PenOk (n + 10) (rQ2 q) := h1.draw
  have h3 : PenOk (n + 40) (rQ3 q) := (greatP_ok (rFig q) _ 0 _ h2).up (by have := rFig_le q; omega)
  have h4 : PenOk (n + 42) (rQ4 q) := h3.draw.draw
  have h5 : PenOk (n + 73) (rQ5 q) := greatP_ok 31 _ 0 _ h4
  exact ⟨h1, h2, h3, h4, h5, h5.draw⟩
section
variable {T : Tb} {S S1 : Os} {δ : List (Option Da)} {tz : TA} {ds : List Da}
theorem evs_tup (h : EvAS T S tz δ ds S1) (hl : ds.length ≤ 1000 := by exact Nat.le_of_ble_eq_true rfl) : EvS T S (tTup tz) δ (.tup ds) S1 := fun F H σ Q s e q =>
  h F H σ _ s e fun vs F1 H1 g1 r1 => ⟨by rw [r1.length]; exact Nat.le_of_lt (small1000 hl), fun p hp => q (.ref p) _ _ (g1.trans (Gr.newT g1.sg hp).s) (Dr.newT (g1.sg.ex.free hp) r1)⟩
end
theorem passes_no {X : Cx} : Passes (L2.CX X.prog X.w) X C8.E0 := passes_call LamX.takes0 fun _ _ _ _ h => h
theorem N_small {N : Nat} (h : N ≤ 1000000000000000000000000000000000000000) {i : Int} (h1 : -(N : Int) ≤ i) (h2 : i ≤ N) : i.natAbs < 10000000000000000000000000000000000000000000000000000000000 := by omega
end O26
set_option Elab.async false
set_option linter.all false
set_option maxRecDepth 100000
set_option maxHeartbeats 8000000
namespace O26
open PySem PySem.Spec PyProof.Rows L2 LamX
section
variable {vs : List Ve} {N : Nat} {pt : Nat → Pt} {C_Polygon C_Segment C_Orbit : Addr}
theorem Trip.r (t : Trip vs N pt) (hP : PolF vs) {i j : Nat} {n : Int} (hi : i ≤ N) (hj : j ≤ N) (e : (i : Int) + n = (j : Int)) : R_point_after C_Polygon C_Segment C_Orbit [poly C_Polygon vs, p3 (pt i), .int n] (p3 (pt j)) := by
  obtain ⟨segs, tl, k, h1, h2, h3⟩ := t.go i j n hi hj e
  have hb := t.nb
  have ha := iabs_eq n
  exact ⟨vs, pt i, n, pt j, rfl, hP, (t.ok i hi).1, (t.ok i hi).2, by omega, ⟨vs, pt i, n, segs, tl, k, pt j, rfl, h1, h2, h3, rfl⟩, rfl⟩
theorem Trip.x (t : Trip vs N pt) (hP : PolF vs) {i : Nat} {n m : Int} (hi : i ≤ N) (ho : (N : Int) < i + n ∨ (i : Int) + n < 0) (hb : iabs n ≤ 10000000000000000000000000000000000000000) (hm : m = (if n ≥ 0 then (N : Int) - (i : Int) else (i : Int))) : RX_point_after C_Polygon C_Segment C_Orbit [poly C_Polygon vs, p3 (pt i), .int n] m := by
  obtain ⟨segs, tl, a, h1, h2, h3, h4⟩ := t.gone i n hi ho hb
  exact ⟨vs, pt i, n, m, rfl, hP, (t.ok i hi).1, (t.ok i hi).2, hb, ⟨vs, pt i, n, segs, tl, a, rfl, h1, h2, h3, by rw [hm, h4]⟩, rfl⟩
theorem Trip.x2 (t : Trip vs N pt) (hP : PolF vs) {b : Nat} (hb : b ≤ N) {Z : Int} (h1 : 1 ≤ Z) (h2 : Z ≤ 1000000000000000000000000000000000000000) : RX_point_after C_Polygon C_Segment C_Orbit [poly C_Polygon vs, p3 (pt (N - b)), .int ((b : Int) + Z)] (b : Nat) := by
  have e : ((N - b : Nat) : Int) = (N : Int) - (b : Int) := Int.ofNat_sub hb
  have nb := t.nb
  refine t.x hP (Nat.sub_le _ _) (.inl (by omega)) ?_ ?_
  · have := iabs_eq ((b : Int) + Z)
    omega
  · rw [if_pos (by omega)]
    omega
theorem Trip.x3 (t : Trip vs N pt) (hP : PolF vs) {b : Nat} (hb : b ≤ N) : RX_point_after C_Polygon C_Segment C_Orbit [poly C_Polygon vs, p3 (pt (N - b)), .int ((b : Int) - (N : Int) - 1)] ((N : Int) - (b : Int)) := by
  have e : ((N - b : Nat) : Int) = (N : Int) - (b : Int) := Int.ofNat_sub hb
  have nb := t.nb
  refine t.x hP (Nat.sub_le _ _) (.inr (by omega)) ?_ ?_
  · have := iabs_eq ((b : Int) - (N : Int) - 1)
    omega
  · rw [if_neg (by omega)]
    omega
theorem Trip.de (t : Trip vs N pt) (hP : PolF vs) {i : Nat} (hi : i ≤ N) : R_dead_ends C_Polygon [poly C_Polygon vs, p3 (pt i)] (i2 (i : Nat) ((N : Int) - (i : Int))) := by
  obtain ⟨segs, segs2, tl, tl2, a, b, h1, h2, h3, h4, h5, h6⟩ := t.orb i hi
  rw [← h5, ← h6]
  exact ri_dead_ends hP (t.ok i hi).1 (t.ok i hi).2 h1 h2 h3 h4
theorem Trip.po (t : Trip vs N pt) (hP : PolF vs) {i : Nat} (hi : i ≤ N) : R_period_of C_Polygon [poly C_Polygon vs, p3 (pt i)] .non := by
  obtain ⟨segs, segs2, tl, tl2, a, b, h1, h2, h3, h4, h5, h6⟩ := t.orb i hi
  exact ri_period_of hP (t.ok i hi).1 (t.ok i hi).2 h1
end
theorem eqv_p3 (a : Pt) : PyData.eqv (p3 a).py (p3 a).py = true := by
  show ((a.1 == a.1) && ((a.2.1 == a.2.1) && ((a.2.2 == a.2.2) && true))) = true
  simp
theorem for_script {T : Tb} {S : Os} {δ : List (Option Da)} {o : Out} {ta : TA} {g : TG} {ts tu : TS} {F H F0 H0 : Hp} {σ : L2.St} {D : Ends} {j : Int} (hta : ∀ R : List V → Hp → Prop, R [V.int j] H → ta σ H R) (hj : -(2 ^ 62) ≤ j ∧ j < 2 ^ 62) (h : SD T S (tSeq (tFor (fun σ H R => R (Itr 0 j.toNat) H) g ts) tu) δ o) (s : Sg T S F H) (e : EnvR F σ δ)
    (q : ∀ F2 H2, OutQ T S F H F2 H2 D o) : tSeq (tFor (iRng1 ta) g ts) tu D σ H := hta _ ⟨j, rfl, hj.1, hj.2, h F H σ D s e q⟩
theorem pen_start {T : Tb} {K : PySem.W.Frag} {E : XK} {u : TS} {D : Ends} {σ : L2.St} {F H : Hp} {a : Addr} {ns : List Int} (ha : σ[0]? = some (some (.ref a))) (s : Sg T [] F H) (hS : SqL K H a (ns.map V.int)) (h : ∀ p F1 H1, GrS T [] F H (pS p (pen0 ns)) F1 H1 → u D (σ.set 1 (some (.ref p))) H1) :
    tSeq (tAsg (tCall (PrmPen T K) [] E (tCons (tVar 0) tNil)) (gName 1)) u D σ H := ⟨.ref a, ha, F, a, ns, rfl, s, hS, fun p F1 H1 g => h p F1 H1 g⟩
section
variable {P : Program} {w : World} {K : PySem.W.Frag} {mg : Str → Option Value} {base : Heap} {T : Tb}
abbrev s_law : Stmt := top 91
abbrev lawN : List Str := ["_law_script", "_law_pen_here", "_law_turn", "_law_corners", "_law_polygon", "_law_many", "_law_last", "_law_ends", "_law_first", "_law_back", "_law_here", "_law_steps", "_law_due"]
theorem sc_law : FnScope lawN ["_law_script"] (defScope s_law) := ⟨rfl, rfl, rfl, by decide +kernel, rfl, by decide +kernel, by decide +kernel⟩
theorem law_body {f c PT : Addr} {fr : Addr} {fdr : FuncData} {C_Polygon C_Segment C_Orbit C_Undefined fI : Addr} (U0 : PySem.UndX.UndTxt K mg C_Undefined fI) (UC : UndC K C_Undefined) (Fr : FnP K "_law_result" "_law_result" s_law_result fr fdr) (hmr : mg "_law_result" = some (.ref fr)) (c__law_pen : C8.Cal P w K mg base 1 "_law_pen" (PrmPen T K) []) (c__law_shape : C8.Cal P w K mg base 5 "_law_shape" (PrmS T R_law_shape) []) (c__law_pick : C8.Cal P w K mg base 2 "_law_pick" (PrmS T R_law_pick) []) (c__law_great : C8.Cal P w K mg base 2 "_law_great" (PrmS T R_law_great) []) (c__law_dead_end : C8.Cal P w K mg base 3 "_law_dead_end" (PrmS T R_law_dead_end) []) (c_dead_ends : C8.Cal P w K mg base 11 "dead_ends" (Prm T (R_dead_ends C_Polygon)) []) (c__law_is_int : C8.Cal P w K mg base 1 "_law_is_int" (Prm T R_law_is_int) []) (c__law_previous : C8.Cal P w K mg base 4 "_law_previous" (Prm T R_law_previous) []) (c__law_next : C8.Cal P w K mg base 4 "_law_next" (Prm T R_law_next) []) (c_period_of : C8.Cal P w K mg base 11 "period_of" (Prm T (R_period_of C_Polygon)) []) (k_Polygon : C8.Mak P w K mg base 5 "Polygon" C_Polygon (PrmI T C_Polygon R_PolygonU_initU) []) (x_point_after : XCal P w K mg base 11 "point_after" (PrmX T C_Undefined (R_point_after C_Polygon C_Segment C_Orbit) (RX_point_after C_Polygon C_Segment C_Orbit))) (fr_range : mg "range" = none) (fr_min : mg "min" = none) (fr_len : mg "len" = none) (fr_isinstance : mg "isinstance" = none) (fr_tuple : mg "tuple" = none) (fr_repr : mg "repr" = none) (fr_RuntimeError : mg "RuntimeError" = none)
    (TB : TabB base mg c PT) {q0 : Str} (hq0 : q0 = (envOfC "law" (defScope s_law) 0 0 .none).qual ++ "<lambda>") (hmT : (PT, q0) ∈ T) (hu : ∀ p ∈ T, p.1 = PT → p.2 = q0)
    (A : Around) (outer : List Env) (s : Shared) (H0 : Hp) (E : XK) (hr : Room 14 (A.deeper (envOfC "law" (defScope s_law) s.heap.objs.size f (.ref c)))) (hg : A.guards = some []) :
    ∃ t, PSs (cxOf C8.CX0 P w K mg base lawN "law" (defScope s_law) f (.ref c) A outer s H0 E).nox (defBody s_law) t ∧ ∀ (a : Addr) (ns : List Int) (H : Hp), ns.length ≤ 100000 → LamX.Tabs T H → SqL K H a (ns.map V.int) → (∀ q n, PenOk n q → n ≤ 400 → RoundOk q) →
      t { nx := fun _ _ => False, rt := fun v _ => v = .bl true } (L2.start lawN [.ref a]) H := by
  subst hq0
  obtain ⟨oc, od, dV, kV, doc, pm, an, cdv, ct, osl, rfl, lkr, hcg, _, _⟩ := Fr.ex
  have hc : (Value.ref c) = .ref c := rfl
  refine ⟨_, (pss_cons (ps_set (i := 1) sc_law.nd rfl (Or.inl rfl) (C8.pe_c c__law_pen hr (by decide) rfl (pa_cons (pv 0) pa_nil))) (pss_cons (ps_for PassesOwn.never rfl (pi_range1 rfl fr_range (pa_cons (pe_op op_add pe_int (pe_callB (call_min2 (by rfl)) (by rfl) fr_min (by decide +kernel) (pa_cons pe_int (pa_cons (pe_callB call_len_seq (by rfl) fr_len PySem.boot_len (pa_cons (pv 0) pa_nil)) pa_nil)))) pa_nil)) (pg_name (i := 2) sc_law.nd rfl (Or.inl rfl)) (pss_cons (ps_set (i := 3) sc_law.nd rfl (Or.inl rfl) (C8.pe_c c__law_shape hr (by decide) rfl (pa_cons (pv 1) pa_nil))) (pss_cons (ps_asg (pe_tup (pa_cons (C8.pe_mk k_Polygon hr (by decide) rfl (pa_cons (pv 3) pa_nil)) (pa_cons (pe_op op_add pe_int (C8.pe_c c__law_great hr (by decide) rfl (pa_cons (pv 1) (pa_cons (C8.pe_c c__law_pick hr (by decide) rfl (pa_cons (pv 1) (pa_cons (pe_lst (pa_cons pe_int (pa_cons pe_int (pa_cons pe_int pa_nil)))) pa_nil))) pa_nil)))) pa_nil))) (pg_tup (by rfl) (pgs_cons (pg_name (i := 4) sc_law.nd rfl (Or.inr rfl)) (pgs_cons (pg_name (i := 5) sc_law.nd rfl (Or.inl rfl)) pgs_nil)))) (pss_cons (ps_set (i := 6) sc_law.nd rfl (Or.inl rfl) (C8.pe_c c__law_dead_end hr (by decide) rfl (pa_cons (pv 1) (pa_cons (pv 3) (pa_cons (pv 5) pa_nil))))) (pss_cons (ps_set (i := 7) sc_law.nd rfl (Or.inl rfl) (C8.pe_c c_dead_ends hr (by decide) rfl (pa_cons (pv 4) (pa_cons (pv 6) pa_nil)))) (pss_cons (ps_if (PW.pt (pw_or (pt_not (pt_val (pe_callB call_isi (by rfl) fr_isinstance (by decide +kernel) (pa_cons (pv 7) (pa_cons (pe_bltn (by rfl) fr_tuple (by decide +kernel) (v := .ty "tuple") rfl) pa_nil))))) (pw_or (pt_not (pt_val (C8.pe_c c__law_is_int hr (by decide) rfl (pa_cons (pe_ix ix_tup (pv 7) pe_int (fun _ _ => rfl)) (pa_cons pe_int (pa_cons (pe_op op_pow pe_int pe_int) pa_nil)))))) (pw_or1 (pt_cmpR op_ne (pe_callB SkE.call_repr_int (by rfl) fr_repr (by decide +kernel) (pa_cons (pe_ix ix_tup (pv 7) pe_int (fun _ _ => rfl)) pa_nil)) pe_str (nomark _)))))) (pss_one (ps_ret pe_bl)) pss_nil) (pss_cons (ps_set (i := 8) sc_law.nd rfl (Or.inl rfl) (pe_cx x_point_after hr (by decide) rfl (pa_cons (pv 4) (pa_cons (pv 6) (pa_cons (pe_op op_sub pe_int (pe_ix ix_tup (pv 7) pe_int (fun _ _ => rfl))) pa_nil))) passes_no)) (pss_cons (ps_if (PW.pt (pw_or (pt_cmpR op_notN (C8.pe_c c__law_previous hr (by decide) rfl (pa_cons (pv 3) (pa_cons (pv 8) pa_nil))) pe_non (nomark _)) (pw_or1 (pt_cmpR op_notN (C8.pe_c c__law_next hr (by decide) rfl (pa_cons (pv 3) (pa_cons (pv 6) pa_nil))) pe_non (nomark _))))) (pss_one (ps_ret pe_bl)) pss_nil) (pss_cons (ps_set (i := 9) sc_law.nd rfl (Or.inl rfl) (C8.pe_c c__law_pick hr (by decide) rfl (pa_cons (pv 1) (pa_cons (pe_lst (pa_cons pe_int (pa_cons (pe_ix ix_tup (pv 7) pe_int (fun _ _ => rfl)) (pa_cons (pe_op op_fdivW (pe_ix ix_tup (pv 7) pe_int (fun _ _ => rfl)) pe_int) (pa_cons (pe_op op_mod (C8.pe_c c__law_great hr (by decide) rfl (pa_cons (pv 1) (pa_cons pe_int pa_nil))) (pe_op op_add (pe_ix ix_tup (pv 7) pe_int (fun _ _ => rfl)) pe_int)) pa_nil))))) pa_nil)))) (pss_cons (ps_set (i := 10) sc_law.nd rfl (Or.inr rfl) (pe_cx x_point_after hr (by decide) rfl (pa_cons (pv 4) (pa_cons (pv 6) (pa_cons (pe_op op_sub pe_int (pv 9)) pa_nil))) passes_no)) (pss_cons (ps_if (PW.pt (pw_or (pt_cmpR op_ne (pe_callB (call_reprT hg (room65 hr)) (by rfl) fr_repr (by decide +kernel) (pa_cons (C8.pe_c c_dead_ends hr (by decide) rfl (pa_cons (pv 4) (pa_cons (pv 10) pa_nil))) pa_nil)) (pe_callB (call_reprT hg (room65 hr)) (by rfl) fr_repr (by decide +kernel) (pa_cons (pe_tup (pa_cons (pe_op op_sub (pe_ix ix_tup (pv 7) pe_int (fun _ _ => rfl)) (pv 9)) (pa_cons (pv 9) pa_nil))) pa_nil)) (nomark _)) (pw_or1 (pt_cmpR op_notN (C8.pe_c c_period_of hr (by decide) rfl (pa_cons (pv 4) (pa_cons (pv 10) pa_nil))) pe_non (nomark _))))) (pss_one (ps_ret pe_bl)) pss_nil) (pss_cons (ps_if (PW.pt (pw_or (pt_cmpR (op_neD hr.units) (pe_cx x_point_after hr (by decide) rfl (pa_cons (pv 4) (pa_cons (pv 10) (pa_cons (pv 9) pa_nil))) passes_no) (pv 6) (nomark _)) (pw_or1 (pt_cmpR (op_neD hr.units) (pe_cx x_point_after hr (by decide) rfl (pa_cons (pv 4) (pa_cons (pv 8) (pa_cons (pe_op op_sub (pe_ix ix_tup (pv 7) pe_int (fun _ _ => rfl)) (pv 9)) pa_nil))) passes_no) (pv 10) (nomark _))))) (pss_one (ps_ret pe_bl)) pss_nil) (pss_one (ps_for PassesOwn.never rfl (pi_tup (pe_tup (pa_cons (pe_tup (pa_cons (pe_op op_add (pv 9) pe_int) (pa_cons (pv 9) pa_nil))) (pa_cons (pe_tup (pa_cons (pe_op op_add (pv 9) (pe_op op_pow pe_int pe_int)) (pa_cons (pv 9) pa_nil))) (pa_cons (pe_tup (pa_cons (pe_op op_sub (pe_op op_sub (pv 9) (pe_ix ix_tup (pv 7) pe_int (fun _ _ => rfl))) pe_int) (pa_cons (pe_op op_sub (pe_ix ix_tup (pv 7) pe_int (fun _ _ => rfl)) (pv 9)) pa_nil))) pa_nil))))) (pg_tup (by rfl) (pgs_cons (pg_name (i := 11) sc_law.nd rfl (Or.inr rfl)) (pgs_cons (pg_name (i := 12) sc_law.nd rfl (Or.inl rfl)) pgs_nil))) (pss_one (ps_if (pt_cmpR op_ne (pe_callB (call_reprT hg (room65 hr)) (by rfl) fr_repr (by decide +kernel) (pa_cons (LamX.pe_lamcall (k := 12) (T := T) (TT := TRes C_Undefined) (t := fun E => tCall (PrmX T C_Undefined (R_point_after C_Polygon C_Segment C_Orbit) (RX_point_after C_Polygon C_Segment C_Orbit)) [] E (tCons (tVar 4) (tCons (tVar 10) (tCons (tVar 11) tNil)))) rfl hmr Fr.kp lkr hcg (Fr.bindsN (fun _ _ _ _ _ _ us hl => match us, hl with | [_], _ => rfl)) sc_law_result rfl (Or.inl rfl) (res_gives U0 UC fr_isinstance fr_RuntimeError) TB hc hmT hu hr (LamX.lamS_by (by kernel_rfl)) (by rfl) (fun _ _ _ _ _ => by rfl) (fun A outer s H E f c' hr2 => pe_cx x_point_after hr2 (by decide) rfl (pa_cons (pv 4) (pa_cons (pv 10) (pa_cons (pv 11) pa_nil))) (passes_call (takes_of rfl rfl rfl rfl) fun _ _ _ _ h => h))) pa_nil)) (pe_callB (call_reprT hg (room65 hr)) (by rfl) fr_repr (by decide +kernel) (pa_cons (pe_tup (pa_cons pe_str (pa_cons (pv 12) (pa_cons pe_bl pa_nil)))) pa_nil)) (nomark _)) (pss_one (ps_ret pe_bl)) pss_nil)))))))))))))))) (pss_one (ps_ret pe_bl)))), fun a ns H hl hT hS hR => ?_⟩
  have hS0 : (([] : Os).lookup a) = none := rfl
  have sg0 : Sg T [] (fun _ => none) H := ⟨fun _ _ h => (nomatch h), hT, fun _ _ h => (nomatch h), fun _ _ h => (nomatch h)⟩
  refine pen_start (a := a) (ns := ns) (F := fun _ => none) rfl sg0 hS fun p F1 H1 g1 => ?_
  have hS1 := g1.rd hS0 hS
  have hj : ((ns.map V.int).length : Int) ≤ 100000 := by rw [List.length_map]; omega
  have hj0 : (0 : Int) ≤ ((ns.map V.int).length : Int) := by omega
  refine for_script (T := T) (S := pS p (pen0 ns)) (F := F1) (F0 := F1) (H0 := H1) (δ := [some (.fn a), some (.fn p), none, none, none, none, none, none, none, none, none, none, none]) (o := .ret (.bl true)) (j := 2 + (if ((ns.map V.int).length : Int) < 2 then ((ns.map V.int).length : Int) else 2)) (fun R hR => ⟨.ref a, rfl, a, _, rfl, .inl hS1, 2, _, rfl, 2, _, rfl, rfl, hR⟩) (by split <;> omega) ?_ g1.sg ?_ ?_
  · generalize hm : ((2 : Int) + (if ((ns.map V.int).length : Int) < 2 then ((ns.map V.int).length : Int) else 2)).toNat = m
    have hm4 : m ≤ 4 := by rw [← hm]; split <;> omega
    refine sd_forS (G := fun δ' S' => ∃ q z2 z3 z4 z5 z6 z7 z8 z9 z10 z11 z12, PenOk (100 * m) q ∧ S' = pS p q ∧ δ' = [some (.fn a), some (.fn p), z2, z3, z4, z5, z6, z7, z8, z9, z10, z11, z12]) (items := rngD 0 m) (fun F H σ R s e q => q _ F H (Gr.refl s) (wd_rng 0 _)) (for_nat m (it := fun i => .int (0 + (i : Nat))) (fun i δ' S' => ∃ q z2 z3 z4 z5 z6 z7 z8 z9 z10 z11 z12, PenOk (100 * i) q ∧ S' = pS p q ∧ δ' = [some (.fn a), some (.fn p), z2, z3, z4, z5, z6, z7, z8, z9, z10, z11, z12]) ?_ ⟨pen0 ns, none, none, none, none, none, none, none, none, none, none, none, ⟨by show (ns.take 63).length ≤ 63; rw [List.length_take]; omega, Nat.le_refl _⟩, rfl, rfl⟩) ?_
    · rintro i δ S hi ⟨q, z2, z3, z4, z5, z6, z7, z8, z9, z10, z11, z12, hq, rfl, rfl⟩
      have R := hR q (100 * i) hq (by omega)
      obtain ⟨v, r, hv, hlv⟩ := R.lst
      obtain ⟨N, pt, hT, hN⟩ := R.trip
      have hP := R.pol
      have hB := hP.b
      have hb := rBack_le q N
      obtain ⟨q1, q2, q3, q4, q5, q6⟩ := rQ_ok hq
      have hmb := rMany_bd q
      have bm : Bd 130 (rMany q) := .of_le 1000000000000000000000000000000 (by omega) (by omega)
      have nb := hT.nb
      have hfl := rFig_le q
      refine ⟨_, _, [some (.fn a), some (.fn p), some (.int (0 + (i : Nat))), some (.lst ((shapeV q).map v2)), some (poly C_Polygon (shapeV q)), some (.int (rMany q)), some (p3 (pt N)), some (i2 (N : Nat) 0), some (p3 (pt 0)), some (.int (rBack q N : Nat)), some (p3 (pt (N - rBack q N))), some (.int ((rBack q N : Int) - (N : Int) - 1)), some (.int ((N : Int) - (rBack q N : Int)))], pS p (rQ6 q), gd_name, ?_, ⟨rQ6 q, _, _, _, _, _, _, _, _, _, _, _, q6.up (by omega), rfl, rfl⟩⟩
      refine sd_seq (δ1 := [some (.fn a), some (.fn p), some (.int (0 + (i : Nat))), some (.lst ((shapeV q).map v2)), z4, z5, z6, z7, z8, z9, z10, z11, z12]) (S1 := pS p (shapeP q)) (sds_asg (evs_pen (EvA.s (ea_cons (ev_var rfl) ea_nil)) ⟨p, q, 100 * i, rfl, hq, by omega, R.law, rfl, rfl, rfl⟩)) ?_
      refine sd_seq (δ1 := [some (.fn a), some (.fn p), some (.int (0 + (i : Nat))), some (.lst ((shapeV q).map v2)), some (poly C_Polygon (shapeV q)), some (.int (rMany q)), z6, z7, z8, z9, z10, z11, z12]) (S1 := pS p (rQ3 q)) (sds_asgG (evs_tup (eas_cons (EvD.s (ev_make (es := []) (ea_cons (ev_var rfl) ea_nil) (fun _ => .nil) ⟨v, r, by rw [hv]; rfl, hv ▸ hB, hv ▸ R.cvx, hlv, by rw [hv]⟩)) (eas_cons (evs_op (EvD.s ev_int) (evs_pen (eas_cons (EvD.s (ev_var rfl)) (eas_cons (evs_is (evs_pen (EvA.s (ea_cons (ev_var rfl) (ea_cons (ev_lst (ea_cons ev_int (ea_cons ev_int (ea_cons ev_int ea_nil)))) ea_nil))) ⟨p, shapeP q, [.int 1, .int 3, .int 30], 100 * i + 9, rfl, by decide, by decide, q1, by omega, rfl, rfl, rfl⟩) (rFig_pick q)) eas_nil)) ⟨p, rQ2 q, rFig q, 100 * i + 10, rfl, by omega, q2, by omega, rfl, rfl, rfl⟩) od_add) eas_nil))) (gd_tup (gds_cons gd_name (gds_cons gd_name gds_nil)))) ?_
      refine sd_seq (δ1 := [some (.fn a), some (.fn p), some (.int (0 + (i : Nat))), some (.lst ((shapeV q).map v2)), some (poly C_Polygon (shapeV q)), some (.int (rMany q)), some (p3 (pt N)), z7, z8, z9, z10, z11, z12]) (S1 := pS p (rQ4 q)) (sds_asg (evs_is (evs_pen (EvA.s (ea_cons (ev_var rfl) (ea_cons (ev_var rfl) (ea_cons (ev_var rfl) ea_nil)))) ⟨p, rQ3 q, 100 * i + 40, shapeV q, rMany q, rfl, q3, by omega, hB, bm, rfl, rfl, rfl⟩) (by rw [hN]; rfl))) ?_
      refine sd_seq (δ1 := [some (.fn a), some (.fn p), some (.int (0 + (i : Nat))), some (.lst ((shapeV q).map v2)), some (poly C_Polygon (shapeV q)), some (.int (rMany q)), some (p3 (pt N)), some (i2 (N : Nat) 0), z8, z9, z10, z11, z12]) (S1 := pS p (rQ4 q)) (sd_asg (ev_is (ev_call (ea_cons (ev_var rfl) (ea_cons (ev_var rfl) ea_nil)) (hT.de hP (Nat.le_refl N))) (by rw [Int.sub_self]))) ?_
      refine sd_seq (δ1 := [some (.fn a), some (.fn p), some (.int (0 + (i : Nat))), some (.lst ((shapeV q).map v2)), some (poly C_Polygon (shapeV q)), some (.int (rMany q)), some (p3 (pt N)), some (i2 (N : Nat) 0), z8, z9, z10, z11, z12]) (S1 := pS p (rQ4 q)) (sd_ifF (et_is (et_or (et_not (et_test (ev_isiT_tuple (ev_var rfl)))) (fun _ => et_or (et_not (et_test (ev_call (ea_cons (ev_ixT (ev_var rfl) ev_int rfl) (ea_cons ev_int (ea_cons (ev_pow ev_int ev_int ⟨by decide, by decide, by decide⟩) ea_nil))) ri_law_is_int))) (fun _ => et_test (ev_neS (ev_cb (ea_cons (ev_ixT (ev_var rfl) ev_int rfl) ea_nil) (cd_reprI (by decide))) ev_str)))) ?_) sd_next) ?_
      · have h1 : decide ((0 : Int) ≤ (N : Nat)) = true := decide_eq_true (by omega)
        have h10 : (10 : Int) ^ (60 : Int).toNat = 1000000000000000000000000000000000000000000000000000000000000 := by decide +kernel
        have h2 : decide (((N : Nat) : Int) ≤ 10 ^ (60 : Int).toNat) = true := by
          rw [h10]
          exact decide_eq_true (by omega)
        rw [h1, h2]
        decide +kernel
      refine sd_seq (δ1 := [some (.fn a), some (.fn p), some (.int (0 + (i : Nat))), some (.lst ((shapeV q).map v2)), some (poly C_Polygon (shapeV q)), some (.int (rMany q)), some (p3 (pt N)), some (i2 (N : Nat) 0), some (p3 (pt 0)), z9, z10, z11, z12]) (S1 := pS p (rQ4 q)) (sd_asg (ev_callX (ea_cons (ev_var rfl) (ea_cons (ev_var rfl) (ea_cons (ev_sub ev_int (ev_ixT (ev_var rfl) ev_int rfl)) ea_nil))) (hT.r hP (Nat.le_refl N) (Nat.zero_le N) (by omega)))) ?_
      have hprev : optP (prevL (shapeV q) (pt 0)) = .non := by unfold prevL; rw [hT.e0]; rfl
      have hnext : optP (nextL (shapeV q) (pt N)) = .non := by unfold nextL; rw [hT.eN]; rfl
      refine sd_seq (δ1 := [some (.fn a), some (.fn p), some (.int (0 + (i : Nat))), some (.lst ((shapeV q).map v2)), some (poly C_Polygon (shapeV q)), some (.int (rMany q)), some (p3 (pt N)), some (i2 (N : Nat) 0), some (p3 (pt 0)), z9, z10, z11, z12]) (S1 := pS p (rQ4 q)) (sd_ifF (et_is (et_or (et_test (ev_notN (ev_is (ev_call (ea_cons (ev_var rfl) (ea_cons (ev_var rfl) ea_nil)) (ri_law_previous hB (hT.ok 0 (Nat.zero_le N)).1.b)) hprev))) (fun _ => et_test (ev_notN (ev_is (ev_call (ea_cons (ev_var rfl) (ea_cons (ev_var rfl) ea_nil)) (ri_law_next hB (hT.ok N (Nat.le_refl N)).1.b)) hnext)))) rfl) sd_next) ?_
      refine sd_seq (δ1 := [some (.fn a), some (.fn p), some (.int (0 + (i : Nat))), some (.lst ((shapeV q).map v2)), some (poly C_Polygon (shapeV q)), some (.int (rMany q)), some (p3 (pt N)), some (i2 (N : Nat) 0), some (p3 (pt 0)), some (.int (rBack q N : Nat)), z10, z11, z12]) (S1 := pS p (rQ6 q)) (sds_asg (evs_is (evs_pen (eas_cons (EvD.s (ev_var rfl)) (eas_cons (evs_lst (eas_cons (EvD.s ev_int) (eas_cons (EvD.s (ev_ixT (ev_var rfl) ev_int rfl)) (eas_cons (EvD.s (ev_fdiv (ev_ixT (ev_var rfl) ev_int rfl) ev_int ⟨by decide, by decide⟩)) (eas_cons (evs_op (evs_pen (EvA.s (ea_cons (ev_var rfl) (ea_cons ev_int ea_nil))) ⟨p, rQ4 q, 31, 100 * i + 42, rfl, by decide, q4, by omega, rfl, rfl, rfl⟩) (EvD.s (ev_add (ev_ixT (ev_var rfl) ev_int rfl) ev_int)) (od_mod (by omega))) eas_nil))))) eas_nil)) ⟨p, rQ5 q, _, 100 * i + 73, rfl, Nat.le_of_ble_eq_true rfl, Nat.le_of_ble_eq_true rfl, q5, by omega, rfl, rfl, rfl⟩) (rBack_pick q N))) ?_
      have hh : N - rBack q N ≤ N := Nat.sub_le _ _
      have hhe : ((N - rBack q N : Nat) : Int) = (N : Int) - (rBack q N : Int) := Int.ofNat_sub hb
      refine sd_seq (δ1 := [some (.fn a), some (.fn p), some (.int (0 + (i : Nat))), some (.lst ((shapeV q).map v2)), some (poly C_Polygon (shapeV q)), some (.int (rMany q)), some (p3 (pt N)), some (i2 (N : Nat) 0), some (p3 (pt 0)), some (.int (rBack q N : Nat)), some (p3 (pt (N - rBack q N))), z11, z12]) (S1 := pS p (rQ6 q)) (sd_asg (ev_callX (ea_cons (ev_var rfl) (ea_cons (ev_var rfl) (ea_cons (ev_sub ev_int (ev_var rfl)) ea_nil))) (hT.r hP (Nat.le_refl N) hh (by omega)))) ?_
      refine sd_seq (δ1 := [some (.fn a), some (.fn p), some (.int (0 + (i : Nat))), some (.lst ((shapeV q).map v2)), some (poly C_Polygon (shapeV q)), some (.int (rMany q)), some (p3 (pt N)), some (i2 (N : Nat) 0), some (p3 (pt 0)), some (.int (rBack q N : Nat)), some (p3 (pt (N - rBack q N))), z11, z12]) (S1 := pS p (rQ6 q)) (sd_ifF (et_is (et_or (et_test (ev_neS (ev_cb (ea_cons (ev_is (y := i2 ((N : Int) - (rBack q N : Int)) (rBack q N : Nat)) (ev_call (ea_cons (ev_var rfl) (ea_cons (ev_var rfl) ea_nil)) (hT.de hP hh)) (by rw [hhe, show (N : Int) - ((N : Int) - (rBack q N : Int)) = (rBack q N : Nat) by omega])) ea_nil) (cd_repr2 (N_small nb (by omega) (by omega)) (N_small nb (by omega) (by omega)))) (ev_cb (ea_cons (ev_tup (ea_cons (ev_sub (ev_ixT (ev_var rfl) ev_int rfl) (ev_var rfl)) (ea_cons (ev_var rfl) ea_nil))) ea_nil) (cd_repr2 (N_small nb (by omega) (by omega)) (N_small nb (by omega) (by omega)))))) (fun _ => et_test (ev_notN (ev_call (ea_cons (ev_var rfl) (ea_cons (ev_var rfl) ea_nil)) (hT.po hP hh))))) (by rw [decide_eq_true rfl]; rfl)) sd_next) ?_
      refine sd_seq (δ1 := [some (.fn a), some (.fn p), some (.int (0 + (i : Nat))), some (.lst ((shapeV q).map v2)), some (poly C_Polygon (shapeV q)), some (.int (rMany q)), some (p3 (pt N)), some (i2 (N : Nat) 0), some (p3 (pt 0)), some (.int (rBack q N : Nat)), some (p3 (pt (N - rBack q N))), z11, z12]) (S1 := pS p (rQ6 q)) (sd_ifF (et_is (et_or (et_test (ev_neD (ev_callX (ea_cons (ev_var rfl) (ea_cons (ev_var rfl) (ea_cons (ev_var rfl) ea_nil))) (hT.r hP hh (Nat.le_refl N) (by omega))) (ev_var rfl) rfl rfl rfl rfl)) (fun _ => et_test (ev_neD (ev_callX (ea_cons (ev_var rfl) (ea_cons (ev_var rfl) (ea_cons (ev_sub (ev_ixT (ev_var rfl) ev_int rfl) (ev_var rfl)) ea_nil))) (hT.r hP (Nat.zero_le N) hh (by omega))) (ev_var rfl) rfl rfl rfl rfl))) (by rw [eqv_p3, eqv_p3]; rfl)) sd_next) ?_
      have x1 := hT.x2 (C_Polygon := C_Polygon) (C_Segment := C_Segment) (C_Orbit := C_Orbit) hP hb (Z := 1) (by decide) (by decide)
      have x2 := hT.x2 (C_Polygon := C_Polygon) (C_Segment := C_Segment) (C_Orbit := C_Orbit) hP hb (Z := 100000000000000000000000000000000000) (by decide) (by decide)
      have x3 := hT.x3 (C_Polygon := C_Polygon) (C_Segment := C_Segment) (C_Orbit := C_Orbit) hP hb
      have e35 : Da.int ((10 : Int) ^ (35 : Int).toNat) = .int 100000000000000000000000000000000000 := congrArg Da.int (by decide +kernel)
      refine sd_for (items := [i2 ((rBack q N : Int) + 1) (rBack q N : Nat), i2 ((rBack q N : Int) + 100000000000000000000000000000000000) (rBack q N : Nat), i2 ((rBack q N : Int) - (N : Int) - 1) ((N : Int) - (rBack q N : Int))]) (it_tup (ev_tup (ea_cons (ev_tup (ea_cons (ev_add (ev_var rfl) ev_int) (ea_cons (ev_var rfl) ea_nil))) (ea_cons (ev_tup (ea_cons (ev_add (ev_var rfl) (ev_is (ev_pow ev_int ev_int ⟨by decide, by decide, by decide⟩) e35)) (ea_cons (ev_var rfl) ea_nil))) (ea_cons (ev_tup (ea_cons (ev_sub (ev_sub (ev_var rfl) (ev_ixT (ev_var rfl) ev_int rfl)) ev_int) (ea_cons (ev_sub (ev_ixT (ev_var rfl) ev_int rfl) (ev_var rfl)) ea_nil))) ea_nil))))) ?_
      refine .next (δ1 := [some (.fn a), some (.fn p), some (.int (0 + (i : Nat))), some (.lst ((shapeV q).map v2)), some (poly C_Polygon (shapeV q)), some (.int (rMany q)), some (p3 (pt N)), some (i2 (N : Nat) 0), some (p3 (pt 0)), some (.int (rBack q N : Nat)), some (p3 (pt (N - rBack q N))), some (.int ((rBack q N : Int) + 1)), some (.int (rBack q N : Nat))]) (gd_tup (gds_cons gd_name (gds_cons gd_name gds_nil))) (sd_ifF (et_is (et_test (ev_neS (ev_cb (ea_cons (ev_lam (ea_cons (ev_var rfl) (ea_cons (ev_var rfl) (ea_cons (ev_var rfl) ea_nil))) x1) ea_nil) (cd_reprU (N_small nb (by omega) (by omega)))) (ev_cb (ea_cons (ev_tup (ea_cons ev_str (ea_cons (ev_var rfl) (ea_cons ev_bl ea_nil)))) ea_nil) (cd_reprU (N_small nb (by omega) (by omega)))))) (by rw [decide_eq_true rfl]; rfl)) sd_next) ?_
      refine .next (δ1 := [some (.fn a), some (.fn p), some (.int (0 + (i : Nat))), some (.lst ((shapeV q).map v2)), some (poly C_Polygon (shapeV q)), some (.int (rMany q)), some (p3 (pt N)), some (i2 (N : Nat) 0), some (p3 (pt 0)), some (.int (rBack q N : Nat)), some (p3 (pt (N - rBack q N))), some (.int ((rBack q N : Int) + 100000000000000000000000000000000000)), some (.int (rBack q N : Nat))]) (gd_tup (gds_cons gd_name (gds_cons gd_name gds_nil))) (sd_ifF (et_is (et_test (ev_neS (ev_cb (ea_cons (ev_lam (ea_cons (ev_var rfl) (ea_cons (ev_var rfl) (ea_cons (ev_var rfl) ea_nil))) x2) ea_nil) (cd_reprU (N_small nb (by omega) (by omega)))) (ev_cb (ea_cons (ev_tup (ea_cons ev_str (ea_cons (ev_var rfl) (ea_cons ev_bl ea_nil)))) ea_nil) (cd_reprU (N_small nb (by omega) (by omega)))))) (by rw [decide_eq_true rfl]; rfl)) sd_next) ?_
      exact .next (δ1 := [some (.fn a), some (.fn p), some (.int (0 + (i : Nat))), some (.lst ((shapeV q).map v2)), some (poly C_Polygon (shapeV q)), some (.int (rMany q)), some (p3 (pt N)), some (i2 (N : Nat) 0), some (p3 (pt 0)), some (.int (rBack q N : Nat)), some (p3 (pt (N - rBack q N))), some (.int ((rBack q N : Int) - (N : Int) - 1)), some (.int ((N : Int) - (rBack q N : Int)))]) (gd_tup (gds_cons gd_name (gds_cons gd_name gds_nil))) (sd_ifF (et_is (et_test (ev_neS (ev_cb (ea_cons (ev_lam (ea_cons (ev_var rfl) (ea_cons (ev_var rfl) (ea_cons (ev_var rfl) ea_nil))) x3) ea_nil) (cd_reprU (N_small nb (by omega) (by omega)))) (ev_cb (ea_cons (ev_tup (ea_cons ev_str (ea_cons (ev_var rfl) (ea_cons ev_bl ea_nil)))) ea_nil) (cd_reprU (N_small nb (by omega) (by omega)))))) (by rw [decide_eq_true rfl]; rfl)) sd_next) .nil
    · rintro δ S ⟨q, z2, z3, z4, z5, z6, z7, z8, z9, z10, z11, z12, hq, rfl, rfl⟩
      exact sd_ret ev_bl
  · exact .cons (.fn a) (.cons (.fn p) (.skip (.skip (.skip (.skip (.skip (.skip (.skip (.skip (.skip (.skip (.skip .nil))))))))))))
  · exact fun F2 H2 g2 v r2 => by cases r2; rfl

end
end O26
set_option Elab.async false
set_option linter.all false
set_option maxRecDepth 100000
set_option maxHeartbeats 4000000
namespace O26
open PySem PySem.Spec PyProof.Rows L2 LamX
/-! a lambda with one parameter, which lies in a cell; one captured name -/
theorem env_one {M : Model} {A : Around} {E : Value → Shared → Prop} {s : Shared} {scope : Scope} {x y z : Str} {cl : List (Str × Addr)} {v : Value} {qual : Str} {func : Option Addr} {code : Value} {Q : Env → Shared → Prop} (hk : scope.kind = .function)
    (hn : scope.names = [(x, .cell), (y, .free), (z, .globalImplicit)])
    (hQ : ∀ h' tk, h'.Ns s.heap.objs.size (fun _ => none) → h'.IsCell (s.heap.objs.size + 1) (some v) → (∀ b o, s.heap.get? b = some o → h'.get? b = some o) →
      Q (newEnv scope s.heap.objs.size mainGlobals ((x, s.heap.objs.size + 1) :: cl) qual func code none builtinsNs) { s with heap := h', toks := tk }) :
    wpAny M A (newFunctionEnv scope mainGlobals cl [(x, v)] qual func code none builtinsNs) Q E s := by
  simp only [newFunctionEnv, Option.isSome_none, Bool.false_eq_true, if_false]
  refine wpAny_bind (wpAny_alloc ?_)
  refine wpAny_bind (wpAny_layCells _ (fun name kind cells => by cases hkc : kind == NameKind.cell <;> simp [hkc]) _ _ _ _ ?_)
  have hsz : ({ s with heap := s.heap.push { cls := .type "frame", data := .dict #[] } } : Shared).heap.objs.size = s.heap.objs.size + 1 := Heap.size_push ..
  rw [hsz, hn]
  show wpAny M A (do
    for (name, v) in [(x, v)] do
      storeName (newEnv scope s.heap.objs.size mainGlobals ((x, s.heap.objs.size + 1) :: cl) qual func code none builtinsNs) name v
    return (newEnv scope s.heap.objs.size mainGlobals ((x, s.heap.objs.size + 1) :: cl) qual func code none builtinsNs)) Q E _
  have hkc : (newEnv scope s.heap.objs.size mainGlobals ((x, s.heap.objs.size + 1) :: cl) qual func code none builtinsNs).kindOf x = some .cell := by
    show scope.names.lookup x = some .cell
    rw [hn]
    simp
  have hc : (newEnv scope s.heap.objs.size mainGlobals ((x, s.heap.objs.size + 1) :: cl) qual func code none builtinsNs).cells.lookup x = some (s.heap.objs.size + 1) := by
    show ((x, s.heap.objs.size + 1) :: cl).lookup x = _
    simp
  simp only [List.forIn_cons, List.forIn_nil]
  have hcell : (pushCells (s.heap.push { cls := .type "frame", data := .dict #[] }) [(x, NameKind.cell), (y, .free), (z, .globalImplicit)]).IsCell (s.heap.objs.size + 1) none := by
    show ((s.heap.push { cls := .type "frame", data := .dict #[] }).push { cls := .type "cell", data := .cell none }).IsCell (s.heap.objs.size + 1) none
    have q : ((s.heap.push { cls := .type "frame", data := .dict #[] }).push { cls := .type "cell", data := .cell none }).get? (s.heap.push { cls := .type "frame", data := .dict #[] }).objs.size = some { cls := .type "cell", data := .cell none } := Heap.get?_push_size _ rfl
    rw [Heap.size_push] at q
    exact ⟨_, q, rfl⟩
  have hold : ∀ b o, s.heap.get? b = some o → (pushCells (s.heap.push { cls := .type "frame", data := .dict #[] }) [(x, NameKind.cell), (y, .free), (z, .globalImplicit)]).get? b = some o := fun b o e => pushCells_keeps _ _ b o (Heap.get?_push_of_some _ e)
  refine wpAny_bind (wpAny_bind (wpAny_bind (wpAny_storeName_cell hk hkc hc hcell fun h' hc' hs' => ?_)))
  refine wpAny_pure (wpAny_pure (wpAny_pure (hQ h' _ ?_ hc' fun b o e => ?_)))
  · exact ((Heap.Ns.new s.heap (.type "frame")).keeps (pushCells_keeps _ _)).sameBut hs' (Nat.ne_of_lt (Nat.lt_succ_self _))
  · exact hs'.extBut b o (Nat.ne_of_lt (Nat.lt_succ_of_lt (Heap.lt_size e))) (hold b o e)
end O26
set_option Elab.async false
set_option linter.all false
set_option maxRecDepth 100000
set_option maxHeartbeats 4000000
namespace O26
open PySem PySem.Spec PyProof.Rows L2 LamX
/-- its names: the parameter x, in a cell; the captured y; one global -/
structure L1S (sc scope : Scope) (x y z : Str) : Prop where
  kind : scope.kind = .function
  co : scope.isCoroutine = false
  gen : scope.isGenerator = false
  nm : scope.names = [(x, .cell), (y, .free), (z, .globalImplicit)]
  xy : x ≠ y
  zx : z ≠ x
  zy : z ≠ y
  out : sc.names.lookup y = some .cell
abbrev lam1Env (X : Cx) (scope : Scope) (x : Str) (L f c' : Addr) : Env := newEnv scope L mainGlobals ((x, L + 1) :: cloFrom X.env.cells scope.names []) (X.env.qual ++ "<lambda>" ++ ".<locals>.") (some f) (.ref c') none builtinsNs
def lam1Cx (X : Cx) (A : Around) (outer : List Env) (s : Shared) (H : Hp) (scope : Scope) (x : Str) (f c' : Addr) : Cx where
  prog := X.prog
  w := X.w
  K := X.K
  mg := X.mg
  base := X.base
  A := A.deeper (lam1Env X scope x s.heap.objs.size f c')
  N := X.N
  s_0 := s
  H_0 := H
  env := lam1Env X scope x s.heap.objs.size f c'
  outer := outer
  stack := lam1Env X scope x s.heap.objs.size f c' :: outer
  ex := []
  fn := fun _ => false
  calm := true
  pn := []
  xe := fun e s' => wpAny (model X.prog X.w) (A.deeper (lam1Env X scope x s.heap.objs.size f c')) (leaving (lam1Env X scope x s.heap.objs.size f c') e) (fun _ s'' => False) (fun e' s'' => False) s'
section
variable {X : Cx} {pins : List (Addr × Obj)} {σ : L2.St} {H HZ : Hp} {s s1 : Shared}
theorem lam1_start {A : Around} {outer : List Env} {scope : Scope} {x y z : Str} {f c' : Addr} {h₁ : Heap} {tk k : Nat} {v : V} {u : Value} (I : Inv X pins σ H s) (L : L1S X.env.scope scope x y z) (e0 : Env0 X.prog X.w X.K X.mg X.base A outer s1 HZ) (hd : A.handled = none)
    (un : Un (frs X.stack) [] H HZ s.heap s1.heap) (hN : X.N.Nodup) (hk : X.N[k]? = some x) (rv : L2.RelV v u) (hns : h₁.Ns s1.heap.objs.size fun _ => none) (hc1 : h₁.IsCell (s1.heap.objs.size + 1) (some u)) (kp : ∀ b o, s1.heap.get? b = some o → h₁.get? b = some o) :
    Inv (lam1Cx X A outer s1 HZ scope x f c') [] (σ.set k (some v)) HZ { s1 with heap := h₁, toks := tk } := by
  have hfree : ∀ n ∈ scope.names, n.2 = .free → ∃ c, X.env.cells.lookup n.1 = some c := fun n hn e => by
    rw [L.nm] at hn
    simp only [List.mem_cons, List.mem_nil_iff, or_false] at hn
    rcases hn with rfl | rfl | rfl
    · cases e
    · exact I.ok.has _ (.inl L.out)
    · cases e
  have cm : ∀ {y c}, (cloFrom X.env.cells scope.names []).lookup y = some c → X.env.cells.lookup y = some c := fun {y c} e => by
    rcases cloFrom_mem (PySem.mem_of_lookup e) with hm | ⟨h1, h2⟩
    · cases hm
    · obtain ⟨c1, hc⟩ := hfree _ h1 rfl
      have hc : X.env.cells.lookup y = some c1 := hc
      have e2 : c = c1 := by
        rw [h2, hc] <;> rfl
      rw [e2]
      exact hc
  obtain ⟨cy, hcy⟩ : ∃ c, (cloFrom X.env.cells scope.names []).lookup y = some c := mem_lookup (cloFrom_has (cells := X.env.cells) (acc := []) (by rw [L.nm]; simp))
  have cellK : ∀ {c : Addr} {v : Option Value}, H c = none → s.heap.IsCell c v → h₁.IsCell c v := fun {c v} n ⟨o, ho, hd⟩ => by
    obtain ⟨sl, q⟩ := un.any ho n (by simp)
    exact ⟨_, kp _ _ q, hd⟩
  have noA : ∀ b : Addr, b ∉ (lam1Cx X A outer s1 HZ scope x f c').ex := fun b z => absurd (show b ∈ ([] : List Addr) from z) (by simp)
  have lt1 : ∀ {n c}, X.env.cells.lookup n = some c → c < s1.heap.objs.size := fun {n c} e => by
    obtain ⟨v, o, ho, _⟩ := I.cell n c e
    obtain ⟨sl, q⟩ := un.any ho (I.freeC n c e) (by simp)
    exact Heap.lt_size q
  have look : ∀ {n c}, ((x, s1.heap.objs.size + 1) :: cloFrom X.env.cells scope.names []).lookup n = some c → (n = x ∧ c = s1.heap.objs.size + 1) ∨ (n ≠ x ∧ X.env.cells.lookup n = some c) := fun {n c} e => by
    rw [List.lookup_cons] at e
    by_cases h : n = x
    · subst h
      simp at e
      exact .inl ⟨rfl, e.symm⟩
    · rw [show (n == x) = false from beq_eq_false_iff_ne.mpr h] at e
      exact .inr ⟨h, cm e⟩
  have hx : ((x, s1.heap.objs.size + 1) :: cloFrom X.env.cells scope.names []).lookup x = some (s1.heap.objs.size + 1) := by simp
  have hy : ((x, s1.heap.objs.size + 1) :: cloFrom X.env.cells scope.names []).lookup y = some cy := by
    rw [List.lookup_cons, show (y == x) = false from beq_eq_false_iff_ne.mpr (Ne.symm L.xy)]
    exact hcy
  have lkx : scope.names.lookup x = some .cell := by rw [L.nm]; simp
  have lky : scope.names.lookup y = some .free := by
    rw [L.nm, List.lookup_cons, show (y == x) = false from beq_eq_false_iff_ne.mpr (Ne.symm L.xy)]
    simp
  have lkn : ∀ n, scope.names.lookup n ≠ none → n = x ∨ n = y ∨ n = z := fun n h => by
    rw [L.nm] at h
    by_cases h1 : n = x
    · exact .inl h1
    by_cases h2 : n = y
    · exact .inr (.inl h2)
    by_cases h3 : n = z
    · exact .inr (.inr h3)
    rw [List.lookup_cons, show (n == x) = false from beq_eq_false_iff_ne.mpr h1, List.lookup_cons, show (n == y) = false from beq_eq_false_iff_ne.mpr h2, List.lookup_cons, show (n == z) = false from beq_eq_false_iff_ne.mpr h3] at h
    exact absurd rfl h
  have lkz : scope.names.lookup z = some .globalImplicit := by
    rw [L.nm, List.lookup_cons, show (z == x) = false from beq_eq_false_iff_ne.mpr L.zx, List.lookup_cons, show (z == y) = false from beq_eq_false_iff_ne.mpr L.zy]
    simp
  have seen : ∀ n, scope.names.lookup n = some .cell ∨ scope.names.lookup n = some .free → n = x ∨ n = y := fun n h => by
    rcases lkn n (by rcases h with e | e <;> rw [e] <;> simp) with q | q | q
    · exact .inl q
    · exact .inr q
    · rw [q, lkz] at h
      rcases h with e | e <;> cases e
  refine ⟨⟨e0.mod, L.kind, rfl, rfl, Nat.le_refl _, fun a b c e1 e2 => ?_, fun n hn => ?_, fun n c z _ => ?_, fun _ => hd, Around.frames_deeper e0.frames, .inr ⟨rfl, rfl⟩, fun b z => absurd z (noA b), e0.bs, e0.bsz, fun b _ _ => noA b,
      fun b z => absurd z (noA b), e0.funs, e0.frf⟩,
    rfl, e0.bare, Un.kept kp, ⟨_, hns, fun i n w e1 e2 e3 => ?_⟩, fun n c e => ?_, e0.hok.fresh (Nat.le_refl _), fun n c e => ?_, fun q hq => absurd (show q ∈ ([] : List (Addr × Obj)) ++ [] from hq) (by simp), e0.hok.kept kp, ?_⟩
  · rcases look e1 with ⟨a1, a2⟩ | ⟨a1, a2⟩
    · rcases look e2 with ⟨b1, b2⟩ | ⟨b1, b2⟩
      · rw [a1, b1]
      · exact absurd (lt1 b2) (by rw [a2]; exact Nat.not_lt_of_le (Nat.le_succ _))
    · rcases look e2 with ⟨b1, b2⟩ | ⟨b1, b2⟩
      · exact absurd (lt1 a2) (by rw [b2]; exact Nat.not_lt_of_le (Nat.le_succ _))
      · exact I.ok.inj a b c a2 b2
  · rcases seen n hn with q | q
    · rw [q]; exact ⟨_, hx⟩
    · rw [q]; exact ⟨_, hy⟩
  · have z : false = true := z
    cases z
  · have e3 : Vis scope n := e3
    have nl : scope.names.lookup n ≠ some .local := fun h => by
      rcases lkn n (by rw [h]; simp) with q | q | q
      · rw [q, lkx] at h; cases h
      · rw [q, lky] at h; cases h
      · rw [q, lkz] at h; cases h
    rcases seen n (e3.elim (fun h => absurd h nl) id) with q | q
    · subst q
      have hik : i = k := nodup_ix hN e1 hk
      subst hik
      have hl : i < σ.length := by
        have := I.len
        have := (List.getElem?_eq_some_iff.mp e1).1
        rw [I.len]; exact this
      rw [List.getElem?_set_self hl] at e2
      cases e2
      exact ⟨u, rv, .inr ⟨.inl lkx, _, hx, hc1⟩⟩
    · subst q
      have hik : k ≠ i := fun z => by
        rw [z] at hk
        have e1' : X.N[i]? = some n := e1
        rw [e1'] at hk
        exact L.xy (Option.some.inj hk).symm
      rw [List.getElem?_set_ne hik] at e2
      obtain ⟨m, hn, hl⟩ := I.loc
      obtain ⟨w', r, q⟩ := hl i n w e1 e2 (.inr (.inl L.out))
      refine ⟨w', r, .inr ⟨.inr lky, _, hy, ?_⟩⟩
      have c1 := cm hcy
      rcases q with ⟨k', _⟩ | ⟨_, c3, e', z⟩
      · have k' : X.env.scope.names.lookup n = some .local := k'
        rw [L.out] at k'; cases k'
      · rw [c1] at e'
        cases e'
        exact cellK (I.freeC n _ c1) z
  · rcases look e with ⟨a1, a2⟩ | ⟨a1, a2⟩
    · rw [a2]; exact ⟨_, hc1⟩
    · obtain ⟨w', z⟩ := I.cell n c a2
      exact ⟨w', cellK (I.freeC n c a2) z⟩
  · rcases look e with ⟨a1, a2⟩ | ⟨a1, a2⟩
    · rw [a2]; exact e0.hok.fresh (Nat.le_succ _)
    · obtain ⟨v, o, ho, hd⟩ := I.cell n c a2
      exact un.free c o ho (I.freeC n c a2) (by simp)
  · rw [List.length_set]; exact I.len
end
end O26
set_option Elab.async false
set_option linter.all false
set_option maxRecDepth 100000
set_option maxHeartbeats 4000000
namespace O26
open PySem PySem.Spec PyProof.Rows PySem.W
/-! sorted(xs, key=f) where f's calls keep a claim J of the state; its own objects are told by their places -/
section
variable {prog : Program} {w : World} {A : Around} {E : Value → Shared → Prop}
theorem upd_old {h : Heap} {a b : Addr} {o : Obj} {g : Obj → Obj} (n : b ≠ a) (q : h.get? b = some o) : (h.update a g).get? b = some o := by
  rw [Heap.get?_update_ne _ _ _ _ n]; exact q
theorem freed_none (h : Heap) (a : Addr) : (h.update a fun o => { o with data := .freed }).get? a = none := by
  cases h with
  | mk objs l =>
    simp only [Heap.update, Heap.get?, Array.getElem?_modify, if_true]
    cases objs[a]? <;> rfl
theorem ints_reads {h : Heap} : ∀ {l : List Value} {ns : List Int}, IntsAre l ns → EachIs (fun v k => ∃ as, Reads h v k as) l (ns.map PyData.int)
  | _, _, .nil => .nil
  | _, _, .cons n t r => .cons ⟨[], .int n t⟩ (ints_reads r)
/-- all that is claimed of a run with objects of its own -/
structure OwnJ (J : List Addr → Shared → Prop) : Prop where
  has : ∀ {ow : List Addr} {s : Shared}, J ow s → ∀ b ∈ ow, ∃ o, s.heap.get? b = some o
  kept : ∀ {ow : List Addr} {s : Shared} {h' : Heap} {tk : Nat}, J ow s → (∀ b o, b ∉ ow → s.heap.get? b = some o → h'.get? b = some o) → (∀ b ∈ ow, ∃ o, h'.get? b = some o) → J ow { s with heap := h', toks := tk }
  more : ∀ {ow : List Addr} {s : Shared} {h' : Heap} {tk : Nat} {x : Addr}, J ow s → (∀ b o, s.heap.get? b = some o → h'.get? b = some o) → s.heap.objs.size ≤ x → (∃ o, h'.get? x = some o) → J (x :: ow) { s with heap := h', toks := tk }
theorem OwnJ.upd {J : List Addr → Shared → Prop} (OJ : OwnJ J) {ow : List Addr} {s : Shared} {a : Addr} {g : Obj → Obj} {o : Obj} (j : J ow s) (m : a ∈ ow) (e : (s.heap.update a g).get? a = some o) : J ow { s with heap := s.heap.update a g, toks := s.toks } :=
  OJ.kept (tk := s.toks) j (fun b o nb q => upd_old (fun z => nb (z ▸ m)) q) fun b hb => by
    by_cases z : b = a
    · rw [z]; exact ⟨o, e⟩
    · obtain ⟨u, q⟩ := OJ.has j b hb
      exact ⟨u, upd_old z q⟩
theorem OwnJ.all {J : List Addr → Shared → Prop} (OJ : OwnJ J) {ow : List Addr} {s : Shared} {h' : Heap} {tk : Nat} (j : J ow s) (k : ∀ b o, s.heap.get? b = some o → h'.get? b = some o) : J ow { s with heap := h', toks := tk } :=
  OJ.kept (tk := tk) j (fun b o _ q => k b o q) fun b hb => (OJ.has j b hb).elim fun o q => ⟨o, k b o q⟩
theorem rest_own {J : List Addr → Shared → Prop} (OJ : OwnJ J) {s : Shared} {D kS : Addr} {e1 : Nat} {f : Value} {vs : List Value} {kz : List Int} {P : PySem.Fin → Shared → Prop} {ow : List Addr}
    (hkD : kS ≠ D) (mk : kS ∈ ow) (mD : D ∈ ow) (j0 : J ow s) (g0 : s.heap.get? kS = some (seqObj "list" #[] 0)) (d0 : s.heap.get? D = some (seqObj "list" #[] e1)) (hlen : kz.length = vs.length) (hz : vs.length ≤ sizeLine) (hu : A.units < cLine)
    (turn : ∀ (ow : List Addr) (i : Nat) (v : Value) (n : Int) (s1 : Shared), vs[i]? = some v → kz[i]? = some n → J ow s1 → wpAny (model prog w) A (call f [v]) (fun u s2 => (∃ t, u = .int n t) ∧ J ow s2 ∧ ∀ x ∈ ow, ∀ o, s1.heap.get? x = some o → s2.heap.get? x = some o) (fun _ _ => False) s1)
    (fin : ∀ ow s1 h' tk out c, J ow s1 → D ∈ ow → (∀ b o, b ∉ ow → s1.heap.get? b = some o → h'.get? b = some o) → h'.get? D = some (seqObj "list" (List.toArray out) c) → KeyedOut false (kz.map PyData.int) vs out → P (.done (.ret .none)) { s1 with heap := h', toks := tk }) :
    wpAny (model prog w) A (ksk_rest D f false vs.toArray e1 (.ref kS)) P E s := by
  unfold ksk_rest
  refine wpAny_bind (wpAny_rule ?_)
  rw [← Array.forIn_toList]
  simp only [List.toList_toArray]
  refine wpAny_bind (ksk_fold (fun i s1 => ∃ kA e, (J ow s1 ∧ IntsAre kA.toList (kz.take i)) ∧ s1.heap.get? kS = some (seqObj "list" kA e) ∧ s1.heap.get? D = some (seqObj "list" #[] e1)) vs 0 s ⟨#[], 0, ⟨j0, by rw [List.take_zero]; exact .nil⟩, g0, d0⟩ ?a ?b)
  case a =>
    rintro i v s1 hv ⟨kA, e, ⟨j1, ik⟩, g1, d1⟩
    rw [Nat.zero_add] at ik
    rw [Nat.zero_add]
    have hi : i < vs.length := (List.getElem?_eq_some_iff.mp hv).1
    have hn : kz[i]? = some (kz[i]'(by omega)) := List.getElem?_eq_getElem (by omega)
    have hs : kA.size ≤ vs.length := by
      have := ik.length
      rw [Array.length_toList, List.length_take] at this
      omega
    refine wpAny_bind (wpAny_attempt (wpAny_mono (turn ow i v _ s1 hv hn j1) (fun u s2 hq => ?_) fun _ _ z => False.elim z))
    obtain ⟨⟨t, rfl⟩, j2, k2⟩ := hq
    have g2 := k2 kS mk _ g1
    have d2 := k2 D mD _ d1
    have ext := get?_update_seq g2 (·.push (Value.int (kz[i]'(by omega)) t))
    refine wpAny_bind (listUpdate_at g2 rfl ?_ (Nat.le_trans hs hz) (Nat.le_trans (Nat.le_of_eq (Array.size_push _)) (Nat.succ_le_succ (Nat.le_trans hs hz))))
    have ek : (kA.push (Value.int (kz[i]'(by omega)) t)).toList = kA.toList ++ [Value.int (kz[i]'(by omega)) t] := by simp
    refine wpAny_pure ⟨rfl, _, _, ⟨OJ.upd j2 mk ext, ?_⟩, ext, upd_old hkD.symm d2⟩
    rw [ek, List.take_add_one, hn]
    exact ksk_snoc ik
  case b =>
    rintro s1 ⟨kA, e, ⟨j1, ik⟩, g1, d1⟩
    have ik : IntsAre kA.toList kz := by
      rw [List.take_of_length_le (by omega)] at ik
      exact ik
    have hs : kA.size = vs.length := by
      have := ik.length
      rw [Array.length_toList] at this
      omega
    refine wpAny_bind (listItems_at g1 rfl ?_)
    have ei := ints_reads (h := s1.heap) ik
    have al : AllAlike (kz.map PyData.int) := fun d hd d' hd' => by
      obtain ⟨n, _, rfl⟩ := List.mem_map.mp hd
      obtain ⟨n', _, rfl⟩ := List.mem_map.mp hd'
      rfl
    have st : Sortable (kz.map PyData.int) := .inr fun d hd => by
      obtain ⟨n, _, rfl⟩ := List.mem_map.mp hd
      exact ⟨nofun, nofun⟩
    have hd : ∀ d, d ∈ kz.map PyData.int → A.units + d.depth < cLine := fun d hd => by
      obtain ⟨n, _, rfl⟩ := List.mem_map.mp hd
      exact hu
    have hole : ∀ b o, b ≠ kS → ((s1.heap.update kS fun o => { o with data := .freed }).get? b = some o ↔ s1.heap.get? b = some o) := fun b o nb => by rw [Heap.get?_update_ne _ _ _ _ nb]
    have none_ : (s1.heap.update kS fun o => { o with data := .freed }).get? kS = none := freed_none _ _
    refine keyH_end (κ := dataKind s1.heap (kz.map PyData.int)) (h₁ := s1.heap.update kS fun o => { o with data := .freed }) (fun b o nb q => ?_) none_ g1 d1 hkD (SortsAt.data ei al st hd) hs hz fun h' tk c kp gD => ?_
    · by_cases z : b = kS
      · rw [z, none_] at q; cases q
      · exact (hole b o z).mp q
    · exact fin ow s1 h' tk _ c j1 mD (fun b o nb q => kp b o (fun z => nb (z ▸ mD)) ((hole b o fun z => nb (z ▸ mk)).mpr q)) gD ⟨s1.heap, kA.toList, al, rfl, ei⟩
theorem tree_own {J : List Addr → Shared → Prop} (OJ : OwnJ J) {s : Shared} {D : Addr} {c0 : Nat} {f : Value} {vs : List Value} {kz : List Int} {P : PySem.Fin → Shared → Prop} {ow : List Addr}
    (mD : D ∈ ow) (j0 : J ow s) (d0 : s.heap.get? D = some (seqObj "list" vs.toArray c0)) (hlen : kz.length = vs.length) (hz : vs.length ≤ sizeLine) (hu : A.units < cLine)
    (turn : ∀ (ow : List Addr) (i : Nat) (v : Value) (n : Int) (s1 : Shared), vs[i]? = some v → kz[i]? = some n → J ow s1 → wpAny (model prog w) A (call f [v]) (fun u s2 => (∃ t, u = .int n t) ∧ J ow s2 ∧ ∀ x ∈ ow, ∀ o, s1.heap.get? x = some o → s2.heap.get? x = some o) (fun _ _ => False) s1)
    (fin : ∀ ow s1 h' tk out c, J ow s1 → D ∈ ow → (∀ b o, b ∉ ow → s1.heap.get? b = some o → h'.get? b = some o) → h'.get? D = some (seqObj "list" (List.toArray out) c) → KeyedOut false (kz.map PyData.int) vs out → P (.done (.ret .none)) { s1 with heap := h', toks := tk }) :
    wpAny (model prog w) A (ksk_tree D f false) P E s := by
  have lt := Heap.lt_size d0
  have d1 := get?_update_seq d0 fun _ => (#[] : Array Value)
  have sz : ((s.heap.update D (Obj.mapSeq fun _ => (#[] : Array Value))).push (seqObj "tuple" vs.toArray 0)).objs.size = s.heap.objs.size + 1 := by rw [size_push', Heap.size_update]
  unfold ksk_tree
  refine wpAny_bind (listItems_at d0 rfl (wpAny_bind (listUpdate_at d0 rfl ?_ (by rw [List.size_toArray]; exact hz) (Nat.zero_le _))))
  refine wpAny_bind (seqEpoch_at d1 rfl (wpAny_bind (wpAny_newTuple ?_ (show vs.length ≤ sizeLine from hz))))
  refine wpAny_bind (wpAny_newList ?_ (Nat.zero_le _))
  refine wpAny_holding ?_
  have j1 := OJ.upd j0 mD d1
  have j2 := OJ.all (tk := s.toks) (h' := (s.heap.update D (Obj.mapSeq fun _ => (#[] : Array Value))).push (seqObj "tuple" vs.toArray 0)) j1 fun b o q => Heap.get?_push_of_some _ q
  have j4 := OJ.more (tk := s.toks) (x := ((s.heap.update D (Obj.mapSeq fun _ => (#[] : Array Value))).push (seqObj "tuple" vs.toArray 0)).objs.size) (h' := ((s.heap.update D (Obj.mapSeq fun _ => (#[] : Array Value))).push (seqObj "tuple" vs.toArray 0)).push (seqObj "list" #[] 0)) j2
    (fun b o q => Heap.get?_push_of_some _ q) (Nat.le_refl _) ⟨_, Heap.get?_push_size _ rfl⟩
  exact rest_own OJ (kS := ((s.heap.update D (Obj.mapSeq fun _ => (#[] : Array Value))).push (seqObj "tuple" vs.toArray 0)).objs.size) (by rw [sz]; exact Nat.ne_of_gt (Nat.lt_succ_of_lt lt)) List.mem_cons_self (List.mem_cons_of_mem _ mD) j4 (Heap.get?_push_size _ rfl)
    (Heap.get?_push_of_some _ (Heap.get?_push_of_some _ d1)) hlen hz hu turn fin
theorem sorted_own {J : List Addr → Shared → Prop} (OJ : OwnJ J) {s : Shared} {l g : Addr} {vs : List Value} {kz : List Int} {Q : Value → Shared → Prop}
    (j0 : J [] s) (hl : s.heap.IsList l vs.toArray) (hlen : kz.length = vs.length) (hz : vs.length ≤ sizeLine) (hu : A.in1.in1.units < cLine)
    (turn : ∀ (ow : List Addr) (i : Nat) (v : Value) (n : Int) (s1 : Shared), vs[i]? = some v → kz[i]? = some n → J ow s1 → wpAny (model prog w) A.in1.in1 (call (.ref g) [v]) (fun u s2 => (∃ t, u = .int n t) ∧ J ow s2 ∧ ∀ x ∈ ow, ∀ o, s1.heap.get? x = some o → s2.heap.get? x = some o) (fun _ _ => False) s1)
    (fin : ∀ ow s1 D h' tk out c, J ow s1 → D ∈ ow → (∀ b o, b ∉ ow → s1.heap.get? b = some o → h'.get? b = some o) → h'.get? D = some (seqObj "list" (List.toArray out) c) → KeyedOut false (kz.map PyData.int) vs out → Q (.ref D) { s1 with heap := h', toks := tk }) :
    wpAny (model prog w) A (call (.builtin "sorted") [.ref l] [(Str.ofString "key", .ref g)]) Q E s := by
  refine sorted_of_sort hl hz (ksk_s1 _ _) (fun _ => ksk_l1 _ _) fun E' => ?_
  rw [ksk_t1]
  have j2 := OJ.more (tk := s.toks) (x := s.heap.objs.size + 1) (h' := copyHeap s.heap vs) j0 (fun b o q => copyHeap_old q) (Nat.le_succ _) ⟨_, copyHeap_at s.heap vs⟩
  exact tree_own OJ List.mem_cons_self j2 (copyHeap_at s.heap vs) hlen hz hu turn fun ow s2 h' tk out c j m kp d k => ⟨rfl, fin ow s2 _ h' tk out c j m kp d k⟩
end
end O26
set_option Elab.async false
set_option linter.all false
set_option maxRecDepth 100000
set_option maxHeartbeats 4000000
namespace O26
open PySem PySem.Spec PyProof.Rows L2 LamX
/-! sorted(xs, key=lambda x: ..) -/
section
variable {X : Cx} {pins : List (Addr × Obj)} {σ : L2.St} {H : Hp} {s : Shared}
theorem lam1_act {A : Around} {Q : VK} {scope : Scope} {x y z : Str} {f c' : Addr} {pm ctv : Value} {params : Arguments} {body : Expr} {k j : Nat} {v : V} {u : Value} {tb : TE} (I : Inv X pins σ H s) (L : L1S X.env.scope scope x y z)
    (e0 : Env0 X.prog X.w X.K X.mg X.base A X.stack s H) (hr : Room (k + 1) A) (hN : X.N.Nodup) (hj : X.N[j]? = some x)
    (hf : s.heap.get? f = some (PySem.W.kla_obj "<lambda>" (X.env.qual ++ "<lambda>") params body scope (cloFrom X.env.cells scope.names []) pm c' ctv)) (hc : H c' = some (CodeO c' (X.env.qual ++ "<lambda>")))
    (hbind : bindArgs (PySem.W.kla_fn "<lambda>" (X.env.qual ++ "<lambda>") params body scope (cloFrom X.env.cells scope.names []) pm (.ref c') ctv) ⟨[u], []⟩ = pure [(x, u)])
    (hbody : ∀ (A : Around) (outer : List Env) (s : Shared) (H : Hp), Room k (A.deeper (lam1Env X scope x s.heap.objs.size f c')) → PE (lam1Cx X A outer s H scope x f c') body tb)
    (rv : L2.RelV v u) (ht : tb (σ.set j (some v)) H Q) : wpAny (model X.prog X.w) A (call (.ref f) [u]) (CE X.stack X.prog X.w H s Q) (fun _ _ => False) s := by
  obtain ⟨⟨oc, vs, t, hoc, hdc, hvc⟩, _, _⟩ := I.hok c' _ hc
  refine wpAny_call (PySem.W.kla_callFunE hr.depth hf rfl L.co L.gen rfl ⟨c', oc, vs, t, rfl, hoc, hdc, hvc⟩ ?_)
  rw [hbind]
  refine wpAny_pure (env_one L.kind L.nm fun h₁ tk hns hcell kp => ⟨I.nolimit.keeps kp, ?_⟩)
  have J := lam1_start (c' := c') (f := f) (tk := tk) I L e0 hr.hd Un.refl hN hj rv hns hcell kp
  refine PySem.W.kla_codeExpr (wpAny_mono ((hbody _ _ s H (hr.deeper _)).run [] _ _ H Q J ht) (fun w' s' hq => ?_) fun e s' hq => hq)
  obtain ⟨v', H', J', rv', q⟩ := hq
  exact ⟨v', H', J'.os, J'.bare, J'.base, J'.hok, rv', q⟩
/-- what stays true while the keys are asked for -/
def SortJ (X : Cx) (T : List (Addr × Str)) (pins : List (Addr × Obj)) (σ : L2.St) (H : Hp) (f : Addr) (fo : Obj) (ow : List Addr) (s : Shared) : Prop :=
  ∃ H1, (Inv X pins σ H1 s ∧ ExtN H H1 ∧ Tabs T H1) ∧ (s.heap.get? f = some fo ∧ H1 f = none) ∧ ∀ b ∈ ow, FpOk X pins H1 b ∧ b ≠ f ∧ ∃ o, s.heap.get? b = some o
theorem sortJ {T : List (Addr × Str)} {f : Addr} {fo : Obj} : OwnJ (SortJ X T pins σ H f fo) := by
  refine ⟨fun {ow s} ⟨H1, _, _, o⟩ b hb => (o b hb).2.2, fun {ow s h' tk} ⟨H1, ⟨I, e, t⟩, ⟨g, n⟩, o⟩ k ex => ⟨H1, ⟨I.turnedL k fun b hb => (o b hb).1, e, t⟩, ⟨k f fo (fun z => (o f z).2.1 rfl) g, n⟩, fun b hb => ⟨(o b hb).1, (o b hb).2.1, ex b hb⟩⟩,
    fun {ow s h' tk b} ⟨H1, ⟨I, e, t⟩, ⟨g, n⟩, o⟩ k hb ex => ⟨H1, ⟨I.kept k, e, t⟩, ⟨k f fo g, n⟩, fun c hc => ?_⟩⟩
  rcases List.mem_cons.mp hc with rfl | hc
  · exact ⟨I.fpOk hb (I.hok.fresh hb), Nat.ne_of_gt (Nat.lt_of_lt_of_le (Heap.lt_size g) hb), ex⟩
  · obtain ⟨u, q⟩ := (o c hc).2.2
    exact ⟨(o c hc).1, (o c hc).2.1, u, k c u q⟩
theorem each_vals : ∀ {vs : List V} {us : List Value} {ks : List Int}, Vals vs us → ks.length = vs.length → PySem.W.EachIs (fun (u : Value) (b : V × Int) => L2.RelV b.1 u) us (vs.zip ks)
  | _, _, [], .nil, _ => .nil
  | _, _, k :: ks, .cons r t, h => .cons r (each_vals t (by simpa using h))
  | _, _, [], .cons _ _, h => by simp at h
  | _, _, _ :: _, .nil, h => by simp at h
theorem vals_each : ∀ {bs : List (V × Int)} {us : List Value}, PySem.W.EachIs (fun (u : Value) (b : V × Int) => L2.RelV b.1 u) us bs → Vals (bs.map (·.1)) us
  | _, _, .nil => .nil
  | _, _, .cons r t => .cons r (vals_each t)
theorem vals_at : ∀ {vs : List V} {us : List Value} {i : Nat} {u : Value}, Vals vs us → us[i]? = some u → ∃ v, vs[i]? = some v ∧ L2.RelV v u
  | _, _, _, _, .nil, e => by simp at e
  | _, _, 0, _, .cons r _, e => by simp at e; subst e; exact ⟨_, rfl, r⟩
  | _, _, i + 1, u, .cons _ t, e => by
    obtain ⟨v, h1, h2⟩ := vals_at (i := i) (u := u) t (by simpa using e)
    exact ⟨v, by simpa using h1, h2⟩
/-- the things in the order of their keys -/
def byKeys (xs : List V) (ks : List Int) : List V := ((xs.zip ks).mergeSort (PySem.W.dataLe false fun b : V × Int => PyData.int b.2)).map (·.1)
def tSortL (T : List (Addr × Str)) (te tb : TE) (j : Nat) : TE := fun σ H Q => te σ H fun v H1 => ∃ (l : Addr) (xs : List V) (ks : List Int), (v = .ref l ∧ H1 l = some (.lst xs) ∧ ks.length = xs.length) ∧ Tabs T H1 ∧
  (∀ (i : Nat) (y : V) (n : Int) (H2 : Hp), xs[i]? = some y → ks[i]? = some n → ExtN H1 H2 → Tabs T H2 → tb (σ.set j (some y)) H2 fun v H3 => v = .int n ∧ ExtN H2 H3 ∧ Tabs T H3) ∧
  ∀ (p : Addr) (H2 : Hp), ExtN H1 H2 → Tabs T H2 → H2 p = none → Q (.ref p) (upd H2 p (.lst (byKeys xs ks)))
theorem pe_sortLam {T : List (Addr × Str)} {c P : Addr} {k j : Nat} {te tb : TE} {e : Expr} {x y z : Str} {params : Arguments} {body : Expr} {scope : Scope} {p kp lpos pos : Pos} (he : PE X e te) (hg : Gl X "sorted") (hm : X.mg "sorted" = none)
    (TB : TabB X.base X.mg c P) (hcode : X.env.code = .ref c) (hmT : (P, X.env.qual ++ "<lambda>") ∈ T) (hu : ∀ p ∈ T, p.1 = P → p.2 = X.env.qual ++ "<lambda>") (hr : Room (k + 3) X.A) (L : L1S X.env.scope scope x y z) (hdef : defaultsOf params X.env = ([], []))
    (hN : X.N.Nodup) (hj : X.N[j]? = some x)
    (hbind : ∀ (q : Str) (cl : List (Str × Addr)) (pm cv ctv u : Value), bindArgs (PySem.W.kla_fn "<lambda>" q params body scope cl pm cv ctv) ⟨[u], []⟩ = pure [(x, u)])
    (hbody : ∀ (A : Around) (outer : List Env) (s : Shared) (H : Hp) (f c' : Addr), Room k (A.deeper (lam1Env X scope x s.heap.objs.size f c')) → PE (lam1Cx X A outer s H scope x f c') body tb)
    (hse : starEach [e] X.env = (false, eval e X.env) :: starEach [] X.env := by rfl) (hst : backTo pos (starEach [e] X.env) = (false, eval e X.env) :: backTo pos (starEach [] X.env) := by rfl) (hpl : (backTo pos (starEach [e] X.env)).any (·.1) = false := by rfl) :
    PE X (.Call (.Name "sorted" p) [e] [⟨some "key", .Lambda params body scope lpos, kp⟩] pos) (tSortL T te tb j) := by
  refine ⟨fun pins s σ H Q I h => ?_⟩
  refine wpAny_Call_Name_kw (ld_blt I hg hm (u := .builtin "sorted") rfl ?_)
  refine PyProof.Rows.callWith_kw (thn ((pa_cons he pa_nil hse).run pos pins s σ H (fun vs H1 => match vs with
    | [v] => ∃ (l : Addr) (xs : List V) (ks : List Int), (v = .ref l ∧ H1 l = some (.lst xs) ∧ ks.length = xs.length) ∧ Tabs T H1 ∧
      (∀ (i : Nat) (y : V) (n : Int) (H2 : Hp), xs[i]? = some y → ks[i]? = some n → ExtN H1 H2 → Tabs T H2 → tb (σ.set j (some y)) H2 fun v H3 => v = .int n ∧ ExtN H2 H3 ∧ Tabs T H3) ∧
      ∀ (p : Addr) (H2 : Hp), ExtN H1 H2 → Tabs T H2 → H2 p = none → Q (.ref p) (upd H2 p (.lst (byKeys xs ks)))
    | _ => False) I h) fun us s1 ⟨vs, H1, I1, r1, q1⟩ => ?_) hst hpl (by rfl) (by rfl)
  obtain ⟨v, rfl⟩ : ∃ v, vs = [v] := by
    cases vs with
    | nil => exact q1.elim
    | cons v r => cases r with
      | nil => exact ⟨v, rfl⟩
      | cons _ _ => exact q1.elim
  obtain ⟨l, xs, ks, ⟨rfl, hl, hk⟩, t1, htb, hq⟩ := q1
  obtain rfl := Vals.ref1 r1
  have hfree : ∀ n ∈ scope.names, n.2 = .free → ∃ c, X.env.cells.lookup n.1 = some c := fun n hn e => by
    rw [L.nm] at hn
    simp only [List.mem_cons, List.mem_nil_iff, or_false] at hn
    rcases hn with rfl | rfl | rfl
    · cases e
    · exact I1.ok.has _ (.inl L.out)
    · cases e
  show wpAny _ _ (evalAll ((do let v ← eval (.Lambda params body scope lpos) X.env; standAt pos; pure v) :: [])) _ _ s1
  refine wpAny_evalAll_cons (wpAny_bind (lam_make2 I1 TB hcode hmT hu t1 hdef hfree fun f c' pm' ctv H2 s2 I2 e2 t2 hf hfn hfr hco => wpAny_bind (wpAny_standAt (wpAny_pure (wpAny_evalAll_nil ?_)))))
  have hl2 : H2 l = some (.lst xs) := e2 _ _ hl nofun
  obtain ⟨its, rv, pl, hz⟩ := I2.list (SqL.of hl2)
  have hlen : ks.length = its.length := by rw [hk]; exact rv.length
  have r2 : Room (k + 1) X.A.in1.in1 := hr.in1.in1
  show wpAny _ _ (call (.builtin "sorted") [.ref l] [(Str.ofString "key", .ref f)]) _ _ s2
  refine sorted_own (J := SortJ X T pins σ H2 f (PySem.W.kla_obj "<lambda>" (X.env.qual ++ "<lambda>") params body scope (cloFrom X.env.cells scope.names []) pm' c' ctv)) sortJ ⟨H2, ⟨I2, ExtN.refl _, t2⟩, ⟨hf, hfn⟩, nofun⟩ pl.isList hlen (by rw [← rv.length]; exact hz) r2.units0 ?_ ?_
  · rintro ow i v n s3 hv hn ⟨H3, ⟨I3, e3, t3⟩, ⟨g3, n3⟩, o3⟩
    obtain ⟨y', hy, ry⟩ := vals_at rv hv
    refine wpAny_mono (lam1_act I3 L I3.env0.in1.in1 r2 hN hj g3 (e3 _ _ hco fun ps => codeO_ne ps) (hbind _ _ _ _ _ _) (fun A outer s H hr2 => hbody A outer s H f c' hr2) ry (htb i y' n H3 hy hn (e2.trans e3) t3)) (fun u s4 hc => ?_) fun _ _ z => z
    obtain ⟨v', H4, os, bare, un, hok, r4, rfl, e4, t4⟩ := hc
    have I4 := I3.call' (ch := []) os un hok bare (fun b z => absurd z (by simp))
    obtain ⟨t, rfl⟩ := r4
    have own : ∀ b ∈ ow, ∀ o, s3.heap.get? b = some o → s4.heap.get? b = some o := fun b hb o q => un.keep b o q (o3 b hb).1.1 (fun z => (List.mem_cons.mp (I3.stkSub b z)).elim (o3 b hb).1.2.1 (o3 b hb).1.2.2.1) (by simp)
    refine ⟨⟨t, rfl⟩, ⟨H4, ⟨I4, e3.trans e4, t4⟩, ⟨un.keep f _ g3 n3 hfr (by simp), un.free f _ g3 n3 (by simp)⟩, fun b hb => ?_⟩, own⟩
    obtain ⟨fp, nf, o, q⟩ := o3 b hb
    exact ⟨⟨un.free b o q fp.1 (by simp), fp.2⟩, nf, o, own b hb o q⟩
  · rintro ow s3 D h' tk out c ⟨H3, ⟨I3, e3, t3⟩, ⟨g3, n3⟩, o3⟩ hD kp gD ko
    have I4 := I3.turnedL (t' := tk) kp fun b hb => (o3 b hb).1
    have em : (xs.zip ks).map (fun b : V × Int => PyData.int b.2) = ks.map PyData.int := by
      rw [show (fun b : V × Int => PyData.int b.2) = PyData.int ∘ Prod.snd from rfl, ← List.map_map, List.map_snd_zip (by omega)]
    have ea := PySem.W.keyedOut_each (fun b : V × Int => PyData.int b.2) (em.symm ▸ ko) (each_vals rv hk)
    have rv2 : Vals (byKeys xs ks) out := vals_each ea
    have lo : (byKeys xs ks).length ≤ sizeLine := by
      unfold byKeys
      rw [List.length_map, List.length_mergeSort, List.length_zip]
      omega
    exact ⟨.ref D, upd H3 D (.lst (byKeys xs ks)), I4.take (t' := tk) (fun _ _ _ q => q) (o3 D hD).1 ⟨lo, out, c, rv2, gD⟩, rfl, hq D H3 (e2.trans e3) t3 (o3 D hD).1.1⟩
end
end O26
set_option Elab.async false
set_option linter.all false
set_option maxRecDepth 100000
set_option maxHeartbeats 4000000
namespace O26
open PySem PySem.Spec PyProof.Rows L2 LamX
/-! the things in the order of their keys, told plainly -/
theorem le_int (a b : V × Int) : PySem.W.dataLe false (fun b : V × Int => PyData.int b.2) a b = decide (a.2 ≤ b.2) := by
  have e : PySem.W.dataLe false (fun b : V × Int => PyData.int b.2) a b = !PySem.W.dataLt (.int b.2) (.int a.2) := rfl
  rw [e, PySem.W.dataLt_int]
  by_cases h : a.2 ≤ b.2
  · rw [decide_eq_true h, decide_eq_false (by omega)]; rfl
  · rw [decide_eq_false h, decide_eq_true (by omega)]; rfl
theorem DrL.of_at {F : Hp} : ∀ {xs : List V} {ds : List Da}, xs.length = ds.length → (∀ (i : Nat) v d, xs[i]? = some v → ds[i]? = some d → Dr F v d) → DrL F xs ds
  | [], [], _, _ => .nil
  | x :: xs, d :: ds, h, k => .cons (k 0 x d rfl rfl) (DrL.of_at (by simpa using h) fun i v e h1 h2 => k (i + 1) v e (by simpa using h1) (by simpa using h2))
  | [], _ :: _, h, _ => by simp at h
  | _ :: _, [], h, _ => by simp at h
theorem dkey_lt {l : List Ve} {v : Ve} (h : v ∈ l) : dkey l v < l.length := by
  unfold dkey
  refine List.length_filter_lt_length_iff_exists.mpr ⟨v, h, ?_⟩
  have : crs v v = 0 := by unfold crs; rw [Int.mul_comm]; omega
  rw [this]
  simp
theorem keys_perm {l : List Ve} (hk : ∀ k, k < l.length → (l.filter fun v => dkey l v == k).length = 1) : (l.map fun v => ((dkey l v : Nat) : Int)).Perm ((List.range l.length).map fun k => ((k : Nat) : Int)) := by
  have p : (l.map fun v => dkey l v).Perm (List.range l.length) := by
    refine List.perm_iff_count.mpr fun a => ?_
    rw [List.count_eq_countP, List.countP_map, List.countP_eq_length_filter]
    by_cases h : a < l.length
    · have e := hk a h
      have e2 : (l.filter ((fun x => x == a) ∘ fun v => dkey l v)).length = 1 := e
      rw [e2, List.count_range]
      simp [h]
    · have e2 : l.filter ((fun x => x == a) ∘ fun v => dkey l v) = [] := by
        refine List.filter_eq_nil_iff.mpr fun v hv => ?_
        have := dkey_lt hv
        simp only [Function.comp, beq_iff_eq]
        omega
      rw [e2, List.count_range]
      simp [h]
  have q := p.map fun k => ((k : Nat) : Int)
  rw [List.map_map] at q
  exact q
theorem byKeys_dirs {F : Hp} {xs : List V} {l : List Ve} (hk : ∀ k, k < l.length → (l.filter fun v => dkey l v == k).length = 1) (r : DrL F xs (l.map v2)) : DrL F (byKeys xs (l.map fun v => ((dkey l v : Nat) : Int))) ((dirsL l).map v2) := by
  have hl : xs.length = l.length := by have := r.length; rw [List.length_map] at this; exact this
  unfold byKeys
  have perm := List.mergeSort_perm (xs.zip (l.map fun v => ((dkey l v : Nat) : Int))) (PySem.W.dataLe false fun b : V × Int => PyData.int b.2)
  have srt := List.pairwise_mergeSort (le := PySem.W.dataLe false fun b : V × Int => PyData.int b.2) (fun a b c h1 h2 => by rw [le_int] at *; simp only [decide_eq_true_eq] at *; omega) (fun a b => by rw [le_int, le_int]; simp only [Bool.or_eq_true, decide_eq_true_eq]; omega) (xs.zip (l.map fun v => ((dkey l v : Nat) : Int)))
  generalize (xs.zip (l.map fun v => ((dkey l v : Nat) : Int))).mergeSort (PySem.W.dataLe false fun b : V × Int => PyData.int b.2) = zs at *
  have zl : zs.length = l.length := by rw [perm.length_eq, List.length_zip, List.length_map]; omega
  have zk : zs.map (·.2) = (List.range l.length).map fun k => ((k : Nat) : Int) := by
    refine List.Perm.eq_of_pairwise (le := fun a b : Int => a ≤ b) (fun a b _ _ h1 h2 => Int.le_antisymm h1 h2) ?_ ?_ ?_
    · rw [List.pairwise_map]
      exact srt.imp fun {a b} h => by rw [le_int] at h; exact of_decide_eq_true h
    · rw [List.pairwise_map]
      exact List.pairwise_lt_range.imp fun {a b} h => by omega
    · refine List.Perm.trans (perm.map (·.2)) ?_
      have e : (xs.zip (l.map fun v => ((dkey l v : Nat) : Int))).map (·.2) = l.map fun v => ((dkey l v : Nat) : Int) := List.map_snd_zip (by rw [List.length_map]; omega)
      rw [e]
      exact keys_perm hk
  have dl : (dirsL l).length = l.length := by unfold dirsL; rw [List.length_map, List.length_range]
  refine DrL.of_at (by rw [List.length_map, List.length_map, zl, dl]) fun i v d h1 h2 => ?_
  rw [List.getElem?_map] at h1 h2
  cases hz : zs[i]? with
  | none => rw [hz] at h1; cases h1
  | some z =>
    rw [hz] at h1
    cases h1
    have hi : i < l.length := by have := (List.getElem?_eq_some_iff.mp hz).1; omega
    have kz : z.2 = (i : Nat) := by
      have e : (zs.map (·.2))[i]? = some z.2 := by rw [List.getElem?_map, hz]; rfl
      rw [zk, List.getElem?_map, List.getElem?_range hi] at e
      exact (Option.some.inj e).symm
    have zm : z ∈ xs.zip (l.map fun v => ((dkey l v : Nat) : Int)) := perm.mem_iff.mp (List.mem_of_getElem? hz)
    obtain ⟨j, hj⟩ := List.getElem?_of_mem zm
    obtain ⟨j1, j2⟩ := List.getElem?_zip_eq_some.mp hj
    rw [List.getElem?_map] at j2
    cases hu : l[j]? with
    | none => rw [hu] at j2; cases j2
    | some u =>
      rw [hu] at j2
      have ku : dkey l u = i := by
        have : ((dkey l u : Nat) : Int) = z.2 := Option.some.inj j2
        rw [kz] at this
        omega
      have um := List.mem_of_getElem? hu
      obtain ⟨d', g1, g2⟩ := r.getV j1
      rw [List.getElem?_map, hu] at g1
      cases g1
      have ed : d = v2 u := by
        unfold dirsL at h2
        rw [List.getElem?_map, List.getElem?_range hi] at h2
        simp only [Option.map_some, Option.some.injEq] at h2
        rw [← h2]
        congr 1
        cases hf : l.find? fun v => dkey l v == i with
        | none =>
          have := List.find?_eq_none.mp hf u um
          simp [ku] at this
        | some w =>
          have wm := List.mem_of_find?_eq_some hf
          have wk := List.find?_some hf
          have one := hk i hi
          have a1 : w ∈ l.filter fun v => dkey l v == i := List.mem_filter.mpr ⟨wm, wk⟩
          have a2 : u ∈ l.filter fun v => dkey l v == i := List.mem_filter.mpr ⟨um, by simp [ku]⟩
          obtain ⟨b, eb⟩ := List.length_eq_one_iff.mp one
          rw [eb] at a1 a2
          rw [List.mem_singleton.mp a1, List.mem_singleton.mp a2]
          rfl
      rw [ed]
      exact g2
theorem ev_sortL {T : Tb} {S : Os} {te tb : TE} {δ : List (Option Da)} {j : Nat} {l res : List Da} {ks : List Int} (h : EvD T S te δ (.lst l)) (hk : ks.length = l.length)
    (hb : ∀ (i : Nat) d n, l[i]? = some d → ks[i]? = some n → EvD T [] tb (δ.set j (some d)) (.int n)) (hr : ∀ (F : Hp) xs, DrL F xs l → DrL F (byKeys xs ks) res) : EvD T S (tSortL T te tb j) δ (.lst res) := fun F H σ Q s e q =>
  h F H σ _ s e fun v F1 H1 g1 r1 => by
    cases r1 with
    | lst h1 h2 =>
      rename_i a xs
      have up : ∀ H2, ExtN H1 H2 → LamX.Tabs T H2 → Gr T S F1 H1 F1 H2 := fun H2 hE hT => ⟨hE, Same.refl F1, ⟨fun b u k => hE b u (g1.sg.ex b u k) fun ps z => g1.sg.nt b ps (by rw [k, z]), hT, g1.sg.nt, fun p c k => by
        obtain ⟨o, k1, k2, k3⟩ := g1.sg.own p c k
        exact ⟨o, hE p o k1 k3.nt.1, k2, k3⟩⟩, fun _ _ _ _ k => k⟩
      refine ⟨a, xs, ks, ⟨rfl, g1.sg.ex _ _ h1, by rw [hk, h2.length]⟩, g1.sg.tab, fun i y n H2 hy hn e2 t2 => ?_, fun p H2 e2 t2 hp => ?_⟩
      · obtain ⟨d, hd, rd⟩ := h2.getV hy
        refine hb i d n hd hn F1 H2 _ _ (up H2 e2 t2).sg.bare ((e.mono g1.ff).set rd j) fun v F3 H3 g3 r3 => ?_
        cases r3
        exact ⟨rfl, g3.hh, g3.sg.tab⟩
      · have g2 := up H2 e2 t2
        exact q (.ref p) _ _ ((g1.trans g2).trans (Gr.newL g2.sg hp)) (Dr.newL (g2.sg.ex.free hp) (hr F1 xs h2))
end O26
set_option Elab.async false
set_option linter.all false
set_option maxRecDepth 100000
set_option maxHeartbeats 8000000
namespace O26
open PySem PySem.Spec PyProof.Rows L2 LamX
section
variable {P : Program} {w : World} {K : PySem.W.Frag} {mg : Str → Option Value} {base : Heap} {T : Tb}
/-- a def whose own code object is known -/
theorem fn_pureC {x qual : Str} {params : Arguments} {body : List Stmt} {scope : Scope} {dvs : List V} {kws : List (Str × V)} {f c : Addr} {fd : FuncData} {N ps : List Str} {k : Nat} {R : List Da → Da → Prop}
    (F : FunD K x qual params body scope dvs kws f fd) (hc : fd.code = .ref c) (S : FnScope N ps scope) (hl : ∀ ds d, R ds d → ds.length = ps.length)
    (hb : ∀ (A : Around) (outer : List Env) (s : Shared) (H : Hp) (E : XK), Room k (A.deeper (envOfC qual scope s.heap.objs.size f (.ref c))) →
      ∃ t, PSs (cxOf C8.CX0 P w K mg base N qual scope f (.ref c) A outer s H E).nox body t ∧ ∀ ds d, R ds d → SDf T t (startD N.length ds) d) : FnOk P w K mg base C8.CX0 (k + 1) f fd ps (Prm T R) := by
  obtain ⟨oc, od, dV, kV, doc, pm, an, cdv, ct, osl, rfl, lk, hcd, _, _⟩ := F.ex
  have hc : cdv = .ref c := hc
  subst hc
  refine fn_of lk hcd S (fun vs H Q E ⟨F, ds, d, s, r, hR, _⟩ => r.length.trans (hl ds d hR)) fun A outer s H vs Q E hr ⟨F, ds, d, sg, r, hR, q⟩ => ?_
  obtain ⟨t, ht, hs⟩ := hb A outer s H E hr
  refine ⟨t, ht.nox, ?_⟩
  rcases hs ds d hR with h | ⟨δ', S', h, rfl⟩
  · exact h F H _ { nx := fun _ H' => Q .non H', rt := Q } sg (EnvR.start r) fun F' H' g v r => q v F' H' g.gr r
  · exact h F H _ { nx := fun _ H' => Q .non H', rt := Q } sg (EnvR.start r) fun F' H' g σ e => q .non F' H' g.gr .non
abbrev s_directions : Stmt := top 18
abbrev dirN : List Str := ["polygon", "found", "index", "vector", "other"]
theorem sc_directions : FnScope dirN ["polygon"] (defScope s_directions) := ⟨rfl, rfl, rfl, by decide +kernel, rfl, by decide +kernel, by decide +kernel⟩
def lamParts (e : Expr) : Expr × Scope := match e with
  | .Call _ _ [⟨_, .Lambda _ body scope _, _⟩] _ => (body, scope)
  | _ => (e, default)
def retOf (st : Stmt) : Expr := match (defBody st).getLast? with
  | some (.Return (some e) _) => e
  | _ => .Constant .none 0 ⟨0, 0, 0, 0⟩
abbrev dirB : Expr := (lamParts (retOf s_directions)).1
abbrev dirS : Scope := (lamParts (retOf s_directions)).2
abbrev dirX (P : Program) (w : World) (K : PySem.W.Frag) (mg : Str → Option Value) (base : Heap) (f c : Addr) (A : Around) (outer : List Env) (s : Shared) (H : Hp) (E : XK) : Cx := (cxOf C8.CX0 P w K mg base dirN "directions" (defScope s_directions) f (.ref c) A outer s H E).nox
theorem pi_listK {X : Cx} {tg l : Expr} {tl : TE} (hK : X.K = K) (hl : PE X l tl) : PI X tg l (iList K tl) := hK ▸ pi_list hl
theorem dir_lam {f0 c0 : Addr} {A0 : Around} {outer0 : List Env} {s0 : Shared} {H0 : Hp} {E0 : XK} (fr_len : mg "len" = none) (c_cross : C8.Cal P w K mg base 1 "cross" (Prm T R_cross) []) : ∃ tb : TE,
    (∀ (A : Around) (outer : List Env) (s : Shared) (H : Hp) (f c' : Addr), Room 2 (A.deeper (lam1Env (dirX P w K mg base f0 c0 A0 outer0 s0 H0 E0) dirS "vector" s.heap.objs.size f c')) → PE (lam1Cx (dirX P w K mg base f0 c0 A0 outer0 s0 H0 E0) A outer s H dirS "vector" f c') dirB tb) ∧
    ∀ (z0 z2 : Option Da) (l : List Ve) (v : Ve), (∀ v ∈ l, v.1.natAbs ≤ 200 ∧ v.2.natAbs ≤ 200) → l.length ≤ 1000 → v ∈ l → EvD T [] tb [z0, some (.lst (l.map v2)), z2, some (v2 v), none] (.int ((dkey l v : Nat) : Int)) := by
  refine ⟨_, fun A outer s H f c' hr => pe_callB (len_seqK (K := K) rfl) (by rfl) fr_len PySem.boot_len (pa_cons (pe_lc (by rfl) sc_directions.nd (pi_listK (K := K) rfl (pv 1)) (blkOk_by (own := [("other", 4)]) (N := dirN) (sc := dirS) (by decide +kernel)) (fun _ _ _ _ _ => (pg_name (i := 4) sc_directions.nd rfl (Or.inl rfl)))
          (fun _ _ _ _ _ => pts_one (pt_cmpR op_gt (C8.pe_c c_cross hr (by decide) rfl (pa_cons (pv 4) (pa_cons (pv 3) pa_nil))) pe_int (nomark _))) (fun _ _ _ _ _ => (pv 4))) pa_nil), fun z0 z2 l v hb hl hv => ?_⟩
  · skip
    have b1 := bdN (k := 15) (i := v.1) (Nat.le_trans (hb v hv).1 (by decide : 200 ≤ 20000)); have b2 := bdN (k := 15) (Nat.le_trans (hb v hv).2 (by decide : 200 ≤ 20000))
    exact ev_is (ev_cb (ea_cons (ev_lc (it_list (ev_var rfl)) (lc_filtG (i := 4) (xs := l) (q := fun e => decide (crs e v > 0)) (g := v2) (f := v2) (by decide) (fun e he => et_test (ev_cmp (ev_call (ea_cons (ev_var rfl) (ea_cons (ev_var rfl) ea_nil)) (ri_cross ((bdN (k := 15) (Nat.le_trans (hb e he).1 (by decide : 200 ≤ 20000))).up (by decide)) ((bdN (k := 15) (Nat.le_trans (hb e he).2 (by decide : 200 ≤ 20000))).up (by decide)) (b1.up (by decide)) (b2.up (by decide)))) ev_int)) (fun e _ _ => ev_var rfl)) (by rw [List.length_map]; omega)) ea_nil) cd_lenL) (by rw [List.length_map]; rfl)
theorem ok_directions {f c PT : Addr} {fd : FuncData} {C_Polygon : Addr} (F : FnP K "directions" "directions" s_directions f fd) (hc : fd.code = .ref c) (hm : mg "directions" = some (.ref f)) (fr_range : mg "range" = none) (fr_len : mg "len" = none) (fr_sorted : mg "sorted" = none)
    (m_PolygonU_lenU : C8.Met P w K mg base 1 C_Polygon "__len__" (Prm T (R_PolygonU_lenU C_Polygon)) []) (c_primitive : C8.Cal P w K mg base 2 "primitive" (Prm T R_primitive) []) (m_Polygon_edge : C8.Met P w K mg base 2 C_Polygon "edge" (Prm T (R_Polygon_edge C_Polygon)) []) (c_cross : C8.Cal P w K mg base 1 "cross" (Prm T R_cross) [])
    (TB : TabB base mg c PT) {q0 : Str} (hq0 : q0 = (envOfC "directions" (defScope s_directions) 0 0 .none).qual ++ "<lambda>") (hmT : (PT, q0) ∈ T) (hu : ∀ p ∈ T, p.1 = PT → p.2 = q0) :
    C8.Cal P w K mg base 6 "directions" (Prm T (R_directions C_Polygon)) [] := by
  subst hq0
  refine ⟨⟨f, fd, _, [], fn_pureC F hc sc_directions (fun ds d h => ?_) fun A outer s H E hr => ⟨_, pss_cons (ps_set (i := 1) sc_directions.nd rfl (Or.inr rfl) (pe_lst pa_nil)) (pss_cons (ps_for PassesOwn.never rfl (pi_range1 rfl fr_range (pa_cons (pe_callB (call_lenO m_PolygonU_lenU hr (by decide)) (by rfl) fr_len PySem.boot_len (pa_cons (pv 0) pa_nil)) pa_nil)) (pg_name (i := 2) sc_directions.nd rfl (Or.inl rfl)) (pss_cons (ps_set (i := 3) sc_directions.nd rfl (Or.inl rfl) (C8.pe_c c_primitive hr (by decide) rfl (pa_cons (C8.pe_mt m_Polygon_edge hr (by decide) (pv 0) (pa_cons (pv 2) pa_nil)) pa_nil))) (pss_one (ps_if (pt_cmpR (op_notInD (room65 hr)) (pv 3) (pv 1) (by rfl)) (pss_one (ps_expr (pe_bm PySem.F.plainAttrs_list PySem.F.slot_list_append PySem.F.type_list_append mt_append (pv 1) (pa_cons (pv 3) pa_nil)))) pss_nil))))
      (pss_one (ps_ret (pe_sortLam (k := 2) (j := 3) (x := "vector") (y := "found") (z := "len") (pv 1) (by rfl) fr_sorted TB rfl hmT hu hr ⟨rfl, rfl, rfl, rfl, by decide, by decide, by decide, rfl⟩ rfl sc_directions.nd rfl (fun _ _ _ _ _ _ => rfl)
        (dir_lam (T := T) (f0 := f) (c0 := c) (A0 := A) (outer0 := outer) (s0 := s) (H0 := H) (E0 := E) fr_len c_cross).choose_spec.1)))), fun ds d h => ?_⟩, hm, F.kp, F.bindsN (fun _ _ _ _ _ _ us hl => match us, hl with | [_], _ => rfl), .nil⟩⟩
  · obtain ⟨vs, rfl, hB, hF, rfl⟩ := h
    rfl
  · obtain ⟨vs, rfl, hB, hF, rfl⟩ := h
    have hl := hB.lo
    have hh := hB.hi
    refine .ret (sd_mineL fun pr => sd_forS (G := (fun a δ' S' => ∃ acc z2 z3, acc = (List.range a).foldl (fun acc i => addNew acc (primV (edg vs ((i : Nat) : Int)))) [] ∧ acc.length ≤ a ∧ S'.lookup pr = some (.lst (acc.map v2)) ∧ δ' = [some (poly C_Polygon vs), some (.fn pr), z2, z3, none] : Nat → List (Option Da) → Os → Prop) vs.length) (it_is (it_rng1 (ea_cons (ev_lenO (ev_var rfl) ⟨_, rfl, hB, rfl⟩ (by omega)) ea_nil) (by omega)) rng_nat) (for_nat vs.length (it := fun i => .int ((i : Nat) : Int)) (fun a δ' S' => ∃ acc z2 z3, acc = (List.range a).foldl (fun acc i => addNew acc (primV (edg vs ((i : Nat) : Int)))) [] ∧ acc.length ≤ a ∧ S'.lookup pr = some (.lst (acc.map v2)) ∧ δ' = [some (poly C_Polygon vs), some (.fn pr), z2, z3, none] : Nat → List (Option Da) → Os → Prop) ?_ ⟨[], none, none, rfl, Nat.le_refl _, lk0, rfl⟩) ?_)
    · rintro a δ S ha ⟨acc, z2, z3, hacc, hle, hS, rfl⟩
      have v1 := hB.co _ (hB.mem (a : Int)); have w1 := hB.co _ (hB.mem ((a : Int) + 1))
      have x1 : (edg vs a).1.natAbs ≤ 1000 := by unfold edg dif; simp only; omega
      have y1 : (edg vs a).2.natAbs ≤ 1000 := by unfold edg dif; simp only; omega
      have hst : addNew acc (primV (edg vs a)) = (List.range (a + 1)).foldl (fun acc i => addNew acc (primV (edg vs ((i : Nat) : Int)))) [] := by
        rw [List.range_succ, List.foldl_append, ← hacc]; rfl
      have post : (addNew acc (primV (edg vs a))).length ≤ a + 1 := by
        unfold addNew
        split
        · omega
        · rw [List.length_append, List.length_singleton]; omega
      refine ⟨_, _, [some (poly C_Polygon vs), some (.fn pr), some (.int (a : Nat)), some (v2 (primV (edg vs a))), none], (pr, .lst ((addNew acc (primV (edg vs a))).map v2)) :: S, gd_name, sd_seq (sd_asg (ev_call (ea_cons (ev_meth (ev_var rfl) (ea_cons (ev_var rfl) ea_nil) (ri_Polygon_edge hB)) ea_nil) (ri_primitive (hF.edge a ha) x1 y1))) ?_, _, _, _, hst, post, lk0, rfl⟩
      by_cases hm : primV (edg vs a) ∈ acc
      · have e2 : addNew acc (primV (edg vs a)) = acc := by unfold addNew; rw [if_pos hm]
        rw [e2]
        exact sd_own (sd_ifF (et_is (et_viewL (i := 1) hS rfl (et_test (ev_notInV (ev_var rfl) (ev_var rfl)))) (by rw [decide_eq_true hm]; rfl)) sd_next) (fun p c h => by
          rw [lookup_put] at h
          by_cases hp : p = pr
          · rw [if_pos hp] at h; cases h; rw [hp]; exact hS
          · rw [if_neg hp] at h; exact h)
      · have e2 : acc.map v2 ++ [v2 (primV (edg vs a))] = (addNew acc (primV (edg vs a))).map v2 := by
          unfold addNew
          rw [if_neg hm, List.map_append]; rfl
        rw [← e2]
        exact sd_ifT (et_is (et_viewL (i := 1) hS rfl (et_test (ev_notInV (ev_var rfl) (ev_var rfl)))) (by rw [decide_eq_false hm]; rfl)) (sd_app (ev_var rfl) (ev_var rfl) hS (by rw [List.length_map]; omega))
    · rintro δ S ⟨acc, z2, z3, hacc, hle, hS, rfl⟩
      have er : acc = dirsRaw vs := hacc
      subst er
      refine sd_fixL (i := 1) hS rfl (sd_ret (ev_sortL (ks := (dirsRaw vs).map fun v => ((dkey (dirsRaw vs) v : Nat) : Int)) (ev_var rfl) (by rw [List.length_map, List.length_map]) (fun i d n h1 h2 => ?_) fun F xs r => byKeys_dirs hF.keys r))
      rw [List.getElem?_map] at h1 h2
      cases hu : (dirsRaw vs)[i]? with
      | none => rw [hu] at h1; cases h1
      | some v =>
        rw [hu] at h1 h2
        cases h1
        cases h2
        exact (dir_lam (T := T) fr_len c_cross).choose_spec.2 _ _ (dirsRaw vs) v hF.raw (by have := hF.n6; omega) (List.mem_of_getElem? hu)
end
end O26
set_option linter.all false
/-! strictly convex polygons: the tangent vertex is one, and the way back undoes a reflection -/
namespace O26
structure Pol (vs : List Ve) : Prop where
  lo : 3 ≤ vs.length
  hi : vs.length ≤ 6
  cvx : ∀ i : Nat, i < vs.length → ∀ o : Nat, o < vs.length - 2 → 0 < crs (dif (vtx vs ((i : Int) + 1)) (vtx vs i)) (dif (vtx vs ((i : Int) + (2 + (o : Int)))) (vtx vs i))
def cnd (dir : Int) (vs : List Ve) (i : Int) (p : Pt) : Prop := 0 < -dir * side vs (i - 1) p ∧ 0 < dir * side vs i p
theorem vtx_congr {vs : List Ve} {i k : Int} (h : i % (vs.length : Nat) = k % (vs.length : Nat)) : vtx vs i = vtx vs k := by unfold vtx; rw [h]
theorem side_congr {vs : List Ve} {i k : Int} {p : Pt} (h : i % (vs.length : Nat) = k % (vs.length : Nat)) : side vs i p = side vs k p := by
  have e1 := vtx_congr h
  have e2 : vtx vs (i + 1) = vtx vs (k + 1) := vtx_congr (by rw [Int.add_emod, h, ← Int.add_emod])
  unfold side edg
  rw [e1, e2]
theorem sides_get {vs : List Ve} {p : Pt} {i : Nat} (h : i < vs.length) : (sides vs p).getD i 0 = side vs (i : Nat) p := by
  unfold sides
  rw [List.getD_eq_getElem?_getD, List.getElem?_map, List.getElem?_range h]
  simp
theorem sides_ln {vs : List Ve} {p : Pt} : (sides vs p).length = vs.length := by unfold sides; simp
theorem prev_sides {vs : List Ve} {p : Pt} {i : Nat} (h : i < vs.length) : prev (sides vs p) i = side vs ((i : Nat) - 1) p := by
  unfold prev
  by_cases h0 : i = 0
  · subst h0
    rw [if_pos rfl, sides_ln, sides_get (by omega)]
    refine side_congr ?_
    have e : ((vs.length - 1 : Nat) : Int) = ((0 : Nat) : Int) - 1 + (vs.length : Nat) := by omega
    rw [e, Int.add_emod_right]
  · rw [if_neg h0, sides_get (by omega)]
    have e : ((i - 1 : Nat) : Int) = (i : Int) - 1 := by omega
    rw [e]
theorem cross_step {a b p q x y d : Int} (vx vy ux uy : Int) : (vx - ux) * (y - uy * d) - (vy - uy) * (x - ux * d) = (vx - ux) * (y - vy * d) - (vy - uy) * (x - vx * d) := by grind
/-- the side of the edge before, told from the vertex itself -/
theorem side_pre (vs : List Ve) (i : Int) (p : Pt) : side vs (i - 1) p = crs (edg vs (i - 1)) (p.1 - (vtx vs i).1 * p.2.2, p.2.1 - (vtx vs i).2 * p.2.2) := by
  have e : i - 1 + 1 = i := by omega
  unfold side crs edg dif
  rw [e]
  simp only
  grind
theorem Pol.cv {vs : List Ve} (h : Pol vs) {i k : Int} (h1 : k % (vs.length : Nat) ≠ i % (vs.length : Nat)) (h2 : k % (vs.length : Nat) ≠ (i + 1) % (vs.length : Nat)) : 0 < crs (edg vs i) (dif (vtx vs k) (vtx vs i)) := by
  have lo := h.lo
  have hi := h.hi
  have c := h.cvx (i % (vs.length : Nat)).toNat (by have := Int.emod_lt_of_pos i (b := (vs.length : Nat)) (by omega); have := Int.emod_nonneg i (b := (vs.length : Nat)) (by omega); omega) ((k - i - 2) % (vs.length : Nat)).toNat (by
    rcases (by omega : vs.length = 3 ∨ vs.length = 4 ∨ vs.length = 5 ∨ vs.length = 6) with e | e | e | e <;> rw [e] at h1 h2 ⊢ <;> omega)
  have e1 : vtx vs (((i % (vs.length : Nat)).toNat : Nat) : Int) = vtx vs i := vtx_congr (by rcases (by omega : vs.length = 3 ∨ vs.length = 4 ∨ vs.length = 5 ∨ vs.length = 6) with e | e | e | e <;> rw [e] at h1 h2 ⊢ <;> omega)
  have e2 : vtx vs ((((i % (vs.length : Nat)).toNat : Nat) : Int) + 1) = vtx vs (i + 1) := vtx_congr (by rcases (by omega : vs.length = 3 ∨ vs.length = 4 ∨ vs.length = 5 ∨ vs.length = 6) with e | e | e | e <;> rw [e] at h1 h2 ⊢ <;> omega)
  have e3 : vtx vs ((((i % (vs.length : Nat)).toNat : Nat) : Int) + (2 + ((((k - i - 2) % (vs.length : Nat)).toNat : Nat) : Int))) = vtx vs k := vtx_congr (by rcases (by omega : vs.length = 3 ∨ vs.length = 4 ∨ vs.length = 5 ∨ vs.length = 6) with e | e | e | e <;> rw [e] at h1 h2 ⊢ <;> omega)
  rw [e1, e2, e3] at c
  exact c
theorem Pol.ed {vs : List Ve} (h : Pol vs) (i : Int) : 0 < crs (edg vs (i - 1)) (edg vs i) := by
  have lo := h.lo
  have hi := h.hi
  have c := h.cv (i := i - 1) (k := i + 1) (by rcases (by omega : vs.length = 3 ∨ vs.length = 4 ∨ vs.length = 5 ∨ vs.length = 6) with e | e | e | e <;> rw [e] <;> omega) (by rcases (by omega : vs.length = 3 ∨ vs.length = 4 ∨ vs.length = 5 ∨ vs.length = 6) with e | e | e | e <;> rw [e] <;> omega)
  have e : i - 1 + 1 = i := by omega
  unfold crs edg dif at *
  rw [e] at *
  grind
theorem Pol.pre {vs : List Ve} (h : Pol vs) {i k : Int} (h1 : k % (vs.length : Nat) ≠ i % (vs.length : Nat)) : (0 ≤ crs (edg vs (i - 1)) (dif (vtx vs k) (vtx vs i)) ∧ 0 ≤ crs (edg vs i) (dif (vtx vs k) (vtx vs i))) ∧ (0 < crs (edg vs (i - 1)) (dif (vtx vs k) (vtx vs i)) ∨ 0 < crs (edg vs i) (dif (vtx vs k) (vtx vs i))) := by
  have lo := h.lo
  have hi := h.hi
  have e : i - 1 + 1 = i := by omega
  have q : crs (edg vs (i - 1)) (dif (vtx vs k) (vtx vs i)) = crs (edg vs (i - 1)) (dif (vtx vs k) (vtx vs (i - 1))) := by
    unfold crs edg dif
    rw [e]
    simp only
    grind
  have z : ∀ j : Int, crs (edg vs j) (dif (vtx vs j) (vtx vs j)) = 0 := fun j => by unfold crs dif; simp
  have z1 : ∀ j : Int, crs (edg vs j) (dif (vtx vs (j + 1)) (vtx vs j)) = 0 := fun j => by unfold crs edg dif; simp only; grind
  by_cases a : k % (vs.length : Nat) = (i - 1) % (vs.length : Nat)
  · have b : k % (vs.length : Nat) ≠ (i + 1) % (vs.length : Nat) := by rcases (by omega : vs.length = 3 ∨ vs.length = 4 ∨ vs.length = 5 ∨ vs.length = 6) with e | e | e | e <;> rw [e] at a ⊢ <;> omega
    have c := h.cv h1 b
    rw [q, vtx_congr a, z]
    rw [vtx_congr a] at c
    exact ⟨⟨by omega, by omega⟩, .inr c⟩
  · have b1 := h.cv (i := i - 1) (k := k) a (by rw [e]; exact h1)
    rw [q]
    by_cases b : k % (vs.length : Nat) = (i + 1) % (vs.length : Nat)
    · have := z1 i
      rw [← vtx_congr b] at this
      rw [this]
      exact ⟨⟨by omega, by omega⟩, .inl b1⟩
    · have c := h.cv h1 b
      exact ⟨⟨by omega, by omega⟩, .inl b1⟩
theorem gr2 {e1 e2 f1 f2 u1 u2 w1 w2 : Int} : (e1 * f2 - e2 * f1) * (u1 * w2 - u2 * w1) = (e1 * w2 - e2 * w1) * (u1 * f2 - u2 * f1) - (f1 * w2 - f2 * w1) * (u1 * e2 - u2 * e1) := by grind
/-- all other vertices lie on one side of the line through a tangent vertex -/
theorem Pol.one {vs : List Ve} (h : Pol vs) {dir i k : Int} {p : Pt} (hc : cnd dir vs i p) (h1 : k % (vs.length : Nat) ≠ i % (vs.length : Nat)) :
    0 < dir * crs ((vtx vs i).1 * p.2.2 - p.1, (vtx vs i).2 * p.2.2 - p.2.1) (dif (vtx vs k) (vtx vs i)) := by
  obtain ⟨c1, c2⟩ := hc
  obtain ⟨⟨a1, a2⟩, a3⟩ := h.pre h1
  have d0 := h.ed i
  have e1 : side vs (i - 1) p = crs ((vtx vs i).1 * p.2.2 - p.1, (vtx vs i).2 * p.2.2 - p.2.1) (edg vs (i - 1)) := by rw [side_pre]; unfold crs; simp only; grind
  have e2 : side vs i p = crs ((vtx vs i).1 * p.2.2 - p.1, (vtx vs i).2 * p.2.2 - p.2.1) (edg vs i) := by unfold side crs; simp only; grind
  have g : crs (edg vs (i - 1)) (edg vs i) * crs ((vtx vs i).1 * p.2.2 - p.1, (vtx vs i).2 * p.2.2 - p.2.1) (dif (vtx vs k) (vtx vs i)) =
      crs (edg vs (i - 1)) (dif (vtx vs k) (vtx vs i)) * side vs i p - crs (edg vs i) (dif (vtx vs k) (vtx vs i)) * side vs (i - 1) p := by
    rw [e1, e2]
    exact gr2
  generalize crs ((vtx vs i).1 * p.2.2 - p.1, (vtx vs i).2 * p.2.2 - p.2.1) (dif (vtx vs k) (vtx vs i)) = X at g ⊢
  generalize crs (edg vs (i - 1)) (edg vs i) = D at g d0
  generalize crs (edg vs (i - 1)) (dif (vtx vs k) (vtx vs i)) = A at g a1 a3
  generalize crs (edg vs i) (dif (vtx vs k) (vtx vs i)) = B at g a2 a3
  generalize side vs i p = s at g c2
  generalize side vs (i - 1) p = r at g c1
  have m1 : 0 ≤ A * (dir * s) := Int.mul_nonneg a1 (by omega)
  have m2 : 0 ≤ B * (-dir * r) := Int.mul_nonneg a2 (by omega)
  have m3 : 0 < A * (dir * s) + B * (-dir * r) := by
    rcases a3 with a3 | a3
    · have := Int.mul_pos a3 c2; omega
    · have := Int.mul_pos a3 c1; omega
  have m4 : D * (dir * X) = A * (dir * s) + B * (-dir * r) := by
    have : D * (dir * X) = dir * (D * X) := by grind
    rw [this, g]; grind
  rw [← m4] at m3
  exact Int.pos_of_mul_pos_right m3 (by omega) |> fun z => z
theorem Pol.uniq {vs : List Ve} (h : Pol vs) {dir i k : Int} {p : Pt} (h1 : cnd dir vs i p) (h2 : cnd dir vs k p) : i % (vs.length : Nat) = k % (vs.length : Nat) := by
  refine Decidable.byContradiction fun n => ?_
  have a := h.one h1 (k := k) (Ne.symm n)
  have b := h.one h2 (k := i) n
  unfold crs dif at a b
  simp only at a b
  grind
end O26
set_option linter.all false
namespace O26
def isDir (dir : Int) : Prop := dir = 1 ∨ dir = -1
theorem isDir.neg {dir : Int} (h : isDir dir) : isDir (-dir) := by rcases h with rfl | rfl; exact .inr rfl; exact .inl rfl
theorem cnd_b {dir : Int} {vs : List Ve} {p : Pt} {i : Nat} (hd : isDir dir) (hi : i < vs.length) : cnd dir vs (i : Nat) p ↔ (if dir = 1 then tanP (sides vs p) i else btanP (sides vs p) i) = true := by
  unfold cnd tanP btanP
  rcases hd with rfl | rfl
  · simp only [if_true, Bool.and_eq_true, decide_eq_true_eq]
    rw [prev_sides hi, sides_get hi]
    omega
  · rw [if_neg (by decide)]
    simp only [Bool.and_eq_true, decide_eq_true_eq]
    rw [prev_sides hi, sides_get hi]
    omega
theorem tanD_eq {dir : Int} {vs : List Ve} {p : Pt} : tanD dir vs p = (List.range vs.length).find? fun i => if dir = 1 then tanP (sides vs p) i else btanP (sides vs p) i := by
  unfold tanD tan btan
  by_cases h : dir = 1
  · simp only [if_pos h]
  · simp only [if_neg h]
theorem tanD_cnd {dir : Int} {vs : List Ve} {p : Pt} {i : Nat} (hd : isDir dir) (h : tanD dir vs p = some i) : i < vs.length ∧ cnd dir vs (i : Nat) p := by
  rw [tanD_eq] at h
  have h1 := List.mem_range.mp (List.mem_of_find?_eq_some h)
  exact ⟨h1, (cnd_b hd h1).mpr (List.find?_some (p := fun i => if dir = 1 then tanP (sides vs p) i else btanP (sides vs p) i) h)⟩
theorem Pol.tanD {dir : Int} {vs : List Ve} {p : Pt} {i : Nat} (hP : Pol vs) (hd : isDir dir) (hi : i < vs.length) (h : cnd dir vs (i : Nat) p) : tanD dir vs p = some i := by
  rw [tanD_eq]
  cases e : (List.range vs.length).find? fun i => if dir = 1 then tanP (sides vs p) i else btanP (sides vs p) i with
  | none => exact absurd ((cnd_b hd hi).mp h) (by have := List.find?_eq_none.mp e i (List.mem_range.mpr hi); exact this)
  | some k =>
    have hk := List.mem_range.mp (List.mem_of_find?_eq_some e)
    have q := hP.uniq h ((cnd_b hd hk).mpr (List.find?_some (p := fun i => if dir = 1 then tanP (sides vs p) i else btanP (sides vs p) i) e))
    rw [Int.emod_eq_of_lt (by omega) (by omega), Int.emod_eq_of_lt (by omega) (by omega)] at q
    rw [show k = i by omega]
theorem tanD_none {dir : Int} {vs : List Ve} {p : Pt} (hd : isDir dir) (h : ∀ i : Nat, i < vs.length → ¬ cnd dir vs (i : Nat) p) : O26.tanD dir vs p = none := by
  rw [tanD_eq]
  exact List.find?_eq_none.mpr fun i hi => fun z => h i (List.mem_range.mp hi) ((cnd_b hd (List.mem_range.mp hi)).mpr z)
/-! reflections and translations -/
theorem side_refl (vs : List Ve) (i : Int) (p : Pt) : side vs i (refl p (vtx vs i)) = -side vs i p := by
  unfold side refl crs; simp only; grind
theorem side_reflp (vs : List Ve) (i : Int) (p : Pt) : side vs (i - 1) (refl p (vtx vs i)) = -side vs (i - 1) p := by
  rw [side_pre, side_pre]
  unfold refl crs; simp only; grind
theorem cnd_refl {dir : Int} {vs : List Ve} {i : Int} {p : Pt} (h : cnd dir vs i p) : cnd (-dir) vs i (refl p (vtx vs i)) := by
  unfold cnd at *
  rw [side_refl, side_reflp]
  generalize side vs i p = a at *
  generalize side vs (i - 1) p = b at *
  have e1 : -(-dir) * -b = -dir * b := by grind
  have e2 : -dir * -a = dir * a := by grind
  rw [e1, e2]
  exact h
theorem refl_refl (p : Pt) (v : Ve) : refl (refl p v) v = p := by
  obtain ⟨x, y, d⟩ := p
  unfold refl
  simp only
  congr 1
  · omega
  · congr 1; omega
theorem side_trans (vs : List Ve) (i : Int) (p : Pt) (sh : Ve) (c : Int) : side vs i (trans p sh c) = side vs i p + c * (p.2.2 * crs (edg vs i) sh) := by
  unfold side trans crs; simp only; grind
theorem refl_trans (p : Pt) (v sh : Ve) (c : Int) : refl (trans p sh c) v = trans (refl p v) (-sh.1, -sh.2) c := by
  unfold refl trans; simp only; congr 1
  · grind
  · congr 1; grind
theorem refl2 (vs : List Ve) (p : Pt) (i j : Int) : refl (refl p (vtx vs i)) (vtx vs j) = trans p (shft vs i j) 1 := by
  unfold refl trans shft dif; simp only; congr 1
  · grind
  · congr 1; grind
theorem trans_trans (p : Pt) (sh : Ve) (a b : Int) : trans (trans p sh a) sh b = trans p sh (a + b) := by
  unfold trans; simp only; congr 1
  · grind
  · congr 1; grind
theorem trans_zero (p : Pt) (sh : Ve) : trans p sh 0 = p := by unfold trans; simp
/-! how many turns -/
theorem poscount_lt {v c q k : Int} (h : poscount v c = some q) : 0 < v + k * c ↔ k < q := by
  unfold poscount at h
  by_cases hc : c ≥ 0
  · rw [if_pos hc] at h; cases h
  · rw [if_neg hc] at h
    cases h
    have hp : 0 < -c := by omega
    rw [Int.lt_iff_add_one_le (a := k), Int.le_ediv_iff_mul_le hp]
    have : (k + 1) * -c = -(k * c) - c := by grind
    rw [this]
    omega
theorem poscount_none {v c k : Int} (h : poscount v c = none) (hk : 0 ≤ k) (hv : 0 < v) : 0 < v + k * c := by
  unfold poscount at h
  by_cases hc : c ≥ 0
  · have := Int.mul_nonneg hk hc
    omega
  · rw [if_neg hc] at h; cases h
/-- the four rows: value and change -/
def rows4 (vs : List Ve) (p : Pt) (i j dir : Int) : List (Int × Int) :=
  let sh := shft vs i j
  let q := refl p (vtx vs i)
  [(-dir * side vs (i - 1) p, -dir * p.2.2 * crs (edg vs (i - 1)) sh), (dir * side vs i p, dir * p.2.2 * crs (edg vs i) sh),
   (-dir * side vs (j - 1) q, -dir * q.2.2 * crs (edg vs (j - 1)) (-sh.1, -sh.2)), (dir * side vs j q, dir * q.2.2 * crs (edg vs j) (-sh.1, -sh.2))]
theorem pcounts_rows (vs : List Ve) (p : Pt) (i j dir : Int) : pcounts vs p i j dir = (rows4 vs p i j dir).filterMap fun r => poscount r.1 r.2 := rfl
theorem rows_cnd {vs : List Ve} {p : Pt} {i j dir c : Int} : (∀ r ∈ rows4 vs p i j dir, 0 < r.1 + c * r.2) ↔ cnd dir vs i (trans p (shft vs i j) c) ∧ cnd dir vs j (refl (trans p (shft vs i j) c) (vtx vs i)) := by
  rw [refl_trans]
  unfold cnd
  rw [side_trans, side_trans, side_trans, side_trans]
  unfold rows4
  simp only [List.mem_cons, List.mem_nil_iff, or_false, forall_eq_or_imp, forall_eq]
  have e : ∀ a b d x : Int, a * (b + c * (d * x)) = a * b + c * (a * d * x) := fun a b d x => by grind
  rw [e, e, e, e]
  constructor
  · rintro ⟨h1, h2, h3, h4⟩; exact ⟨⟨h1, h2⟩, h3, h4⟩
  · rintro ⟨⟨h1, h2⟩, h3, h4⟩; exact ⟨h1, h2, h3, h4⟩
theorem pcount_min {vs : List Ve} {p : Pt} {i j dir : Int} {m : Nat} (hm : 1 ≤ m) (h1 : ∀ c : Nat, c < m → cnd dir vs i (trans p (shft vs i j) c) ∧ cnd dir vs j (refl (trans p (shft vs i j) c) (vtx vs i)))
    (h2 : ¬ (cnd dir vs i (trans p (shft vs i j) m) ∧ cnd dir vs j (refl (trans p (shft vs i j) m) (vtx vs i)))) : (m : Int) ∈ pcounts vs p i j dir ∧ ∀ y ∈ pcounts vs p i j dir, (m : Int) ≤ y := by
  rw [pcounts_rows]
  have a : ∀ c : Nat, c < m → ∀ r ∈ rows4 vs p i j dir, 0 < r.1 + (c : Int) * r.2 := fun c hc => rows_cnd.mpr (h1 c hc)
  have b : ¬ ∀ r ∈ rows4 vs p i j dir, 0 < r.1 + (m : Int) * r.2 := fun z => h2 (rows_cnd.mp z)
  have low : ∀ y ∈ (rows4 vs p i j dir).filterMap (fun r => poscount r.1 r.2), (m : Int) ≤ y := fun y hy => by
    obtain ⟨r, hr, e⟩ := List.mem_filterMap.mp hy
    have := (poscount_lt e).mp (a (m - 1) (by omega) r hr)
    omega
  refine ⟨?_, low⟩
  obtain ⟨r, hr, n⟩ : ∃ r, r ∈ rows4 vs p i j dir ∧ ¬ 0 < r.1 + (m : Int) * r.2 := by
    refine Decidable.byContradiction fun z => b fun r hr => Decidable.byContradiction fun y => z ⟨r, hr, y⟩
  have v0 : 0 < r.1 := by have := a 0 (by omega) r hr; simpa using this
  cases e : poscount r.1 r.2 with
  | none => exact absurd (poscount_none e (by omega) v0) n
  | some q =>
    have hq : q ∈ (rows4 vs p i j dir).filterMap (fun r => poscount r.1 r.2) := List.mem_filterMap.mpr ⟨r, hr, e⟩
    have l := low q hq
    have u : ¬ (m : Int) < q := fun z => n ((poscount_lt e).mpr z)
    rw [show (m : Int) = q by omega]
    exact hq
/-- a chain of reflections until none is defined -/
structure Chn (dir : Int) (vs : List Ve) (N : Nat) (pt : Nat → Pt) (vx : Nat → Nat) (bs : List Nat) : Prop where
  st : ∀ i, i < N → tanD dir vs (pt i) = some (vx i)
  nx : ∀ i, i < N → pt (i + 1) = refl (pt i) (vtx vs (vx i : Nat))
  en : tanD dir vs (pt N) = none
  br : ∀ i, i + 2 < N → vx (i + 2) ≠ vx i → i ∈ bs
end O26
set_option linter.all false
set_option maxRecDepth 100000
set_option maxHeartbeats 4000000
/-! a chain of reflections and the segments in which the program lists it -/
namespace O26
theorem least_not {P : Nat → Prop} : ∀ n, ¬ P n → ∃ m, ¬ P m ∧ ∀ c, c < m → P c := by
  intro n
  induction n using Nat.strongRecOn with
  | ind n ih =>
    intro h
    by_cases z : ∃ c, c < n ∧ ¬ P c
    · obtain ⟨c, h1, h2⟩ := z
      exact ih c h1 h2
    · exact ⟨n, h, fun c hc => Classical.byContradiction fun y => z ⟨c, hc, y⟩⟩
theorem filter_lt {bs : List Nat} {b n n' : Nat} (h : b ∈ bs) (h1 : n ≤ b) (h2 : b < n') : (bs.filter fun x => decide (n' ≤ x)).length < (bs.filter fun x => decide (n ≤ x)).length := by
  induction bs with
  | nil => cases h
  | cons a bs ih =>
    have le : (bs.filter fun x => decide (n' ≤ x)).length ≤ (bs.filter fun x => decide (n ≤ x)).length := by
      clear ih h
      induction bs with
      | nil => exact Nat.le_refl _
      | cons c bs ih =>
        by_cases q : n' ≤ c
        · rw [List.filter_cons_of_pos (by simpa using q), List.filter_cons_of_pos (by simp; omega)]
          simp only [List.length_cons]; omega
        · rw [List.filter_cons_of_neg (by simpa using q)]
          by_cases q2 : n ≤ c
          · rw [List.filter_cons_of_pos (by simpa using q2)]; simp only [List.length_cons]; omega
          · rw [List.filter_cons_of_neg (by simpa using q2)]; exact ih
    rcases List.mem_cons.mp h with rfl | h
    · rw [List.filter_cons_of_neg (by simp; omega), List.filter_cons_of_pos (by simpa using h1)]
      simp only [List.length_cons]; omega
    · have := ih h
      by_cases q : n' ≤ a
      · rw [List.filter_cons_of_pos (by simpa using q), List.filter_cons_of_pos (by simp; omega)]
        simp only [List.length_cons]; omega
      · rw [List.filter_cons_of_neg (by simpa using q)]
        by_cases q2 : n ≤ a
        · rw [List.filter_cons_of_pos (by simpa using q2)]; simp only [List.length_cons]; omega
        · rw [List.filter_cons_of_neg (by simpa using q2)]; exact this
section
variable {dir : Int} {vs : List Ve} {N : Nat} {pt : Nat → Pt} {vx : Nat → Nat} {bs : List Nat}
theorem Chn.same (h : Chn dir vs N pt vx bs) {i j : Nat} (e : pt i = pt j) : ∀ t, i + t < N → j + t < N → pt (i + t) = pt (j + t) ∧ pt (i + t + 1) = pt (j + t + 1) := by
  intro t
  induction t with
  | zero =>
    intro h1 h2
    have a := h.st _ h1
    have b := h.st _ h2
    simp only [Nat.add_zero] at *
    rw [e, b] at a
    exact ⟨e, by rw [h.nx _ h1, h.nx _ h2, e, Option.some.inj a]⟩
  | succ t ih =>
    intro h1 h2
    have z := (ih (by omega) (by omega)).2
    have a := h.st _ h1
    have b := h.st _ h2
    have z' : pt (i + (t + 1)) = pt (j + (t + 1)) := z
    rw [z', b] at a
    exact ⟨z', by rw [h.nx _ h1, h.nx _ h2, z', Option.some.inj a]⟩
theorem Chn.inj (h : Chn dir vs N pt vx bs) {i j : Nat} (hi : i < j) (hj : j ≤ N) : pt i ≠ pt j := by
  intro e
  have z : pt (i + (N - j)) = pt N := by
    by_cases q : j = N
    · subst q; rw [Nat.sub_self]; exact e
    · have a := (h.same e (N - j - 1) (by omega) (by omega)).2
      rw [show i + (N - j - 1) + 1 = i + (N - j) by omega, show j + (N - j - 1) + 1 = N by omega] at a
      exact a
  have a := h.st (i + (N - j)) (by omega)
  rw [z, h.en] at a
  cases a
theorem Chn.np (h : Chn dir vs N pt vx bs) {n : Nat} (hn : n + 1 < N) : nextP dir vs (pt n) = (some (vx n), some (vx (n + 1))) := by
  have a := h.st n (by omega)
  have b := h.st (n + 1) hn
  rw [h.nx n (by omega)] at b
  unfold nextP
  rw [a]
  simp only [b]
theorem Chn.np1 (h : Chn dir vs N pt vx bs) {n : Nat} (hn : n + 1 = N) : nextP dir vs (pt n) = (some (vx n), none) := by
  have a := h.st n (by omega)
  have b := h.en
  rw [← hn, h.nx n (by omega)] at b
  unfold nextP
  rw [a]
  simp only [b]
theorem Chn.np0 (h : Chn dir vs N pt vx bs) : nextP dir vs (pt N) = (none, none) := by
  unfold nextP
  rw [h.en]
/-- one segment -/
structure Seg1 (dir : Int) (vs : List Ve) (N : Nat) (pt : Nat → Pt) (vx : Nat → Nat) (n m : Nat) : Prop where
  m1 : 1 ≤ m
  le : n + 2 * m ≤ N
  ev : ∀ c, c ≤ m → pt (n + 2 * c) = trans (pt n) (shft vs (vx n : Nat) (vx (n + 1) : Nat)) c
  od : ∀ c, c < m → pt (n + 2 * c + 1) = refl (trans (pt n) (shft vs (vx n : Nat) (vx (n + 1) : Nat)) c) (vtx vs (vx n : Nat))
  mn : (m : Int) ∈ pcounts vs (pt n) (vx n : Nat) (vx (n + 1) : Nat) dir ∧ ∀ y ∈ pcounts vs (pt n) (vx n : Nat) (vx (n + 1) : Nat) dir, (m : Int) ≤ y
  br : n + 2 * m + 2 ≤ N → ∃ b, (n ≤ b ∧ b < n + 2 * m) ∧ b + 2 < N ∧ vx (b + 2) ≠ vx b
theorem Chn.seg1 (hP : Pol vs) (hd : isDir dir) (h : Chn dir vs N pt vx bs) {n : Nat} (hn : n + 2 ≤ N) : ∃ m, Seg1 dir vs N pt vx n m := by
  have ex : ∃ m, ¬ (n + 2 * m + 2 ≤ N ∧ vx (n + 2 * m) = vx n ∧ vx (n + 2 * m + 1) = vx (n + 1)) ∧ ∀ c, c < m → (n + 2 * c + 2 ≤ N ∧ vx (n + 2 * c) = vx n ∧ vx (n + 2 * c + 1) = vx (n + 1)) :=
    least_not (P := fun c => n + 2 * c + 2 ≤ N ∧ vx (n + 2 * c) = vx n ∧ vx (n + 2 * c + 1) = vx (n + 1)) N (fun z => by omega)
  obtain ⟨m, bad, good⟩ := ex
  have m1 : 1 ≤ m := by
    refine Nat.one_le_iff_ne_zero.mpr fun z => bad ?_
    subst z
    exact ⟨hn, rfl, rfl⟩
  have le : n + 2 * m ≤ N := by have := (good (m - 1) (by omega)).1; omega
  have both : ∀ c, c < m → pt (n + 2 * c) = trans (pt n) (shft vs (vx n : Nat) (vx (n + 1) : Nat)) c → pt (n + 2 * c + 1) = refl (trans (pt n) (shft vs (vx n : Nat) (vx (n + 1) : Nat)) c) (vtx vs (vx n : Nat)) ∧ pt (n + 2 * (c + 1)) = trans (pt n) (shft vs (vx n : Nat) (vx (n + 1) : Nat)) (c + 1 : Nat) := fun c hc e => by
    obtain ⟨g1, g2, g3⟩ := good c hc
    have a := h.nx (n + 2 * c) (by omega)
    rw [g2, e] at a
    refine ⟨a, ?_⟩
    have b := h.nx (n + 2 * c + 1) (by omega)
    rw [a, g3, refl2, trans_trans] at b
    rw [show n + 2 * (c + 1) = n + 2 * c + 1 + 1 by omega, b]
    rfl
  have ev : ∀ c, c ≤ m → pt (n + 2 * c) = trans (pt n) (shft vs (vx n : Nat) (vx (n + 1) : Nat)) c := fun c => by
    induction c with
    | zero => intro _; rw [show ((0 : Nat) : Int) = 0 from rfl, trans_zero]; rfl
    | succ c ih => intro hc; exact (both c (by omega) (ih (by omega))).2
  have od : ∀ c, c < m → pt (n + 2 * c + 1) = refl (trans (pt n) (shft vs (vx n : Nat) (vx (n + 1) : Nat)) c) (vtx vs (vx n : Nat)) := fun c hc => (both c hc (ev c (by omega))).1
  have i1 := tanD_cnd hd (h.st n (by omega))
  have j1 := tanD_cnd hd (h.st (n + 1) (by omega))
  refine ⟨m, m1, le, ev, od, pcount_min m1 (fun c hc => ?_) (fun z => ?_), fun hb => ?_⟩
  · obtain ⟨g1, g2, g3⟩ := good c hc
    have a := tanD_cnd hd (h.st (n + 2 * c) (by omega))
    have b := tanD_cnd hd (h.st (n + 2 * c + 1) (by omega))
    rw [g2, ev c (by omega)] at a
    rw [g3, od c hc] at b
    exact ⟨a.2, b.2⟩
  · obtain ⟨z1, z2⟩ := z
    have a := hP.tanD hd i1.1 z1
    rw [← ev m (Nat.le_refl _)] at a
    have lt : n + 2 * m < N := by
      rcases Nat.lt_or_ge (n + 2 * m) N with q | q
      · exact q
      · rw [show n + 2 * m = N by omega, h.en] at a; cases a
    have a2 := h.st _ lt
    rw [a] at a2
    have e := Option.some.inj a2
    have b := h.nx _ lt
    rw [← e, ev m (Nat.le_refl _)] at b
    have c := hP.tanD hd j1.1 z2
    rw [← b] at c
    have lt2 : n + 2 * m + 1 < N := by
      rcases Nat.lt_or_ge (n + 2 * m + 1) N with q | q
      · exact q
      · rw [show n + 2 * m + 1 = N by omega, h.en] at c; cases c
    have c2 := h.st _ lt2
    rw [c] at c2
    exact bad ⟨by omega, e.symm, (Option.some.inj c2).symm⟩
  · obtain ⟨g1, g2, g3⟩ := good (m - 1) (by omega)
    by_cases q : vx (n + 2 * m) = vx n
    · refine ⟨n + 2 * (m - 1) + 1, ⟨by omega, by omega⟩, by omega, fun z => bad ⟨hb, q, ?_⟩⟩
      rw [g3, show n + 2 * (m - 1) + 1 + 2 = n + 2 * m + 1 by omega] at z
      exact z
    · refine ⟨n + 2 * (m - 1), ⟨by omega, by omega⟩, by omega, fun z => q ?_⟩
      rw [g2, show n + 2 * (m - 1) + 2 = n + 2 * m by omega] at z
      exact z
theorem transTo_some {p q : Pt} {sh : Ve} {c : Int} (h : transTo p sh q = some c) : 0 ≤ c ∧ q = trans p sh c := by
  unfold transTo at h
  by_cases hd : q.2.2 ≠ p.2.2
  · rw [if_pos hd] at h; cases h
  · rw [if_neg hd] at h
    simp only at h
    generalize (if sh.1 * p.2.2 ≠ 0 then (q.1 - p.1).fdiv (sh.1 * p.2.2) else (q.2.1 - p.2.1).fdiv (sh.2 * p.2.2)) = z at h
    split at h
    · rename_i k
      cases h
      obtain ⟨k1, k2, k3⟩ := k
      refine ⟨k1, ?_⟩
      obtain ⟨x, y, d⟩ := q
      unfold trans
      simp only at *
      congr 1
      · grind
      · congr 1
        · grind
        · omega
    · cases h
theorem Seg1.hits (h : Chn dir vs N pt vx bs) {n m : Nat} (s : Seg1 dir vs N pt vx n m) : ((⟨pt n, vx n, vx (n + 1), n, m⟩ : Sgm).hits vs (pt 0)).filter (fun c => decide (0 < c)) = [] := by
  refine List.filter_eq_nil_iff.mpr fun x hx => ?_
  rw [decide_eq_true_eq]
  unfold Sgm.hits at hx
  have le := s.le
  rcases List.mem_append.mp hx with k | k
  · unfold hit1 at k
    cases e : transTo (pt n) (shft vs (vx n : Nat) (vx (n + 1) : Nat)) (pt 0) with
    | none => rw [e] at k; cases k
    | some c =>
      rw [e] at k
      obtain ⟨c0, c1⟩ := transTo_some e
      by_cases hc : c < (m : Int)
      · simp only [if_pos hc, List.mem_singleton] at k
        have q := s.ev c.toNat (by omega)
        rw [Int.toNat_of_nonneg c0, ← c1] at q
        rcases Nat.eq_zero_or_pos (n + 2 * c.toNat) with z | z
        · omega
        · exact absurd q.symm (h.inj z (by omega))
      · simp only [if_neg hc] at k; cases k
  · unfold hit1 at k
    cases e : transTo (pt n) (shft vs (vx n : Nat) (vx (n + 1) : Nat)) (refl (pt 0) (vtx vs (vx n : Nat))) with
    | none => rw [show (⟨pt n, vx n, vx (n + 1), n, m⟩ : Sgm).i = (vx n : Nat) from rfl, e] at k; cases k
    | some c =>
      rw [show (⟨pt n, vx n, vx (n + 1), n, m⟩ : Sgm).i = (vx n : Nat) from rfl, e] at k
      obtain ⟨c0, c1⟩ := transTo_some e
      by_cases hc : c < (m : Int)
      · have q := s.od c.toNat (by omega)
        rw [Int.toNat_of_nonneg c0, ← c1, refl_refl] at q
        exact absurd q.symm (h.inj (by omega) (by omega))
      · simp only [if_neg hc] at k; cases k
theorem Seg1.at_ {n m : Nat} (s : Seg1 dir vs N pt vx n m) {j : Nat} (h1 : n ≤ j) (h2 : j ≤ n + 2 * m) : pt j = (⟨pt n, vx n, vx (n + 1), n, m⟩ : Sgm).at vs j := by
  unfold Sgm.at
  simp only
  rcases Nat.mod_two_eq_zero_or_one (j - n) with z | z
  · rw [if_neg (by omega)]
    have q := s.ev ((j - n) / 2) (by omega)
    rw [show n + 2 * ((j - n) / 2) = j by omega] at q
    rw [q]
    congr 1
    omega
  · rw [if_pos (by omega)]
    have q := s.od ((j - n) / 2) (by omega)
    rw [show n + 2 * ((j - n) / 2) + 1 = j by omega] at q
    rw [q]
    congr 2
    omega
/-- what the list of segments from a step on is like -/
structure SR (dir : Int) (vs : List Ve) (N : Nat) (pt : Nat → Pt) (bs : List Nat) (lim : Option Int) (n : Nat) (segs : List Sgm) (tl : Tl) : Prop where
  o : OrbR vs dir (pt 0) lim (pt n) n segs tl
  len : segs.length ≤ (bs.filter fun x => decide (n ≤ x)).length + 1
  ne : segs ≠ [] → n + 2 ≤ N
  st : ∀ g ∈ segs, (n : Int) < g.st + 2 * g.m
  tl_ : (tl = [] ∧ ∃ l, lim = some l ∧ l < N) ∨ tl.getLast? = some ((N : Int), pt N)
  at_ : ∀ j, n ≤ j → j ≤ N → limOk lim j = true → ∃ k, AtK vs segs tl j k (pt j)
theorem Chn.sr (hP : Pol vs) (hd : isDir dir) (h : Chn dir vs N pt vx bs) (hN : N ≤ 1000000000000000000000000000000000000000) (hS : ∀ i, i ≤ N → PtS (pt i) ∧ 1 ≤ (pt i).2.2 ∧ (pt i).2.2 ≤ 1000000) (lim : Option Int) :
    ∀ r n, n + r = N → ∃ segs tl, SR dir vs N pt bs lim n segs tl := by
  intro r
  induction r using Nat.strongRecOn with
  | ind r ih =>
    intro n hr
    cases hl : limOk lim n with
    | false =>
      refine ⟨[], [], .lim hl, Nat.zero_le _, fun z => absurd rfl z, nofun, .inl ⟨rfl, ?_⟩, fun j h1 h2 h3 => ?_⟩
      · cases lim with
        | none => cases hl
        | some l =>
          have : ¬ ((n : Int) ≤ l) := of_decide_eq_false hl
          exact ⟨l, rfl, by omega⟩
      · cases lim with
        | none => cases hl
        | some l =>
          have a : ¬ ((n : Int) ≤ l) := of_decide_eq_false hl
          have b : (j : Int) ≤ l := of_decide_eq_true h3
          omega
    | true =>
      rcases (by omega : n = N ∨ n + 1 = N ∨ n + 2 ≤ N) with e | e | e
      · subst e
        refine ⟨[], [((n : Int), pt n)], .fin0 hl (hS n (Nat.le_refl _)).1 h.np0, Nat.zero_le _, fun z => absurd rfl z, nofun, .inr rfl, fun j h1 h2 h3 => ⟨0, Nat.zero_le _, nofun, nofun, fun _ => ⟨[], ?_⟩⟩⟩
        have : j = n := by omega
        subst this
        simp
      · refine ⟨[], [((n : Int), pt n), ((n : Int) + 1, refl (pt n) (vtx vs (vx n : Nat)))], .fin1 hl (hS n (by omega)).1 (h.np1 e), Nat.zero_le _, fun z => absurd rfl z, nofun, .inr ?_, fun j h1 h2 h3 => ⟨0, Nat.zero_le _, nofun, nofun, fun _ => ⟨[], ?_⟩⟩⟩
        · rw [← h.nx n (by omega)]
          subst e
          rfl
        · rcases (by omega : j = n ∨ j = n + 1) with q | q
          · subst q
            rw [List.filter_cons_of_pos (by simp), List.filter_cons_of_neg (by simp; omega)]; rfl
          · subst q
            rw [List.filter_cons_of_neg (by simp; omega), List.filter_cons_of_pos (by simp), h.nx n (by omega)]; rfl
      · obtain ⟨m, s⟩ := h.seg1 hP hd e
        have m1 := s.m1
        have le := s.le
        obtain ⟨segs, tl, R⟩ := ih (r - 2 * m) (by omega) (n + 2 * m) (by omega)
        have hsn := hS n (by omega)
        have eat : (⟨pt n, vx n, vx (n + 1), n, m⟩ : Sgm).at vs ((n : Int) + 2 * m) = pt (n + 2 * m) := by
          rw [s.at_ (j := n + 2 * m) (by omega) (Nat.le_refl _)]
          congr 1
        have en : ((n + 2 * m : Nat) : Int) = (n : Int) + 2 * (m : Int) := by omega
        refine ⟨⟨pt n, vx n, vx (n + 1), n, m⟩ :: segs, tl, .seg hl hsn.1 hsn.2 (h.np (by omega)) (.of_le 1000000000000000000000000000000000000000 (by omega) (by omega)) s.mn ?_ (s.hits h) ?_, ?_, fun _ => e, fun g hg => ?_, R.tl_, fun j h1 h2 h3 => ?_⟩
        · refine Classical.byContradiction fun z => ?_
          have z1 : (shft vs (vx n : Nat) (vx (n + 1) : Nat)).1 = 0 := Classical.byContradiction fun q => z (.inl q)
          have z2 : (shft vs (vx n : Nat) (vx (n + 1) : Nat)).2 = 0 := Classical.byContradiction fun q => z (.inr q)
          have q := s.ev 1 m1
          have q2 : trans (pt n) (shft vs (vx n : Nat) (vx (n + 1) : Nat)) ((1 : Nat) : Int) = pt n := by
            unfold trans; rw [z1, z2]; simp
          rw [q2] at q
          exact h.inj (i := n) (j := n + 2 * 1) (by omega) (by omega) q.symm
        · rw [eat, ← en]; exact R.o
        · rw [List.length_cons]
          by_cases q : segs = []
          · rw [q]; simp only [List.length_nil]; omega
          · have n2 := R.ne q
            obtain ⟨b, ⟨b1, b2⟩, b3, b4⟩ := s.br n2
            have := filter_lt (h.br b b3 b4) b1 b2
            have := R.len
            omega
        · rcases List.mem_cons.mp hg with rfl | hg
          · simp only; omega
          · have := R.st g hg
            omega
        · rcases Nat.lt_or_ge j (n + 2 * m) with q | q
          · refine ⟨0, Nat.zero_le _, fun i g hi => ⟨fun z => ?_, fun z => absurd z (Nat.not_lt_zero _)⟩, fun g hg => ?_, fun z => by rw [List.getElem?_cons_zero] at z; cases z⟩
            · have hg := List.mem_of_getElem? hi
              rcases List.mem_cons.mp hg with rfl | hg
              · simp only at z; omega
              · have := R.st g hg
                omega
            · rw [List.getElem?_cons_zero] at hg
              cases hg
              exact ⟨hsn.1, .of_le 1000000000000000000000000000000000000000 (by simp only; omega) (by simp only; omega), s.at_ h1 (by omega)⟩
          · obtain ⟨k, a⟩ := R.at_ j q h2 h3
            refine ⟨k + 1, by rw [List.length_cons]; have := a.le; omega, fun i g hi => ?_, fun g hg => ?_, fun hk => ?_⟩
            · cases i with
              | zero =>
                rw [List.getElem?_cons_zero] at hi
                cases hi
                exact ⟨fun _ => Nat.succ_pos _, fun _ => by simp only; omega⟩
              | succ i =>
                rw [List.getElem?_cons_succ] at hi
                have := a.cut i g hi
                rw [this]
                omega
            · rw [List.getElem?_cons_succ] at hg
              exact a.one g hg
            · rw [List.getElem?_cons_succ] at hk
              exact a.end_ hk
end
end O26
set_option linter.all false
set_option maxRecDepth 100000
set_option maxHeartbeats 4000000
/-! from one whole chain to all that the law's walk asks -/
namespace O26
section
variable {dir : Int} {vs : List Ve} {N : Nat} {pt : Nat → Pt} {vx : Nat → Nat} {bs : List Nat}
theorem Chn.shift (h : Chn dir vs N pt vx bs) {i : Nat} (hi : i ≤ N) : Chn dir vs (N - i) (fun k => pt (i + k)) (fun k => vx (i + k)) (bs.map fun b => b - i) := by
  refine ⟨fun k hk => h.st _ (by omega), fun k hk => h.nx (i + k) (by omega), ?_, fun k hk hb => ?_⟩
  · show tanD dir vs (pt (i + (N - i))) = none
    rw [show i + (N - i) = N by omega]
    exact h.en
  · exact List.mem_map.mpr ⟨i + k, h.br (i + k) (by omega) hb, by omega⟩
theorem Chn.rev (hP : Pol vs) (hd : isDir dir) (h : Chn dir vs N pt vx bs) (h0 : tanD (-dir) vs (pt 0) = none) : Chn (-dir) vs N (fun k => pt (N - k)) (fun k => vx (N - 1 - k)) (bs.map fun b => N - 3 - b) := by
  refine ⟨fun k hk => ?_, fun k hk => ?_, ?_, fun k hk hb => ?_⟩
  · show tanD (-dir) vs (pt (N - k)) = some (vx (N - 1 - k))
    obtain ⟨c1, c2⟩ := tanD_cnd hd (h.st (N - 1 - k) (by omega))
    have e := h.nx (N - 1 - k) (by omega)
    rw [show N - 1 - k + 1 = N - k by omega] at e
    rw [e]
    exact hP.tanD hd.neg c1 (cnd_refl c2)
  · show pt (N - (k + 1)) = refl (pt (N - k)) (vtx vs (vx (N - 1 - k) : Nat))
    have e := h.nx (N - 1 - k) (by omega)
    rw [show N - 1 - k + 1 = N - k by omega] at e
    rw [e, refl_refl]
    congr 1
    omega
  · show tanD (-dir) vs (pt (N - N)) = none
    rw [Nat.sub_self]; exact h0
  · refine List.mem_map.mpr ⟨N - 3 - k, h.br (N - 3 - k) (by omega) fun z => hb ?_, by omega⟩
    show vx (N - 1 - (k + 2)) = vx (N - 1 - k)
    rw [show N - 1 - (k + 2) = N - 3 - k by omega, ← z]
    congr 1
    omega
/-- a chain with both its ends -/
structure Two (vs : List Ve) (N : Nat) (pt : Nat → Pt) : Prop where
  pol : Pol vs
  polB : PolB vs
  nb : N ≤ 1000000000000000000000000000000000000
  fw : ∃ vx bs, Chn 1 vs N pt vx bs ∧ bs.length ≤ 800
  bw : ∃ vx bs, Chn (-1) vs N (fun k => pt (N - k)) vx bs ∧ bs.length ≤ 800
  ok : ∀ i, i ≤ N → PtOk (pt i) ∧ OutS vs (pt i)
theorem filt_le {bs : List Nat} {f : Nat → Bool} : (bs.filter f).length ≤ bs.length := List.length_filter_le _ _
theorem Two.run (t : Two vs N pt) (lim : Option Int) {i : Nat} (hi : i ≤ N) : (∃ segs tl bs, SR 1 vs (N - i) (fun k => pt (i + k)) bs lim 0 segs tl ∧ bs.length ≤ 800) ∧ (∃ segs tl bs, SR (-1) vs i (fun k => pt (i - k)) bs lim 0 segs tl ∧ bs.length ≤ 800) := by
  have nb := t.nb
  refine ⟨?_, ?_⟩
  · obtain ⟨vx, bs, h, hb⟩ := t.fw
    obtain ⟨segs, tl, r⟩ := (h.shift hi).sr t.pol (.inl rfl) (by omega) (fun k hk => by have := (t.ok (i + k) (by omega)).1; exact ⟨this.s, this.d1, this.d2⟩) lim (N - i) 0 (by omega)
    exact ⟨segs, tl, _, r, by rw [List.length_map]; exact hb⟩
  · obtain ⟨vx, bs, h, hb⟩ := t.bw
    have q := h.shift (i := N - i) (by omega)
    have e : (fun k => (fun k => pt (N - k)) (N - i + k)) = fun k => pt (i - k) := by
      funext k
      show pt (N - (N - i + k)) = _
      congr 1
      omega
    rw [e, show N - (N - i) = i by omega] at q
    obtain ⟨segs, tl, r⟩ := q.sr t.pol (.inr rfl) (by omega) (fun k hk => by have := (t.ok (i - k) (by omega)).1; exact ⟨this.s, this.d1, this.d2⟩) lim i 0 (by omega)
    exact ⟨segs, tl, _, r, by rw [List.length_map]; exact hb⟩
theorem SR.orb {M : Nat} {lim : Option Int} {segs : List Sgm} {tl : Tl} (r : SR dir vs M pt bs lim 0 segs tl) (hb : bs.length ≤ 800) : OrbO vs dir (pt 0) lim segs tl := by
  have := r.len
  have := filt_le (bs := bs) (f := fun x => decide (0 ≤ x))
  exact ⟨r.o, by omega⟩
theorem SR.last {M : Nat} {lim : Option Int} {segs : List Sgm} {tl : Tl} (r : SR dir vs M pt bs lim 0 segs tl) (h : ∀ l, lim = some l → (M : Int) ≤ l) : tl.getLast? = some ((M : Int), pt M) := by
  rcases r.tl_ with ⟨e, l, h1, h2⟩ | e
  · have := h l h1; omega
  · exact e
theorem Two.trip (t : Two vs N pt) : Trip vs N pt := by
  have nb := t.nb
  refine ⟨by omega, t.ok, ?_, ?_, fun i hi => ?_, fun i j n hi hj e => ?_, fun i n hi ho hn => ?_⟩
  · obtain ⟨vx, bs, h, _⟩ := t.bw
    have := h.en
    rw [Nat.sub_self] at this
    exact this
  · obtain ⟨vx, bs, h, _⟩ := t.fw
    exact h.en
  · obtain ⟨⟨segs, tl, bs, r, hb⟩, segs2, tl2, bs2, r2, hb2⟩ := t.run none hi
    refine ⟨segs, segs2, tl, tl2, _, _, r.orb hb, r2.orb hb2, r.last nofun, r2.last nofun, ?_, rfl⟩
    show ((N - i : Nat) : Int) = _
    omega
  · obtain ⟨⟨segs, tl, bs, r, hb⟩, segs2, tl2, bs2, r2, hb2⟩ := t.run (some (iabs n)) hi
    have ha := iabs_eq n
    by_cases hn : n ≥ 0
    · obtain ⟨k, a⟩ := r.at_ (j - i) (Nat.zero_le _) (by omega) (decide_eq_true (by omega))
      have e1 : ((j - i : Nat) : Int) = iabs n := by omega
      rw [e1, show i + (j - i) = j by omega] at a
      refine ⟨segs, tl, k, ⟨t.polB, (t.ok i hi).1.s, ?_⟩, ?_, a⟩
      · rw [if_pos hn]; exact r.orb hb
      · rcases r.tl_ with q | q
        · exact .inl q.1
        · exact .inr ⟨_, q, by show iabs n ≤ ((N - i : Nat) : Int); omega⟩
    · obtain ⟨k, a⟩ := r2.at_ (i - j) (Nat.zero_le _) (by omega) (decide_eq_true (by omega))
      have e1 : ((i - j : Nat) : Int) = iabs n := by omega
      rw [e1, show i - (i - j) = j by omega] at a
      refine ⟨segs2, tl2, k, ⟨t.polB, (t.ok i hi).1.s, ?_⟩, ?_, a⟩
      · rw [if_neg hn]; exact r2.orb hb2
      · rcases r2.tl_ with q | q
        · exact .inl q.1
        · exact .inr ⟨_, q, by show iabs n ≤ (i : Int); omega⟩
  · obtain ⟨⟨segs, tl, bs, r, hb⟩, segs2, tl2, bs2, r2, hb2⟩ := t.run (some (iabs n)) hi
    have ha := iabs_eq n
    by_cases hp : n ≥ 0
    · refine ⟨segs, tl, _, ⟨t.polB, (t.ok i hi).1.s, ?_⟩, r.last (fun l hl => ?_), ?_, ?_⟩
      · rw [if_pos hp]; exact r.orb hb
      · cases hl; omega
      · show ((N - i : Nat) : Int) < _; omega
      · rw [if_pos hp]; show ((N - i : Nat) : Int) = _; omega
    · refine ⟨segs2, tl2, _, ⟨t.polB, (t.ok i hi).1.s, ?_⟩, r2.last (fun l hl => ?_), ?_, ?_⟩
      · rw [if_neg hp]; exact r2.orb hb2
      · cases hl; omega
      · show (i : Int) < _; omega
      · rw [if_neg hp]
end
end O26
set_option linter.all false
/-! a run over a whole family of points at once, by forms in d, k d and w: the checking program -/
namespace O26
structure SX where
  a1 : Int
  a2 : Int
  b1 : Int
  b2 : Int
  c1 : Int
  c2 : Int
structure Fo where
  a : Int
  b : Int
  c : Int
/-- q times the side of an edge -/
def frm (B : List Ve) (q : Int) (i : Int) (X : SX) : Fo :=
  let e := edg B i
  let v := vtx B i
  ⟨e.1 * (X.a2 - q * v.2) - e.2 * (X.a1 - q * v.1), e.1 * X.b2 - e.2 * X.b1, e.1 * X.c2 - e.2 * X.c1⟩
def Fo.neg (f : Fo) : Fo := ⟨-f.a, -f.b, -f.c⟩
def Fo.nn (lo hi : Int) (f : Fo) : Bool := decide (0 ≤ f.b) && (decide (0 ≤ f.a + f.c * lo) && decide (0 ≤ f.a + f.c * hi))
def Fo.pos (lo hi : Int) (f : Fo) : Bool := f.nn lo hi && decide (0 < (f.a + f.c * lo) + (f.a + f.c * hi))
def SX.rf (B : List Ve) (q : Int) (i : Int) (X : SX) : SX :=
  let v := vtx B i
  ⟨2 * q * v.1 - X.a1, 2 * q * v.2 - X.a2, -X.b1, -X.b2, -X.c1, -X.c2⟩
def SX.mv (q : Int) (sh : Ve) (z0 z1 : Int) (X : SX) : SX :=
  ⟨X.a1 + q * z0 * sh.1, X.a2 + q * z0 * sh.2, X.b1 + q * z1 * sh.1, X.b2 + q * z1 * sh.2, X.c1, X.c2⟩
/-- the tangent vertex i, backward -/
def scnd (B : List Ve) (q lo hi : Int) (i : Int) (X : SX) : Bool := (frm B q (i - 1) X).pos lo hi && (frm B q i X).neg.pos lo hi
/-- no vertex is the tangent one, backward -/
def snone (B : List Ve) (q lo hi : Int) (X : SX) : Bool := (List.range B.length).all fun i => (frm B q (i : Nat) X).nn lo hi || (frm B q ((i : Nat) - 1) X).neg.nn lo hi
/-- none forward, and one edge from which it lies outside -/
def sdead (B : List Ve) (q lo hi : Int) (X : SX) : Bool :=
  ((List.range B.length).all fun i => (frm B q (i : Nat) X).neg.nn lo hi || (frm B q ((i : Nat) - 1) X).nn lo hi) && (List.range B.length).any fun i => (frm B q (i : Nat) X).neg.pos lo hi
def zmin (q lo hi : Int) (f : Fo) (c : Int) (z : Option (Int × Int)) : Option (Int × Int) :=
  if c ≤ 0 then z else
    let u := f.a + f.c * lo
    let v := f.a + f.c * hi
    let m := if u ≤ v then u else v
    let z0 := if u = v then (m - 1) / (q * c) + 1 else m / (q * c) + 1
    let z1 := f.b / (q * c)
    match z with
    | none => some (z0, z1)
    | some (y0, y1) => some (if z0 ≤ y0 then z0 else y0, if z1 ≤ y1 then z1 else y1)
def zcount (B : List Ve) (q lo hi : Int) (i j : Int) (X Y : SX) (sh : Ve) : Int × Int :=
  (zmin q lo hi (frm B q (i - 1) X) (-crs (edg B (i - 1)) sh) (zmin q lo hi (frm B q i X).neg (crs (edg B i) sh)
    (zmin q lo hi (frm B q (j - 1) Y) (crs (edg B (j - 1)) sh) (zmin q lo hi (frm B q j Y).neg (-crs (edg B j) sh) none)))).getD (0, 0)
/-- the run: fuel, what is left of both counts -/
def srun (B : List Ve) (q lo hi : Int) : Nat → Int → Int → SX → Bool
  | 0, _, _, _ => false
  | n + 1, m0, m1, X =>
    match (List.range B.length).find? fun i => scnd B q lo hi (i : Nat) X with
    | none => snone B q lo hi X
    | some i =>
      let Y := X.rf B q (i : Nat)
      match (List.range B.length).find? fun j => scnd B q lo hi (j : Nat) Y with
      | none => snone B q lo hi Y
      | some j =>
        let sh := shft B (i : Nat) (j : Nat)
        let z := zcount B q lo hi i j X Y sh
        let W := X.mv q sh (z.1 - 1) z.2
        decide (1 ≤ z.1) && (decide (0 ≤ z.2) && (decide (z.1 ≤ m0) && (decide (z.2 ≤ m1) && (scnd B q lo hi (i : Nat) W && (scnd B q lo hi (j : Nat) (W.rf B q (i : Nat)) && srun B q lo hi n (m0 - z.1) (m1 - z.2) (X.mv q sh z.1 z.2))))))
def srun0 (B : List Ve) (q lo hi : Int) (X : SX) : Bool := sdead B q lo hi X && srun B q lo hi 60 100000 100000 X
def sx0 (B : List Ve) (q T : Int) (e : Int) : SX :=
  let a := vtx B e
  let u := dif a (vtx B (e + 1))
  ⟨q * a.1, q * a.2, q * T * u.1, q * T * u.2, u.1, u.2⟩
/-- the places b, .. and the pieces between them, up to the end -/
def spieces (chk : Int → Int → Bool) : List Int → Int → Bool
  | [], _ => true
  | b :: r, e => chk b b && (chk b (match r with | [] => e | c :: _ => c) && spieces chk r e)
structure Cert where
  q : Int
  T : Int
  K : Int
  first : Int
  fin : List Int
  inf : List Int
def Cert.ok (B : List Ve) (e : Int) (c : Cert) : Bool :=
  decide (1 ≤ c.q) && (decide (1 ≤ c.T) && (decide (1 ≤ c.K) && (decide (c.fin ++ [c.K * c.T * c.q] = c.first :: (c.fin ++ [c.K * c.T * c.q]).tail) && (decide (c.inf.head? = some (c.K * c.T * c.q)) &&
  (srun0 B c.q 0 c.first (sx0 B c.q 0 e) && (spieces (fun lo hi => srun0 B c.q lo hi (sx0 B c.q 0 e)) c.fin (c.K * c.T * c.q) &&
  spieces (fun lo hi => srun0 B c.q lo hi (sx0 B c.q c.T e)) c.inf ((c.K + 1) * c.T * c.q)))))))
end O26
set_option linter.all false
set_option maxRecDepth 100000
namespace O26
def bs0 : List Ve := [(0, 0), (1, 0), (0, 1)]
def ce0_0 : Cert := ⟨1, 2, 1, 1, [1], [2, 3]⟩
theorem ck0_0 : ce0_0.ok bs0 ((0 : Nat) : Int) = true := by decide +kernel
def ce0_1 : Cert := ⟨1, 2, 1, 1, [1], [2, 3]⟩
theorem ck0_1 : ce0_1.ok bs0 ((1 : Nat) : Int) = true := by decide +kernel
def ce0_2 : Cert := ⟨1, 2, 1, 1, [1], [2, 3]⟩
theorem ck0_2 : ce0_2.ok bs0 ((2 : Nat) : Int) = true := by decide +kernel
theorem ck0 : ∀ e : Nat, e < bs0.length → ∃ c : Cert, c.ok bs0 (e : Nat) = true
  | 0, _ => ⟨_, ck0_0⟩
  | 1, _ => ⟨_, ck0_1⟩
  | 2, _ => ⟨_, ck0_2⟩
  | n + 3, h => absurd h (Nat.not_lt_of_le (Nat.le_add_left _ _))
def bs1 : List Ve := [(0, 0), (1, 0), (1, 1), (0, 1)]
def ce1_0 : Cert := ⟨1, 2, 1, 1, [1], [2, 3]⟩
theorem ck1_0 : ce1_0.ok bs1 ((0 : Nat) : Int) = true := by decide +kernel
def ce1_1 : Cert := ⟨1, 2, 1, 1, [1], [2, 3]⟩
theorem ck1_1 : ce1_1.ok bs1 ((1 : Nat) : Int) = true := by decide +kernel
def ce1_2 : Cert := ⟨1, 2, 1, 1, [1], [2, 3]⟩
theorem ck1_2 : ce1_2.ok bs1 ((2 : Nat) : Int) = true := by decide +kernel
def ce1_3 : Cert := ⟨1, 2, 1, 1, [1], [2, 3]⟩
theorem ck1_3 : ce1_3.ok bs1 ((3 : Nat) : Int) = true := by decide +kernel
theorem ck1 : ∀ e : Nat, e < bs1.length → ∃ c : Cert, c.ok bs1 (e : Nat) = true
  | 0, _ => ⟨_, ck1_0⟩
  | 1, _ => ⟨_, ck1_1⟩
  | 2, _ => ⟨_, ck1_2⟩
  | 3, _ => ⟨_, ck1_3⟩
  | n + 4, h => absurd h (Nat.not_lt_of_le (Nat.le_add_left _ _))
def bs2 : List Ve := [(0, 0), (2, 0), (1, 1), (0, 1)]
def ce2_0 : Cert := ⟨1, 4, 1, 1, [1, 2, 3], [4, 5, 6, 7]⟩
theorem ck2_0 : ce2_0.ok bs2 ((0 : Nat) : Int) = true := by decide +kernel
def ce2_1 : Cert := ⟨1, 4, 1, 1, [1, 2, 3], [4, 5, 6, 7]⟩
theorem ck2_1 : ce2_1.ok bs2 ((1 : Nat) : Int) = true := by decide +kernel
def ce2_2 : Cert := ⟨1, 8, 1, 3, [3, 4, 6, 7], [8, 10, 11, 12, 14, 15]⟩
theorem ck2_2 : ce2_2.ok bs2 ((2 : Nat) : Int) = true := by decide +kernel
def ce2_3 : Cert := ⟨1, 4, 1, 1, [1, 2, 3], [4, 5, 6, 7]⟩
theorem ck2_3 : ce2_3.ok bs2 ((3 : Nat) : Int) = true := by decide +kernel
theorem ck2 : ∀ e : Nat, e < bs2.length → ∃ c : Cert, c.ok bs2 (e : Nat) = true
  | 0, _ => ⟨_, ck2_0⟩
  | 1, _ => ⟨_, ck2_1⟩
  | 2, _ => ⟨_, ck2_2⟩
  | 3, _ => ⟨_, ck2_3⟩
  | n + 4, h => absurd h (Nat.not_lt_of_le (Nat.le_add_left _ _))
def bs3 : List Ve := [(0, 0), (1, 0), (2, 1), (2, 2), (1, 2), (0, 1)]
def ce3_0 : Cert := ⟨1, 4, 2, 1, [1, 2, 3, 4, 5, 6, 7], [8, 9, 10, 11]⟩
theorem ck3_0 : ce3_0.ok bs3 ((0 : Nat) : Int) = true := by decide +kernel
def ce3_1 : Cert := ⟨1, 4, 2, 1, [1, 2, 3, 4, 5, 6, 7], [8, 9, 10, 11]⟩
theorem ck3_1 : ce3_1.ok bs3 ((1 : Nat) : Int) = true := by decide +kernel
def ce3_2 : Cert := ⟨1, 4, 2, 1, [1, 2, 3, 4, 5, 6, 7], [8, 9, 10, 11]⟩
theorem ck3_2 : ce3_2.ok bs3 ((2 : Nat) : Int) = true := by decide +kernel
def ce3_3 : Cert := ⟨1, 4, 2, 1, [1, 2, 3, 4, 5, 6, 7], [8, 9, 10, 11]⟩
theorem ck3_3 : ce3_3.ok bs3 ((3 : Nat) : Int) = true := by decide +kernel
def ce3_4 : Cert := ⟨1, 4, 2, 1, [1, 2, 3, 4, 5, 6, 7], [8, 9, 10, 11]⟩
theorem ck3_4 : ce3_4.ok bs3 ((4 : Nat) : Int) = true := by decide +kernel
def ce3_5 : Cert := ⟨1, 4, 2, 1, [1, 2, 3, 4, 5, 6, 7], [8, 9, 10, 11]⟩
theorem ck3_5 : ce3_5.ok bs3 ((5 : Nat) : Int) = true := by decide +kernel
theorem ck3 : ∀ e : Nat, e < bs3.length → ∃ c : Cert, c.ok bs3 (e : Nat) = true
  | 0, _ => ⟨_, ck3_0⟩
  | 1, _ => ⟨_, ck3_1⟩
  | 2, _ => ⟨_, ck3_2⟩
  | 3, _ => ⟨_, ck3_3⟩
  | 4, _ => ⟨_, ck3_4⟩
  | 5, _ => ⟨_, ck3_5⟩
  | n + 6, h => absurd h (Nat.not_lt_of_le (Nat.le_add_left _ _))
def bs4 : List Ve := [(0, 0), (2, 0), (2, 1), (1, 2), (0, 2)]
def ce4_0 : Cert := ⟨2, 6, 1, 1, [1, 2, 3, 4, 5, 6, 8, 9, 10], [12, 13, 14, 15, 16, 17, 18, 20, 21, 22]⟩
theorem ck4_0 : ce4_0.ok bs4 ((0 : Nat) : Int) = true := by decide +kernel
def ce4_1 : Cert := ⟨1, 12, 1, 2, [2, 4, 5, 6, 8, 10, 11], [12, 14, 16, 17, 18, 20, 22, 23]⟩
theorem ck4_1 : ce4_1.ok bs4 ((1 : Nat) : Int) = true := by decide +kernel
def ce4_2 : Cert := ⟨1, 8, 1, 1, [1, 2, 3, 4, 5, 6, 7], [8, 9, 10, 11, 12, 13, 14, 15]⟩
theorem ck4_2 : ce4_2.ok bs4 ((2 : Nat) : Int) = true := by decide +kernel
def ce4_3 : Cert := ⟨1, 12, 1, 1, [1, 3, 5, 7, 9, 10, 11], [12, 13, 15, 17, 19, 21, 22, 23]⟩
theorem ck4_3 : ce4_3.ok bs4 ((3 : Nat) : Int) = true := by decide +kernel
def ce4_4 : Cert := ⟨2, 6, 1, 1, [1, 2, 4, 6, 7, 8, 10], [12, 13, 14, 16, 18, 19, 20, 22]⟩
theorem ck4_4 : ce4_4.ok bs4 ((4 : Nat) : Int) = true := by decide +kernel
theorem ck4 : ∀ e : Nat, e < bs4.length → ∃ c : Cert, c.ok bs4 (e : Nat) = true
  | 0, _ => ⟨_, ck4_0⟩
  | 1, _ => ⟨_, ck4_1⟩
  | 2, _ => ⟨_, ck4_2⟩
  | 3, _ => ⟨_, ck4_3⟩
  | 4, _ => ⟨_, ck4_4⟩
  | n + 5, h => absurd h (Nat.not_lt_of_le (Nat.le_add_left _ _))
def bs5 : List Ve := [(0, 0), (3, 0), (1, 2), (0, 2)]
def ce5_0 : Cert := ⟨3, 6, 1, 1, [1, 3, 5, 6, 7, 9, 11, 12, 13, 15, 17], [18, 19, 21, 23, 24, 25, 27, 29, 30, 31, 33, 35]⟩
theorem ck5_0 : ce5_0.ok bs5 ((0 : Nat) : Int) = true := by decide +kernel
def ce5_1 : Cert := ⟨2, 6, 1, 1, [1, 2, 3, 4, 5, 6, 7, 8, 10], [12, 13, 14, 15, 16, 17, 18, 19, 20, 22]⟩
theorem ck5_1 : ce5_1.ok bs5 ((1 : Nat) : Int) = true := by decide +kernel
def ce5_2 : Cert := ⟨1, 18, 1, 5, [5, 6, 8, 10, 11, 12, 14, 16, 17], [18, 20, 22, 23, 24, 26, 28, 29, 30, 32, 34, 35]⟩
theorem ck5_2 : ce5_2.ok bs5 ((2 : Nat) : Int) = true := by decide +kernel
def ce5_3 : Cert := ⟨2, 6, 1, 1, [1, 2, 3, 4, 5, 6, 7, 8, 9, 10, 11], [12, 13, 14, 15, 16, 17, 18, 19, 20, 21, 22, 23]⟩
theorem ck5_3 : ce5_3.ok bs5 ((3 : Nat) : Int) = true := by decide +kernel
theorem ck5 : ∀ e : Nat, e < bs5.length → ∃ c : Cert, c.ok bs5 (e : Nat) = true
  | 0, _ => ⟨_, ck5_0⟩
  | 1, _ => ⟨_, ck5_1⟩
  | 2, _ => ⟨_, ck5_2⟩
  | 3, _ => ⟨_, ck5_3⟩
  | n + 4, h => absurd h (Nat.not_lt_of_le (Nat.le_add_left _ _))
def bs6 : List Ve := [(0, 1), (1, 0), (2, 2), (1, 2)]
def ce6_0 : Cert := ⟨3, 8, 1, 1, [1, 3, 5, 7, 9, 11, 13, 15, 17, 18, 21], [24, 25, 27, 29, 31, 33, 35, 37, 39, 41, 42, 45]⟩
theorem ck6_0 : ce6_0.ok bs6 ((0 : Nat) : Int) = true := by decide +kernel
def ce6_1 : Cert := ⟨3, 8, 1, 3, [3, 4, 6, 8, 9, 10, 12, 14, 15, 18, 21], [24, 27, 28, 30, 32, 33, 34, 36, 38, 39, 42, 45]⟩
theorem ck6_1 : ce6_1.ok bs6 ((1 : Nat) : Int) = true := by decide +kernel
def ce6_2 : Cert := ⟨1, 12, 1, 1, [1, 3, 4, 5, 6, 7, 8, 9, 10, 11], [12, 13, 14, 15, 16, 17, 18, 19, 20, 21, 22, 23]⟩
theorem ck6_2 : ce6_2.ok bs6 ((2 : Nat) : Int) = true := by decide +kernel
def ce6_3 : Cert := ⟨1, 12, 1, 2, [2, 4, 5, 6, 8, 10, 11], [12, 14, 16, 17, 18, 20, 22, 23]⟩
theorem ck6_3 : ce6_3.ok bs6 ((3 : Nat) : Int) = true := by decide +kernel
theorem ck6 : ∀ e : Nat, e < bs6.length → ∃ c : Cert, c.ok bs6 (e : Nat) = true
  | 0, _ => ⟨_, ck6_0⟩
  | 1, _ => ⟨_, ck6_1⟩
  | 2, _ => ⟨_, ck6_2⟩
  | 3, _ => ⟨_, ck6_3⟩
  | n + 4, h => absurd h (Nat.not_lt_of_le (Nat.le_add_left _ _))
def bs7 : List Ve := [(1, 0), (2, 0), (3, 2), (2, 4), (1, 4)]
def ce7_0 : Cert := ⟨1, 6, 1, 1, [1, 3, 4, 5], [6, 7, 8, 9, 10, 11]⟩
theorem ck7_0 : ce7_0.ok bs7 ((0 : Nat) : Int) = true := by decide +kernel
def ce7_1 : Cert := ⟨1, 4, 2, 1, [1, 2, 3, 4, 5, 6, 7], [8, 9, 10, 11]⟩
theorem ck7_1 : ce7_1.ok bs7 ((1 : Nat) : Int) = true := by decide +kernel
def ce7_2 : Cert := ⟨1, 4, 2, 1, [1, 2, 3, 4, 5, 6, 7], [8, 9, 10, 11]⟩
theorem ck7_2 : ce7_2.ok bs7 ((2 : Nat) : Int) = true := by decide +kernel
def ce7_3 : Cert := ⟨1, 6, 2, 2, [2, 3, 4, 5, 6, 7, 8, 9, 10, 11], [12, 13, 14, 15, 16, 17]⟩
theorem ck7_3 : ce7_3.ok bs7 ((3 : Nat) : Int) = true := by decide +kernel
def ce7_4 : Cert := ⟨2, 3, 2, 1, [1, 2, 3, 4, 5, 6, 7, 8, 9, 10, 11], [12, 13, 14, 15, 16, 17]⟩
theorem ck7_4 : ce7_4.ok bs7 ((4 : Nat) : Int) = true := by decide +kernel
theorem ck7 : ∀ e : Nat, e < bs7.length → ∃ c : Cert, c.ok bs7 (e : Nat) = true
  | 0, _ => ⟨_, ck7_0⟩
  | 1, _ => ⟨_, ck7_1⟩
  | 2, _ => ⟨_, ck7_2⟩
  | 3, _ => ⟨_, ck7_3⟩
  | 4, _ => ⟨_, ck7_4⟩
  | n + 5, h => absurd h (Nat.not_lt_of_le (Nat.le_add_left _ _))
def bs8 : List Ve := [(0, 0), (1, 0), (3, 1), (3, 2), (2, 3), (1, 2)]
def ce8_0 : Cert := ⟨1, 10, 2, 1, [1, 3, 4, 5, 7, 8, 9, 10, 11, 13, 14, 15, 17, 18, 19], [20, 21, 23, 24, 25, 27, 28, 29]⟩
theorem ck8_0 : ce8_0.ok bs8 ((0 : Nat) : Int) = true := by decide +kernel
def ce8_1 : Cert := ⟨3, 6, 2, 2, [2, 3, 6, 9, 10, 12, 15, 18, 20, 21, 24, 27, 28, 30, 33], [36, 38, 39, 42, 45, 46, 48, 51]⟩
theorem ck8_1 : ce8_1.ok bs8 ((1 : Nat) : Int) = true := by decide +kernel
def ce8_2 : Cert := ⟨1, 10, 2, 1, [1, 3, 4, 5, 7, 8, 9, 10, 11, 13, 14, 15, 17, 18, 19], [20, 21, 23, 24, 25, 27, 28, 29]⟩
theorem ck8_2 : ce8_2.ok bs8 ((2 : Nat) : Int) = true := by decide +kernel
def ce8_3 : Cert := ⟨3, 6, 2, 2, [2, 3, 6, 9, 10, 12, 15, 18, 20, 21, 24, 27, 28, 30, 33], [36, 38, 39, 42, 45, 46, 48, 51]⟩
theorem ck8_3 : ce8_3.ok bs8 ((3 : Nat) : Int) = true := by decide +kernel
def ce8_4 : Cert := ⟨1, 10, 2, 1, [1, 3, 4, 5, 7, 8, 9, 10, 11, 13, 14, 15, 17, 18, 19], [20, 21, 23, 24, 25, 27, 28, 29]⟩
theorem ck8_4 : ce8_4.ok bs8 ((4 : Nat) : Int) = true := by decide +kernel
def ce8_5 : Cert := ⟨3, 6, 2, 2, [2, 3, 6, 9, 10, 12, 15, 18, 20, 21, 24, 27, 28, 30, 33], [36, 38, 39, 42, 45, 46, 48, 51]⟩
theorem ck8_5 : ce8_5.ok bs8 ((5 : Nat) : Int) = true := by decide +kernel
theorem ck8 : ∀ e : Nat, e < bs8.length → ∃ c : Cert, c.ok bs8 (e : Nat) = true
  | 0, _ => ⟨_, ck8_0⟩
  | 1, _ => ⟨_, ck8_1⟩
  | 2, _ => ⟨_, ck8_2⟩
  | 3, _ => ⟨_, ck8_3⟩
  | 4, _ => ⟨_, ck8_4⟩
  | 5, _ => ⟨_, ck8_5⟩
  | n + 6, h => absurd h (Nat.not_lt_of_le (Nat.le_add_left _ _))
def bs9 : List Ve := [(2, 1), (3, 2), (2, 3), (1, 3), (0, 1), (0, 0)]
def ce9_0 : Cert := ⟨1, 10, 2, 2, [2, 3, 4, 5, 6, 7, 8, 9, 10, 11, 12, 13, 14, 15, 16, 17, 18, 19], [20, 21, 22, 23, 24, 25, 26, 27, 28, 29]⟩
theorem ck9_0 : ce9_0.ok bs9 ((0 : Nat) : Int) = true := by decide +kernel
def ce9_1 : Cert := ⟨3, 6, 2, 1, [1, 3, 5, 6, 7, 9, 11, 12, 13, 15, 17, 18, 19, 21, 23, 24, 25, 27, 29, 30, 31, 33, 35], [36, 37, 39, 41, 42, 43, 45, 47, 48, 49, 51, 53]⟩
theorem ck9_1 : ce9_1.ok bs9 ((1 : Nat) : Int) = true := by decide +kernel
def ce9_2 : Cert := ⟨1, 10, 2, 2, [2, 3, 4, 5, 6, 7, 8, 9, 10, 11, 12, 13, 14, 15, 16, 17, 18, 19], [20, 21, 22, 23, 24, 25, 26, 27, 28, 29]⟩
theorem ck9_2 : ce9_2.ok bs9 ((2 : Nat) : Int) = true := by decide +kernel
def ce9_3 : Cert := ⟨3, 6, 2, 1, [1, 3, 5, 6, 7, 9, 11, 12, 13, 15, 17, 18, 19, 21, 23, 24, 25, 27, 29, 30, 31, 33, 35], [36, 37, 39, 41, 42, 43, 45, 47, 48, 49, 51, 53]⟩
theorem ck9_3 : ce9_3.ok bs9 ((3 : Nat) : Int) = true := by decide +kernel
def ce9_4 : Cert := ⟨1, 10, 2, 2, [2, 3, 4, 5, 6, 7, 8, 9, 10, 11, 12, 13, 14, 15, 16, 17, 18, 19], [20, 21, 22, 23, 24, 25, 26, 27, 28, 29]⟩
theorem ck9_4 : ce9_4.ok bs9 ((4 : Nat) : Int) = true := by decide +kernel
def ce9_5 : Cert := ⟨3, 6, 2, 1, [1, 3, 5, 6, 7, 9, 11, 12, 13, 15, 17, 18, 19, 21, 23, 24, 25, 27, 29, 30, 31, 33, 35], [36, 37, 39, 41, 42, 43, 45, 47, 48, 49, 51, 53]⟩
theorem ck9_5 : ce9_5.ok bs9 ((5 : Nat) : Int) = true := by decide +kernel
theorem ck9 : ∀ e : Nat, e < bs9.length → ∃ c : Cert, c.ok bs9 (e : Nat) = true
  | 0, _ => ⟨_, ck9_0⟩
  | 1, _ => ⟨_, ck9_1⟩
  | 2, _ => ⟨_, ck9_2⟩
  | 3, _ => ⟨_, ck9_3⟩
  | 4, _ => ⟨_, ck9_4⟩
  | 5, _ => ⟨_, ck9_5⟩
  | n + 6, h => absurd h (Nat.not_lt_of_le (Nat.le_add_left _ _))
def bsL : List (List Ve) := [bs0, bs1, bs2, bs3, bs4, bs5, bs6, bs7, bs8, bs9]
end O26
set_option linter.all false
set_option maxHeartbeats 1000000
/-! what the checking program says: soundness -/
namespace O26
structure Emb (vs B : List Ve) (t : Tab) (r : Int) : Prop where
  pol : Pol vs
  len : vs.length = B.length
  vert : ∀ i : Int, vtx vs i = mapC t (vtx B (i + r))
  det : 0 < t.a * t.d - t.b * t.c
structure Par (q lo hi d k w g : Int) : Prop where
  q0 : 0 < q
  d0 : 0 < d
  k0 : 0 ≤ k
  g0 : 0 < g
  rng : (lo * d < w ∧ w < hi * d) ∨ (lo = hi ∧ w = lo * d)
def Fo.val (f : Fo) (d k w : Int) : Int := f.a * d + f.b * (k * d) + f.c * w
structure Rep (t : Tab) (q d k w g : Int) (X : SX) (p : Pt) : Prop where
  z : g * p.2.2 = d
  x : g * q * p.1 = t.a * (X.a1 * d + X.b1 * (k * d) + X.c1 * w) + t.b * (X.a2 * d + X.b2 * (k * d) + X.c2 * w) + t.p * q * d
  y : g * q * p.2.1 = t.c * (X.a1 * d + X.b1 * (k * d) + X.c1 * w) + t.d * (X.a2 * d + X.b2 * (k * d) + X.c2 * w) + t.q * q * d
section
variable {vs B : List Ve} {t : Tab} {r q lo hi d k w g : Int} {X : SX} {p : Pt}
theorem Par.nn (h : Par q lo hi d k w g) {f : Fo} (hf : f.nn lo hi = true) : 0 ≤ f.val d k w := by
  unfold Fo.nn at hf
  simp only [Bool.and_eq_true, decide_eq_true_eq] at hf
  obtain ⟨h1, h2, h3⟩ := hf
  have d0 := h.d0
  have b0 : 0 ≤ f.b * (k * d) := Int.mul_nonneg h1 (Int.mul_nonneg h.k0 (Int.le_of_lt d0))
  unfold Fo.val
  rcases h.rng with ⟨r1, r2⟩ | ⟨r1, r2⟩
  · have e : (hi - lo) * (f.a * d + f.c * w) = (f.a + f.c * lo) * (hi * d - w) + (f.a + f.c * hi) * (w - lo * d) := by grind
    have m1 := Int.mul_nonneg h2 (show 0 ≤ hi * d - w by omega)
    have m2 := Int.mul_nonneg h3 (show 0 ≤ w - lo * d by omega)
    have lt : 0 < hi - lo := by
      have : lo * d < hi * d := by omega
      have := Int.lt_of_mul_lt_mul_right this (Int.le_of_lt d0)
      omega
    have : 0 ≤ f.a * d + f.c * w := by
      refine Classical.byContradiction fun z => ?_
      have := Int.mul_neg_of_pos_of_neg lt (show f.a * d + f.c * w < 0 by omega)
      omega
    omega
  · have e : f.a * d + f.c * w = (f.a + f.c * lo) * d := by rw [r2]; grind
    have := Int.mul_nonneg h2 (Int.le_of_lt d0)
    omega
theorem Par.pos (h : Par q lo hi d k w g) {f : Fo} (hf : f.pos lo hi = true) : 0 < f.val d k w := by
  unfold Fo.pos Fo.nn at hf
  simp only [Bool.and_eq_true, decide_eq_true_eq] at hf
  obtain ⟨⟨h1, h2, h3⟩, h4⟩ := hf
  have d0 := h.d0
  have b0 : 0 ≤ f.b * (k * d) := Int.mul_nonneg h1 (Int.mul_nonneg h.k0 (Int.le_of_lt d0))
  unfold Fo.val
  rcases h.rng with ⟨r1, r2⟩ | ⟨r1, r2⟩
  · have e : (hi - lo) * (f.a * d + f.c * w) = (f.a + f.c * lo) * (hi * d - w) + (f.a + f.c * hi) * (w - lo * d) := by grind
    have lt : 0 < hi - lo := by
      have : lo * d < hi * d := by omega
      have := Int.lt_of_mul_lt_mul_right this (Int.le_of_lt d0)
      omega
    have m3 : 0 < (f.a + f.c * lo) * (hi * d - w) + (f.a + f.c * hi) * (w - lo * d) := by
      have m1 := Int.mul_nonneg h2 (show 0 ≤ hi * d - w by omega)
      have m2 := Int.mul_nonneg h3 (show 0 ≤ w - lo * d by omega)
      by_cases z : 0 < f.a + f.c * lo
      · have := Int.mul_pos z (show 0 < hi * d - w by omega)
        omega
      · have := Int.mul_pos (show 0 < f.a + f.c * hi by omega) (show 0 < w - lo * d by omega)
        omega
    rw [← e] at m3
    have : 0 < f.a * d + f.c * w := by
      refine Classical.byContradiction fun z => ?_
      have := Int.mul_nonneg (Int.le_of_lt lt) (show 0 ≤ -(f.a * d + f.c * w) by omega)
      rw [Int.mul_neg] at this
      omega
    omega
  · have e : f.a * d + f.c * w = (f.a + f.c * lo) * d := by rw [r2]; grind
    have z : 0 < f.a + f.c * lo := by subst r1; omega
    have := Int.mul_pos z d0
    omega
theorem Fo.neg_val {f : Fo} : f.neg.val d k w = -f.val d k w := by unfold Fo.val Fo.neg; simp only; grind
theorem side_val (E : Emb vs B t r) (R : Rep t q d k w g X p) (j : Int) : g * q * side vs j p = (t.a * t.d - t.b * t.c) * (frm B q (j + r) X).val d k w := by
  have e1 := E.vert j
  have e2 := E.vert (j + 1)
  have e3 : j + 1 + r = j + r + 1 := by omega
  rw [e3] at e2
  obtain ⟨z, x, y⟩ := R
  unfold side edg crs dif Fo.val frm
  rw [e1, e2]
  unfold mapC edg dif
  simp only
  generalize vtx B (j + r) = v
  generalize vtx B (j + r + 1) = u
  obtain ⟨v1, v2⟩ := v
  obtain ⟨u1, u2⟩ := u
  obtain ⟨p1, p2, p3⟩ := p
  simp only at *
  have x2 : g * q * (p1 - (t.a * v1 + t.b * v2 + t.p) * p3) = t.a * (X.a1 * d + X.b1 * (k * d) + X.c1 * w - v1 * q * d) + t.b * (X.a2 * d + X.b2 * (k * d) + X.c2 * w - v2 * q * d) := by
    have : g * q * (p1 - (t.a * v1 + t.b * v2 + t.p) * p3) = g * q * p1 - (t.a * v1 + t.b * v2 + t.p) * q * (g * p3) := by grind
    rw [this, x, z]; grind
  have y2 : g * q * (p2 - (t.c * v1 + t.d * v2 + t.q) * p3) = t.c * (X.a1 * d + X.b1 * (k * d) + X.c1 * w - v1 * q * d) + t.d * (X.a2 * d + X.b2 * (k * d) + X.c2 * w - v2 * q * d) := by
    have : g * q * (p2 - (t.c * v1 + t.d * v2 + t.q) * p3) = g * q * p2 - (t.c * v1 + t.d * v2 + t.q) * q * (g * p3) := by grind
    rw [this, y, z]; grind
  generalize p1 - (t.a * v1 + t.b * v2 + t.p) * p3 = P1 at *
  generalize p2 - (t.c * v1 + t.d * v2 + t.q) * p3 = P2 at *
  have m : ∀ A C : Int, g * q * (A * P2 - C * P1) = A * (g * q * P2) - C * (g * q * P1) := fun A C => by grind
  rw [m, x2, y2]
  grind
theorem sgn_of {s D v m : Int} (hm : 0 < m) (hD : 0 < D) (e : m * s = D * v) : (0 < v → 0 < s) ∧ (0 ≤ v → 0 ≤ s) ∧ (v < 0 → s < 0) ∧ (v ≤ 0 → s ≤ 0) := by
  refine ⟨fun h => ?_, fun h => ?_, fun h => ?_, fun h => ?_⟩
  · refine Classical.byContradiction fun z => ?_
    have a := Int.mul_pos hD h
    have b := Int.mul_nonneg (Int.le_of_lt hm) (show 0 ≤ -s by omega)
    rw [Int.mul_neg] at b
    omega
  · refine Classical.byContradiction fun z => ?_
    have a := Int.mul_nonneg (Int.le_of_lt hD) h
    have b := Int.mul_neg_of_pos_of_neg hm (show s < 0 by omega)
    omega
  · refine Classical.byContradiction fun z => ?_
    have a := Int.mul_neg_of_pos_of_neg hD h
    have b := Int.mul_nonneg (Int.le_of_lt hm) (show 0 ≤ s by omega)
    omega
  · refine Classical.byContradiction fun z => ?_
    have a := Int.mul_nonneg (Int.le_of_lt hD) (show 0 ≤ -v by omega)
    rw [Int.mul_neg] at a
    have b := Int.mul_pos hm (show 0 < s by omega)
    omega
theorem side_sg (E : Emb vs B t r) (h : Par q lo hi d k w g) (R : Rep t q d k w g X p) (j : Int) :
    ((frm B q (j + r) X).pos lo hi = true → 0 < side vs j p) ∧ ((frm B q (j + r) X).nn lo hi = true → 0 ≤ side vs j p) ∧ ((frm B q (j + r) X).neg.pos lo hi = true → side vs j p < 0) ∧ ((frm B q (j + r) X).neg.nn lo hi = true → side vs j p ≤ 0) := by
  obtain ⟨s1, s2, s3, s4⟩ := sgn_of (Int.mul_pos h.g0 h.q0) E.det (side_val E R j)
  refine ⟨fun z => s1 (h.pos z), fun z => s2 (h.nn z), fun z => s3 ?_, fun z => s4 ?_⟩
  · have := h.pos z; rw [Fo.neg_val] at this; omega
  · have := h.nn z; rw [Fo.neg_val] at this; omega
theorem scnd_cnd (E : Emb vs B t r) (h : Par q lo hi d k w g) (R : Rep t q d k w g X p) {i : Int} (hs : scnd B q lo hi i X = true) : cnd (-1) vs (i - r) p := by
  unfold scnd at hs
  rw [Bool.and_eq_true] at hs
  have a := (side_sg E h R (i - r - 1)).1
  have b := (side_sg E h R (i - r)).2.2.1
  rw [show i - r - 1 + r = i - 1 by omega] at a
  rw [show i - r + r = i by omega] at b
  have a := a hs.1
  have b := b hs.2
  unfold cnd
  omega
theorem frm_congr {i j : Int} (h : i % (B.length : Nat) = j % (B.length : Nat)) : frm B q i X = frm B q j X := by
  unfold frm edg
  rw [vtx_congr h, vtx_congr (show (i + 1) % (B.length : Nat) = (j + 1) % (B.length : Nat) by rw [Int.add_emod, h, ← Int.add_emod])]
/-- each index of vs, as one of B -/
theorem ix_mod (hl : 0 < B.length) (j : Int) : ∃ i : Nat, i < B.length ∧ (i : Int) % (B.length : Nat) = (j + r) % (B.length : Nat) := by
  have h1 := Int.emod_nonneg (j + r) (b := (B.length : Nat)) (by omega)
  have h2 := Int.emod_lt_of_pos (j + r) (b := (B.length : Nat)) (by omega)
  exact ⟨((j + r) % (B.length : Nat)).toNat, by omega, by rw [Int.toNat_of_nonneg h1, Int.emod_emod_of_dvd _ (Int.dvd_refl _)]⟩
theorem pred_mod {i j n : Int} (h : i % n = j % n) : (i - 1) % n = (j - 1) % n := by rw [Int.sub_emod, h, ← Int.sub_emod]
theorem snone_none (E : Emb vs B t r) (h : Par q lo hi d k w g) (R : Rep t q d k w g X p) (hs : snone B q lo hi X = true) : tanD (-1) vs p = none := by
  refine tanD_none (.inr rfl) fun j hj c => ?_
  have l := E.pol.lo
  obtain ⟨i, hi, e⟩ := ix_mod (B := B) (r := r) (by have := E.len; omega) (j : Nat)
  have z := List.all_eq_true.mp hs i (List.mem_range.mpr hi)
  rw [frm_congr e, frm_congr (pred_mod e)] at z
  have a := (side_sg E h R (j : Nat)).2.1
  have b := (side_sg E h R ((j : Nat) - 1)).2.2.2
  rw [show (j : Int) - 1 + r = (j : Int) + r - 1 by omega] at b
  obtain ⟨c1, c2⟩ := c
  rcases Bool.or_eq_true _ _ ▸ z with z | z
  · have := a z; omega
  · have := b z; omega
theorem sdead_none (E : Emb vs B t r) (h : Par q lo hi d k w g) (R : Rep t q d k w g X p) (hs : sdead B q lo hi X = true) : tanD 1 vs p = none ∧ ∃ i : Nat, i < vs.length ∧ side vs (i : Nat) p < 0 := by
  unfold sdead at hs
  rw [Bool.and_eq_true] at hs
  have l := E.pol.lo
  have ln := E.len
  refine ⟨tanD_none (.inl rfl) fun j hj c => ?_, ?_⟩
  · obtain ⟨i, hi, e⟩ := ix_mod (B := B) (r := r) (by omega) (j : Nat)
    have z := List.all_eq_true.mp hs.1 i (List.mem_range.mpr hi)
    rw [frm_congr e, frm_congr (pred_mod e)] at z
    have a := (side_sg E h R (j : Nat)).2.2.2
    have b := (side_sg E h R ((j : Nat) - 1)).2.1
    rw [show (j : Int) - 1 + r = (j : Int) + r - 1 by omega] at b
    obtain ⟨c1, c2⟩ := c
    rcases Bool.or_eq_true _ _ ▸ z with z | z
    · have := a z; omega
    · have := b z; omega
  · obtain ⟨i, hi, z⟩ := List.any_eq_true.mp hs.2
    have hi := List.mem_range.mp hi
    obtain ⟨j, hj, e⟩ := ix_mod (B := vs) (r := -r) (by omega) (i : Nat)
    refine ⟨j, hj, ?_⟩
    rw [side_congr e]
    have a := (side_sg E h R ((i : Nat) + -r)).2.2.1
    rw [show (i : Int) + -r + r = i by omega] at a
    exact a z
theorem rep_rf (E : Emb vs B t r) (R : Rep t q d k w g X p) (i : Int) : Rep t q d k w g (X.rf B q i) (refl p (vtx vs (i - r))) := by
  have e1 := E.vert (i - r)
  rw [show i - r + r = i by omega] at e1
  obtain ⟨z, x, y⟩ := R
  rw [e1]
  unfold SX.rf refl mapC
  generalize vtx B i = v
  obtain ⟨v1, v2⟩ := v
  obtain ⟨p1, p2, p3⟩ := p
  simp only at *
  refine ⟨z, ?_, ?_⟩
  · have : g * q * (2 * (t.a * v1 + t.b * v2 + t.p) * p3 - p1) = 2 * (t.a * v1 + t.b * v2 + t.p) * q * (g * p3) - g * q * p1 := by grind
    show g * q * (2 * (t.a * v1 + t.b * v2 + t.p) * p3 - p1) = _
    rw [this, x, z]; grind
  · have : g * q * (2 * (t.c * v1 + t.d * v2 + t.q) * p3 - p2) = 2 * (t.c * v1 + t.d * v2 + t.q) * q * (g * p3) - g * q * p2 := by grind
    show g * q * (2 * (t.c * v1 + t.d * v2 + t.q) * p3 - p2) = _
    rw [this, y, z]; grind
theorem rep_mv (E : Emb vs B t r) (R : Rep t q d k w g X p) (i j z0 z1 : Int) : Rep t q d k w g (X.mv q (shft B i j) z0 z1) (trans p (shft vs (i - r) (j - r)) (z0 + z1 * k)) := by
  have e1 := E.vert (i - r)
  have e2 := E.vert (j - r)
  rw [show i - r + r = i by omega] at e1
  rw [show j - r + r = j by omega] at e2
  obtain ⟨z, x, y⟩ := R
  unfold SX.mv shft trans
  rw [e1, e2]
  unfold mapC dif
  generalize vtx B i = v
  generalize vtx B j = u
  obtain ⟨v1, v2⟩ := v
  obtain ⟨u1, u2⟩ := u
  obtain ⟨p1, p2, p3⟩ := p
  simp only at *
  refine ⟨z, ?_, ?_⟩
  · have : g * q * (p1 + (z0 + z1 * k) * (2 * (t.a * u1 + t.b * u2 + t.p - (t.a * v1 + t.b * v2 + t.p))) * p3) = g * q * p1 + q * (z0 + z1 * k) * (2 * (t.a * u1 + t.b * u2 + t.p - (t.a * v1 + t.b * v2 + t.p))) * (g * p3) := by grind
    show g * q * (p1 + (z0 + z1 * k) * (2 * (t.a * u1 + t.b * u2 + t.p - (t.a * v1 + t.b * v2 + t.p))) * p3) = _
    rw [this, x, z]; grind
  · have : g * q * (p2 + (z0 + z1 * k) * (2 * (t.c * u1 + t.d * u2 + t.q - (t.c * v1 + t.d * v2 + t.q))) * p3) = g * q * p2 + q * (z0 + z1 * k) * (2 * (t.c * u1 + t.d * u2 + t.q - (t.c * v1 + t.d * v2 + t.q))) * (g * p3) := by grind
    show g * q * (p2 + (z0 + z1 * k) * (2 * (t.c * u1 + t.d * u2 + t.q - (t.c * v1 + t.d * v2 + t.q))) * p3) = _
    rw [this, y, z]; grind
theorem lin_pos {a b c Z : Int} (h0 : 0 < a) (h1 : 0 < a + Z * b) (c0 : 0 ≤ c) (cZ : c ≤ Z) : 0 < a + c * b := by
  by_cases hb : 0 ≤ b
  · have := Int.mul_nonneg c0 hb; omega
  · have : Z * b ≤ c * b := Int.mul_le_mul_of_nonpos_right cZ (by omega)
    omega
theorem cnd_lin {dir i : Int} {sh : Ve} {Z c : Int} (h0 : cnd dir vs i p) (h1 : cnd dir vs i (trans p sh Z)) (c0 : 0 ≤ c) (cZ : c ≤ Z) : cnd dir vs i (trans p sh c) := by
  unfold cnd at *
  rw [side_trans, side_trans] at *
  have e : ∀ a b c x : Int, a * (b + c * x) = a * b + c * (a * x) := fun a b c x => by grind
  rw [e, e] at *
  exact ⟨lin_pos h0.1 h1.1 c0 cZ, lin_pos h0.2 h1.2 c0 cZ⟩
theorem cnd_congr {dir i j : Int} (e : i % (vs.length : Nat) = j % (vs.length : Nat)) : cnd dir vs i p ↔ cnd dir vs j p := by
  unfold cnd
  rw [side_congr e, side_congr (pred_mod e)]
end
/-- the backward orbit ends after N reflections -/
def EndsB (vs : List Ve) (p : Pt) (N S : Nat) : Prop := ∃ pt vx bs, pt 0 = p ∧ Chn (-1) vs N pt vx bs ∧ bs.length ≤ 2 * S
section
variable {vs : List Ve} {p : Pt}
theorem EndsB.none (h : tanD (-1) vs p = none) (S : Nat) : EndsB vs p 0 S := ⟨fun _ => p, fun _ => 0, [], rfl, ⟨fun i hi => absurd hi (Nat.not_lt_zero _), fun i hi => absurd hi (Nat.not_lt_zero _), h, fun i hi => absurd hi (by omega)⟩, Nat.zero_le _⟩
theorem EndsB.one {i : Nat} (h1 : tanD (-1) vs p = some i) (h2 : tanD (-1) vs (refl p (vtx vs (i : Nat))) = Option.none) (S : Nat) : EndsB vs p 1 S :=
  ⟨fun k => if k = 0 then p else refl p (vtx vs (i : Nat)), fun _ => i, [], rfl, ⟨fun k hk => by rw [show k = 0 by omega]; exact h1, fun k hk => by rw [show k = 0 by omega]; rfl, h2, fun k hk => absurd hk (by omega)⟩, Nat.zero_le _⟩
theorem EndsB.seg {i j z N S : Nat} (hz : 1 ≤ z) (h : ∀ c : Nat, c < z → tanD (-1) vs (trans p (shft vs (i : Nat) (j : Nat)) c) = some i ∧ tanD (-1) vs (refl (trans p (shft vs (i : Nat) (j : Nat)) c) (vtx vs (i : Nat))) = some j)
    (e : EndsB vs (trans p (shft vs (i : Nat) (j : Nat)) z) N S) : EndsB vs p (2 * z + N) (S + 1) := by
  obtain ⟨pt, vx, bs, h0, hc, hb⟩ := e
  refine ⟨fun k => if k < 2 * z then (if k % 2 = 0 then trans p (shft vs (i : Nat) (j : Nat)) (k / 2 : Nat) else refl (trans p (shft vs (i : Nat) (j : Nat)) (k / 2 : Nat)) (vtx vs (i : Nat))) else pt (k - 2 * z),
    fun k => if k < 2 * z then (if k % 2 = 0 then i else j) else vx (k - 2 * z), (2 * z - 2) :: (2 * z - 1) :: bs.map fun b => b + 2 * z, ?_, ⟨fun k hk => ?_, fun k hk => ?_, ?_, fun k hk hn => ?_⟩, ?_⟩
  · show (if 0 < 2 * z then (if 0 % 2 = 0 then trans p (shft vs (i : Nat) (j : Nat)) (0 / 2 : Nat) else refl (trans p (shft vs (i : Nat) (j : Nat)) (0 / 2 : Nat)) (vtx vs (i : Nat))) else pt (0 - 2 * z)) = p
    rw [if_pos (by omega), if_pos rfl]
    exact trans_zero _ _
  · try simp only
    by_cases a : k < 2 * z
    · rw [if_pos a, if_pos a]
      by_cases b : k % 2 = 0
      · rw [if_pos b, if_pos b]
        exact (h (k / 2) (by omega)).1
      · rw [if_neg b, if_neg b]
        exact (h (k / 2) (by omega)).2
    · rw [if_neg a, if_neg a]
      exact hc.st (k - 2 * z) (by omega)
  · try simp only
    by_cases a : k < 2 * z
    · rw [if_pos a, if_pos a]
      by_cases b : k % 2 = 0
      · rw [if_pos b, if_pos b, if_pos (by omega), if_neg (by omega), show (k + 1) / 2 = k / 2 by omega]
      · rw [if_neg b, if_neg b, refl2, trans_trans]
        have e : ((k / 2 : Nat) : Int) + 1 = ((k / 2 + 1 : Nat) : Int) := by omega
        rw [e]
        by_cases c : k + 1 < 2 * z
        · rw [if_pos c, if_pos (by omega), show (k + 1) / 2 = k / 2 + 1 by omega]
        · rw [if_neg c, show k + 1 - 2 * z = 0 by omega, h0, show k / 2 + 1 = z by omega]
    · rw [if_neg a, if_neg a, if_neg (by omega), show k + 1 - 2 * z = (k - 2 * z) + 1 by omega]
      exact hc.nx (k - 2 * z) (by omega)
  · try simp only
    rw [if_neg (by omega), show 2 * z + N - 2 * z = N by omega]
    exact hc.en
  · try simp only at hn
    by_cases a : k < 2 * z
    · by_cases b : k + 2 < 2 * z
      · rw [if_pos a, if_pos b] at hn
        exact absurd (by by_cases c : k % 2 = 0
                         · rw [if_pos c, if_pos (by omega)]
                         · rw [if_neg c, if_neg (by omega)]) hn
      · rcases (by omega : k = 2 * z - 2 ∨ k = 2 * z - 1) with q | q
        · rw [q]; exact List.mem_cons_self
        · rw [q]; exact List.mem_cons_of_mem _ List.mem_cons_self
    · rw [if_neg a, if_neg (by omega), show k + 2 - 2 * z = (k - 2 * z) + 2 by omega] at hn
      refine List.mem_cons_of_mem _ (List.mem_cons_of_mem _ (List.mem_map.mpr ⟨k - 2 * z, hc.br (k - 2 * z) (by omega) hn, by omega⟩))
  · simp only [List.length_cons, List.length_map]; omega
end
section
variable {vs B : List Ve} {t : Tab} {r q lo hi d k w g : Int}
theorem vs_ix (E : Emb vs B t r) (i : Int) : ∃ j : Nat, j < vs.length ∧ vtx vs (j : Nat) = vtx vs (i - r) ∧ ∀ dir p, (cnd dir vs (j : Nat) p ↔ cnd dir vs (i - r) p) := by
  have l := E.pol.lo
  obtain ⟨j, hj, e⟩ := ix_mod (B := vs) (r := -r) (by omega) i
  have e' : (j : Int) % (vs.length : Nat) = (i - r) % (vs.length : Nat) := by rw [e]; rfl
  exact ⟨j, hj, vtx_congr e', fun dir p => cnd_congr e'⟩
theorem srun_ends (E : Emb vs B t r) (h : Par q lo hi d k w g) : ∀ (n : Nat) (m0 m1 : Int) (X : SX) (p : Pt), 0 ≤ m0 → 0 ≤ m1 → Rep t q d k w g X p → srun B q lo hi n m0 m1 X = true → ∃ N, EndsB vs p N n ∧ (N : Int) ≤ 2 * (m0 + m1 * k) + 1 := by
  intro n
  induction n with
  | zero => intro m0 m1 X p _ _ _ hs; cases hs
  | succ n ih =>
    intro m0 m1 X p g0 g1 R hs
    have k0 := h.k0
    have mk := Int.mul_nonneg g1 k0
    unfold srun at hs
    cases e1 : (List.range B.length).find? fun i => scnd B q lo hi (i : Nat) X with
    | none =>
      rw [e1] at hs
      exact ⟨0, .none (snone_none E h R hs) _, by omega⟩
    | some i =>
      rw [e1] at hs
      simp only at hs
      have s1 := List.find?_some (p := fun i : Nat => scnd B q lo hi (i : Nat) X) e1
      have c1 := scnd_cnd E h R s1
      have R1 := rep_rf E R (i : Nat)
      obtain ⟨a, ha, va, ca⟩ := vs_ix E (i : Nat)
      have t1 := E.pol.tanD (.inr rfl) ha ((ca _ _).mpr c1)
      cases e2 : (List.range B.length).find? fun j => scnd B q lo hi (j : Nat) (X.rf B q (i : Nat)) with
      | none =>
        rw [e2] at hs
        refine ⟨1, .one t1 ?_ _, by omega⟩
        rw [va]
        exact snone_none E h R1 hs
      | some j =>
        rw [e2] at hs
        simp only [Bool.and_eq_true, decide_eq_true_eq] at hs
        generalize zcount B q lo hi (i : Nat) (j : Nat) X (X.rf B q (i : Nat)) (shft B (i : Nat) (j : Nat)) = z at hs
        obtain ⟨z0, z1⟩ := z
        simp only at hs
        obtain ⟨h1, h2, h3, h4, h5, h6, h7⟩ := hs
        have s2 := List.find?_some (p := fun j : Nat => scnd B q lo hi (j : Nat) (X.rf B q (i : Nat))) e2
        have c2 := scnd_cnd E h R1 s2
        obtain ⟨b, hb, vb, cb⟩ := vs_ix E (j : Nat)
        have zk := Int.mul_nonneg h2 k0
        have esh : shft vs (a : Nat) (b : Nat) = shft vs ((i : Nat) - r) ((j : Nat) - r) := by unfold shft; rw [va, vb]
        have RW_ := rep_mv E R (i : Nat) (j : Nat) (z0 - 1) z1
        have RWf := rep_rf E RW_ (i : Nat)
        have c3 := scnd_cnd E h RW_ h5
        have c4 := scnd_cnd E h RWf h6
        have RN := rep_mv E R (i : Nat) (j : Nat) z0 z1
        obtain ⟨N, hN, hb2⟩ := ih (m0 - z0) (m1 - z1) _ _ (by omega) (by omega) RN h7
        have ez : (((z0 + z1 * k).toNat : Nat) : Int) = z0 + z1 * k := Int.toNat_of_nonneg (by omega)
        refine ⟨2 * (z0 + z1 * k).toNat + N, .seg (i := a) (j := b) (by omega) (fun c hc => ?_) ?_, ?_⟩
        · rw [esh]
          have c0 : (0 : Int) ≤ (c : Int) := by omega
          have cZ : (c : Int) ≤ z0 - 1 + z1 * k := by omega
          have q1 := cnd_lin c1 c3 c0 cZ
          rw [refl_trans] at c4
          have q2 := cnd_lin c2 c4 c0 cZ
          rw [← refl_trans] at q2
          refine ⟨E.pol.tanD (.inr rfl) ha ((ca _ _).mpr q1), E.pol.tanD (.inr rfl) hb ((cb _ _).mpr ?_)⟩
          rw [va]
          exact q2
        · rw [ez, esh]; exact hN
        · have : (m1 - z1) * k = m1 * k - z1 * k := Int.sub_mul _ _ _
          rw [this] at hb2
          omega
end
end O26
set_option linter.all false
set_option maxHeartbeats 1000000
/-! every distance is covered -/
namespace O26
theorem cover {chk : Int → Int → Bool} {w d e : Int} : ∀ (l : List Int) (b : Int) (r : List Int), l = b :: r → spieces chk l e = true → b * d ≤ w → w < e * d → ∃ lo hi, chk lo hi = true ∧ ((lo * d < w ∧ w < hi * d) ∨ (lo = hi ∧ w = lo * d)) := by
  intro l
  induction l with
  | nil => intro b r h; cases h
  | cons b0 l ih =>
    intro b r h hs h1 h2
    cases h
    unfold spieces at hs
    rw [Bool.and_eq_true, Bool.and_eq_true] at hs
    obtain ⟨s1, s2, s3⟩ := hs
    by_cases q : w = b0 * d
    · exact ⟨b0, b0, s1, .inr ⟨rfl, q⟩⟩
    · cases l with
      | nil => exact ⟨b0, e, s2, .inl ⟨by omega, h2⟩⟩
      | cons c r =>
        by_cases q2 : w < c * d
        · exact ⟨b0, c, s2, .inl ⟨by omega, q2⟩⟩
        · exact ih c r rfl s3 (by omega) h2
section
variable {vs B : List Ve} {t : Tab} {r e d m g : Int} {c : Cert} {p : Pt}
/-- the place: many edge lengths before the start of an edge -/
structure Far (B : List Ve) (t : Tab) (e d m g : Int) (p : Pt) : Prop where
  d1 : 1 ≤ d
  m1 : 1 ≤ m
  g1 : 1 ≤ g
  z : g * p.2.2 = d
  x : g * p.1 = t.a * ((vtx B e).1 * d + m * (dif (vtx B e) (vtx B (e + 1))).1) + t.b * ((vtx B e).2 * d + m * (dif (vtx B e) (vtx B (e + 1))).2) + t.p * d
  y : g * p.2.1 = t.c * ((vtx B e).1 * d + m * (dif (vtx B e) (vtx B (e + 1))).1) + t.d * ((vtx B e).2 * d + m * (dif (vtx B e) (vtx B (e + 1))).2) + t.q * d
theorem Far.rep (F : Far B t e d m g p) (q T k : Int) : Rep t q d k (q * m - q * T * (k * d)) g (sx0 B q T e) p := by
  obtain ⟨_, _, _, z, x, y⟩ := F
  rw [show sx0 B q T e = ⟨q * (vtx B e).1, q * (vtx B e).2, q * T * (dif (vtx B e) (vtx B (e + 1))).1, q * T * (dif (vtx B e) (vtx B (e + 1))).2, (dif (vtx B e) (vtx B (e + 1))).1, (dif (vtx B e) (vtx B (e + 1))).2⟩ from rfl]
  generalize dif (vtx B e) (vtx B (e + 1)) = u at *
  generalize vtx B e = a at *
  obtain ⟨u1, u2⟩ := u
  obtain ⟨a1, a2⟩ := a
  simp only at *
  refine ⟨z, ?_, ?_⟩
  · have : g * q * p.1 = q * (g * p.1) := by grind
    rw [this, x]; grind
  · have : g * q * p.2.1 = q * (g * p.2.1) := by grind
    rw [this, y]; grind
theorem srun0_ends {q lo hi T k : Int} (E : Emb vs B t r) (F : Far B t e d m g p) (q1 : 1 ≤ q) (k0 : 0 ≤ k) (km : k ≤ m) (hs : srun0 B q lo hi (sx0 B q T e) = true)
    (rng : (lo * d < q * m - q * T * (k * d) ∧ q * m - q * T * (k * d) < hi * d) ∨ (lo = hi ∧ q * m - q * T * (k * d) = lo * d)) :
    (∃ N, EndsB vs p N 60 ∧ (N : Int) ≤ 2 * (100000 + 100000 * m) + 1) ∧ tanD 1 vs p = none ∧ ∃ i : Nat, i < vs.length ∧ side vs (i : Nat) p < 0 := by
  have P : Par q lo hi d k (q * m - q * T * (k * d)) g := ⟨by omega, by have := F.d1; omega, k0, by have := F.g1; omega, rng⟩
  have R := F.rep q T k
  unfold srun0 at hs
  rw [Bool.and_eq_true] at hs
  refine ⟨?_, sdead_none E P R hs.1⟩
  obtain ⟨N, h1, h2⟩ := srun_ends E P 60 100000 100000 _ p (by decide) (by decide) R hs.2
  exact ⟨N, h1, by omega⟩
theorem cert_ends (E : Emb vs B t r) (F : Far B t e d m g p) (hc : c.ok B e = true) :
    (∃ N, EndsB vs p N 60 ∧ (N : Int) ≤ 2 * (100000 + 100000 * m) + 1) ∧ tanD 1 vs p = none ∧ ∃ i : Nat, i < vs.length ∧ side vs (i : Nat) p < 0 := by
  unfold Cert.ok at hc
  simp only [Bool.and_eq_true, decide_eq_true_eq] at hc
  obtain ⟨q1, T1, K1, hf, hi, s1, s2, s3⟩ := hc
  have d1 := F.d1
  have m1 := F.m1
  by_cases h : c.q * m < c.K * c.T * c.q * d
  · have z : ∀ w, c.q * m - c.q * 0 * (0 * d) = w ↔ c.q * m = w := fun w => by simp
    by_cases h2 : c.q * m < c.first * d
    · refine srun0_ends (k := 0) E F q1 (Int.le_refl _) (by omega) s1 (.inl ⟨?_, ?_⟩)
      · have := Int.mul_pos (show 0 < c.q by omega) (show 0 < m by omega)
        simp; omega
      · simp; omega
    · cases ef : c.fin with
      | nil =>
        rw [ef] at hf
        simp only [List.nil_append, List.tail_cons, List.cons.injEq, and_true] at hf
        rw [← hf] at h2
        exact absurd h h2
      | cons b l =>
        rw [ef] at hf s2
        simp only [List.cons_append, List.tail_cons, List.cons.injEq, and_true] at hf
        subst hf
        obtain ⟨lo, hi, k1, k2⟩ := cover (w := c.q * m) (d := d) _ _ l rfl s2 (by omega) h
        refine srun0_ends (k := 0) E F q1 (Int.le_refl _) (by omega) k1 ?_
        simp only [Int.zero_mul, Int.mul_zero, Int.sub_zero]
        exact k2
  · have D1 : 0 < c.T * d := Int.mul_pos (by omega) (by omega)
    have e1 := Int.ediv_mul_le (m - c.K * (c.T * d)) (Int.ne_of_gt D1)
    have e2 := Int.lt_ediv_add_one_mul_self (m - c.K * (c.T * d)) D1
    have nn : 0 ≤ m - c.K * (c.T * d) := by
      have : c.q * (c.K * (c.T * d)) ≤ c.q * m := by
        have : c.q * (c.K * (c.T * d)) = c.K * c.T * c.q * d := by grind
        omega
      have := Int.le_of_mul_le_mul_left this (by omega)
      omega
    have k0 : 0 ≤ (m - c.K * (c.T * d)) / (c.T * d) := Int.ediv_nonneg nn (by omega)
    have e0 : 0 ≤ c.K * (c.T * d) := Int.mul_nonneg (by omega) (by omega)
    generalize (m - c.K * (c.T * d)) / (c.T * d) = k at *
    have km : k ≤ m := by
      have : k * 1 ≤ k * (c.T * d) := Int.mul_le_mul_of_nonneg_left (by omega) k0
      omega
    cases ei : c.inf with
    | nil => rw [ei] at hi; cases hi
    | cons b l =>
      rw [ei] at hi s3
      simp only [List.head?_cons, Option.some.injEq] at hi
      subst hi
      have w1 : c.K * c.T * c.q * d ≤ c.q * m - c.q * c.T * (k * d) := by
        have : c.q * (c.K * (c.T * d)) ≤ c.q * (m - k * (c.T * d)) := Int.mul_le_mul_of_nonneg_left (by omega) (by omega)
        have a : c.q * (c.K * (c.T * d)) = c.K * c.T * c.q * d := by grind
        have b : c.q * (m - k * (c.T * d)) = c.q * m - c.q * c.T * (k * d) := by grind
        omega
      have w2 : c.q * m - c.q * c.T * (k * d) < (c.K + 1) * c.T * c.q * d := by
        have : c.q * (m - k * (c.T * d)) < c.q * ((c.K + 1) * (c.T * d)) := Int.mul_lt_mul_of_pos_left (by
          have : (k + 1) * (c.T * d) = k * (c.T * d) + c.T * d := by grind
          have : (c.K + 1) * (c.T * d) = c.K * (c.T * d) + c.T * d := by grind
          omega) (by omega)
        have a : c.q * ((c.K + 1) * (c.T * d)) = (c.K + 1) * c.T * c.q * d := by grind
        have b : c.q * (m - k * (c.T * d)) = c.q * m - c.q * c.T * (k * d) := by grind
        omega
      obtain ⟨lo, hi, k1, k2⟩ := cover (w := c.q * m - c.q * c.T * (k * d)) (d := d) _ _ l rfl s3 w1 w2
      exact srun0_ends E F q1 k0 km k1 k2
end
end O26
set_option linter.all false
set_option maxRecDepth 100000
set_option maxHeartbeats 1000000
/-! the drawn shapes are images of the bases -/
namespace O26
def cls0 : List (Nat × Tab × Nat) := [(0, ⟨1, 0, 0, 1, 0, 0⟩, 0), (1, ⟨1, 0, 0, 1, 0, 0⟩, 0), (2, ⟨1, 0, 0, 1, 0, 0⟩, 0), (3, ⟨1, 0, 0, 1, 0, 0⟩, 0), (4, ⟨1, 0, 0, 1, 0, 0⟩, 0), (1, ⟨2, 0, 0, 1, 0, 0⟩, 0), (1, ⟨1, 1, 0, 1, 0, 0⟩, 0), (2, ⟨0, 1, -1, -1, 0, 2⟩, 1), (0, ⟨3, 0, 0, 1, 0, 0⟩, 0), (5, ⟨1, 0, 0, 1, 0, 0⟩, 0), (1, ⟨1, 1, -1, 1, 0, 1⟩, 0), (0, ⟨2, 1, 1, 2, 0, 0⟩, 0), (1, ⟨1, 0, 0, 1, 0, 0⟩, 0), (0, ⟨2, 1, 0, 2, 0, 0⟩, 0), (6, ⟨1, 0, 0, 1, 0, 0⟩, 0), (7, ⟨1, 0, 0, 1, 0, 0⟩, 0), (8, ⟨1, 0, 0, 1, 0, 0⟩, 0)]
def cls1 : List (Nat × Tab × Nat) := [(0, ⟨-1, -1, 1, 0, 1, 0⟩, 0), (1, ⟨0, -1, 1, 0, 1, 0⟩, 0), (2, ⟨0, 1, -1, -1, 0, 2⟩, 2), (3, ⟨1, -1, 1, 0, 1, 0⟩, 0), (4, ⟨1, 0, 0, 1, 0, 0⟩, 1), (1, ⟨0, -1, 2, 0, 1, 0⟩, 0), (1, ⟨0, -1, 1, -1, 1, 1⟩, 0), (2, ⟨1, 0, 0, 1, 0, 0⟩, 1), (0, ⟨-1, -1, 3, 0, 1, 0⟩, 0), (5, ⟨0, 1, -1, -1, 0, 3⟩, 2), (1, ⟨-1, -1, 1, -1, 2, 1⟩, 0), (0, ⟨-1, -2, 1, -1, 2, 1⟩, 0), (1, ⟨0, -1, 1, 0, 1, 0⟩, 0), (0, ⟨-2, -2, 1, -1, 2, 1⟩, 0), (6, ⟨-1, 1, -1, 0, 1, 2⟩, 3), (7, ⟨0, -1, 1, 0, 4, 0⟩, 0), (9, ⟨1, 0, 0, 1, 0, 0⟩, 0)]
def polB_ (vs : List Ve) : Bool := decide (3 ≤ vs.length) && (decide (vs.length ≤ 6) && (List.range vs.length).all fun i => (List.range (vs.length - 2)).all fun o => decide (0 < crs (dif (vtx vs ((i : Int) + 1)) (vtx vs i)) (dif (vtx vs ((i : Int) + (2 + (o : Int)))) (vtx vs i))))
theorem Pol.of {vs : List Ve} (h : polB_ vs = true) : Pol vs := by
  unfold polB_ at h
  simp only [Bool.and_eq_true, decide_eq_true_eq, List.all_eq_true, List.mem_range] at h
  exact ⟨h.1, h.2.1, h.2.2⟩
theorem bs_pol : ∀ B ∈ bsL, polB_ B = true := by decide +kernel
theorem bs_cert {B : List Ve} (h : B ∈ bsL) : ∀ e : Nat, e < B.length → ∃ c : Cert, c.ok B (e : Nat) = true := by
  unfold bsL at h
  simp only [List.mem_cons, List.mem_nil_iff, or_false] at h
  rcases h with rfl | rfl | rfl | rfl | rfl | rfl | rfl | rfl | rfl | rfl
  · exact ck0
  · exact ck1
  · exact ck2
  · exact ck3
  · exact ck4
  · exact ck5
  · exact ck6
  · exact ck7
  · exact ck8
  · exact ck9
/-! vertices of turned lists -/
theorem vtx_lt {l : List Ve} (h : 0 < l.length) (i : Int) : (i % (l.length : Nat)).toNat < l.length ∧ 0 ≤ i % (l.length : Nat) := by
  have h1 := Int.emod_nonneg i (b := (l.length : Nat)) (by omega)
  have h2 := Int.emod_lt_of_pos i (b := (l.length : Nat)) (by omega)
  exact ⟨by omega, h1⟩
theorem vtx_map {l : List Ve} (h : 0 < l.length) (f : Ve → Ve) (i : Int) : vtx (l.map f) i = f (vtx l i) := by
  obtain ⟨h1, h2⟩ := vtx_lt h i
  unfold vtx
  rw [List.length_map, List.getD_eq_getElem?_getD, List.getD_eq_getElem?_getD, List.getElem?_map, List.getElem?_eq_getElem h1]
  rfl
theorem vtx_at {l : List Ve} {i : Int} {j : Nat} (h : j < l.length) (e : i % (l.length : Nat) = (j : Nat)) : vtx l i = l[j] := by
  unfold vtx
  rw [e, Int.toNat_natCast, List.getD_eq_getElem?_getD, List.getElem?_eq_getElem h]
  rfl
theorem rotL_len {l : List Ve} {k : Nat} (hk : k ≤ l.length) : (rotL k l).length = l.length := by
  unfold rotL
  rw [List.length_append, List.length_drop, List.length_take]
  omega
theorem ix_ex {l : List Ve} (h : 0 < l.length) (i : Int) : ∃ j : Nat, j < l.length ∧ i % (l.length : Nat) = (j : Nat) := by
  obtain ⟨h1, h2⟩ := vtx_lt h i
  exact ⟨_, h1, (Int.toNat_of_nonneg h2).symm⟩
theorem vtx_rot {l : List Ve} (lo : 3 ≤ l.length) (hi : l.length ≤ 6) {k : Nat} (hk : k ≤ l.length) (i : Int) : vtx (rotL k l) i = vtx l (i + k) := by
  have hl := rotL_len hk
  obtain ⟨j, hj, ej⟩ := ix_ex (l := l) (by omega) i
  rw [vtx_at (l := rotL k l) (j := j) (by omega) (by rw [hl]; exact ej)]
  unfold rotL
  by_cases q : j < l.length - k
  · rw [List.getElem_append_left (by rw [List.length_drop]; exact q), List.getElem_drop]
    refine (vtx_at (by omega) ?_).symm
    rcases (by omega : l.length = 3 ∨ l.length = 4 ∨ l.length = 5 ∨ l.length = 6) with e | e | e | e <;> rw [e] at ej ⊢ <;> omega
  · rw [List.getElem_append_right (by rw [List.length_drop]; omega), List.getElem_take]
    refine (vtx_at (by rw [List.length_drop]; omega) ?_).symm
    rw [List.length_drop]
    rcases (by omega : l.length = 3 ∨ l.length = 4 ∨ l.length = 5 ∨ l.length = 6) with e | e | e | e <;> rw [e] at ej ⊢ <;> omega
theorem vtx_rev {l : List Ve} (lo : 3 ≤ l.length) (hi : l.length ≤ 6) (i : Int) : vtx l.reverse i = vtx l (-1 - i) := by
  obtain ⟨j, hj, ej⟩ := ix_ex (l := l) (by omega) i
  rw [vtx_at (l := l.reverse) (j := j) (by rw [List.length_reverse]; omega) (by rw [List.length_reverse]; exact ej)]
  rw [List.getElem_reverse]
  refine (vtx_at (by omega) ?_).symm
  rcases (by omega : l.length = 3 ∨ l.length = 4 ∨ l.length = 5 ∨ l.length = 6) with e | e | e | e <;> rw [e] at ej ⊢ <;> omega
def detT (t : Tab) : Int := t.a * t.d - t.b * t.c
def clsOk (S : List Ve) (c : Nat × Tab × Nat) : Bool :=
  let B := bsL.getD c.1 []
  decide (c.1 < 10) && (decide (S.length = B.length) && (decide (3 ≤ S.length) && (decide (S.length ≤ 6) && (decide (0 < detT c.2.1) && (List.range S.length).all fun i => decide (vtx S (i : Nat) = mapC c.2.1 (vtx B ((i : Nat) + (c.2.2 : Nat))))))))
def swp (v : Ve) : Ve := (v.2, v.1)
theorem cls_ok : ((List.range 17).all fun s => match cls0[s]?, cls1[s]? with | some a, some b => clsOk (shapesL.getD s []) a && clsOk ((shapesL.getD s []).map swp).reverse b | _, _ => false) = true := by decide +kernel
structure Img (vs B : List Ve) (t : Tab) (r : Int) : Prop where
  len : vs.length = B.length
  lo : 3 ≤ vs.length
  hi : vs.length ≤ 6
  vert : ∀ i : Int, vtx vs i = mapC t (vtx B (i + r))
theorem Img.of {S : List Ve} {c : Nat × Tab × Nat} (h : clsOk S c = true) : ∃ B ∈ bsL, Img S B c.2.1 (c.2.2 : Nat) ∧ 0 < detT c.2.1 := by
  unfold clsOk at h
  simp only [Bool.and_eq_true, decide_eq_true_eq, List.all_eq_true, List.mem_range] at h
  obtain ⟨h1, h2, h3, h4, h5, h6⟩ := h
  have hm : bsL.getD c.1 [] ∈ bsL := by
    rw [List.getD_eq_getElem?_getD, List.getElem?_eq_getElem (show c.1 < bsL.length from h1)]
    exact List.getElem_mem _
  refine ⟨_, hm, ⟨h2, h3, h4, fun i => ?_⟩, h5⟩
  obtain ⟨a1, a2⟩ := vtx_lt (l := S) (by omega) i
  have e := h6 (i % (S.length : Nat)).toNat a1
  rw [Int.toNat_of_nonneg a2] at e
  rw [vtx_congr (show i % (S.length : Nat) = (i % (S.length : Nat)) % (S.length : Nat) by rw [Int.emod_emod_of_dvd _ (Int.dvd_refl _)]), e]
  congr 1
  refine vtx_congr ?_
  rw [← h2]
  rw [Int.emod_add_emod]
theorem Img.env {vs B : List Ve} {t : Tab} {r : Int} (h : Img vs B t r) (hB : B ∈ bsL) (hd : 0 < detT t) : Emb vs B t r := by
  refine ⟨⟨h.lo, h.hi, fun i hi o ho => ?_⟩, h.len, h.vert, hd⟩
  have P := Pol.of (bs_pol B hB)
  have lo := P.lo
  have hi' := P.hi
  have c := P.cv (i := (i : Int) + r) (k := (i : Int) + (2 + (o : Int)) + r) (by have := h.len; rcases (by omega : B.length = 3 ∨ B.length = 4 ∨ B.length = 5 ∨ B.length = 6) with e | e | e | e <;> rw [e] <;> omega) (by have := h.len; rcases (by omega : B.length = 3 ∨ B.length = 4 ∨ B.length = 5 ∨ B.length = 6) with e | e | e | e <;> rw [e] <;> omega)
  rw [h.vert, h.vert, h.vert]
  unfold edg at c
  rw [show (i : Int) + 1 + r = (i : Int) + r + 1 by omega]
  generalize vtx B ((i : Int) + r + 1) = a at *
  generalize vtx B ((i : Int) + r) = b at *
  generalize vtx B ((i : Int) + (2 + (o : Int)) + r) = d at *
  have e : crs (dif (mapC t a) (mapC t b)) (dif (mapC t d) (mapC t b)) = detT t * crs (dif a b) (dif d b) := by
    unfold crs dif mapC detT
    simp only
    grind
  rw [e]
  exact Int.mul_pos hd c
/-- one map after another, with a factor between -/
def compT (T : Tab) (m : Int) (L : Tab) : Tab :=
  ⟨T.a * m * L.a + T.b * m * L.c, T.a * m * L.b + T.b * m * L.d, T.c * m * L.a + T.d * m * L.c, T.c * m * L.b + T.d * m * L.d, T.a * m * L.p + T.b * m * L.q + T.p, T.c * m * L.p + T.d * m * L.q + T.q⟩
theorem compT_eq (T : Tab) (m : Int) (L : Tab) (v : Ve) : mapC T (m * (mapC L v).1, m * (mapC L v).2) = mapC (compT T m L) v := by
  unfold mapC compT
  simp only
  congr 1 <;> grind
theorem compT_det (T : Tab) (m : Int) (L : Tab) : detT (compT T m L) = detT T * (m * m) * detT L := by unfold detT compT; simp only; grind
def swT (L : Tab) : Tab := ⟨L.c, L.d, L.a, L.b, L.q, L.p⟩
theorem shape_img {s : Nat} (hs : s < 17) {T : Tab} {m : Int} (hm : 0 < m) (hT : detT T = 1 ∨ detT T = -1) {k : Nat} (hk : k ≤ (shapesL.getD s []).length) {vs : List Ve}
    (hv : vs = rotL k (if crs (T.a, T.b) (T.c, T.d) = 1 then (scaleL m (shapesL.getD s [])).map (mapC T) else ((scaleL m (shapesL.getD s [])).map (mapC T)).reverse)) : ∃ B ∈ bsL, ∃ t r, Emb vs B t r := by
  have z := List.all_eq_true.mp cls_ok s (List.mem_range.mpr hs)
  have ed : crs (T.a, T.b) (T.c, T.d) = detT T := rfl
  rw [ed] at hv
  generalize shapesL.getD s [] = S at *
  cases ha : cls0[s]? with
  | none => rw [ha] at z; cases z
  | some a =>
    cases hb : cls1[s]? with
    | none => rw [ha, hb] at z; cases z
    | some b =>
      rw [ha, hb] at z
      simp only [Bool.and_eq_true] at z
      have mm : 0 < m * m := Int.mul_pos hm hm
      obtain ⟨B0, hB0, I0, d0⟩ := Img.of z.1
      have lo := I0.lo
      have hi := I0.hi
      have l1 : (scaleL m S).length = S.length := by unfold scaleL; rw [List.length_map]
      have vsc : ∀ i, vtx (scaleL m S) i = (m * (vtx S i).1, m * (vtx S i).2) := fun i => vtx_map (l := S) (by omega) (fun v => (m * v.1, m * v.2)) i
      by_cases q : detT T = 1
      · rw [if_pos q] at hv
        refine ⟨B0, hB0, compT T m a.2.1, (k : Int) + (a.2.2 : Nat), Img.env ⟨?_, ?_, ?_, fun i => ?_⟩ hB0 ?_⟩
        · rw [hv, rotL_len (by rw [List.length_map, l1]; exact hk), List.length_map, l1, I0.len]
        · rw [hv, rotL_len (by rw [List.length_map, l1]; exact hk), List.length_map, l1]; exact lo
        · rw [hv, rotL_len (by rw [List.length_map, l1]; exact hk), List.length_map, l1]; exact hi
        · rw [hv, vtx_rot (by rw [List.length_map, l1]; exact lo) (by rw [List.length_map, l1]; exact hi) (by rw [List.length_map, l1]; exact hk), vtx_map (by omega), vsc, I0.vert, compT_eq]
          congr 2
          omega
        · rw [compT_det, q, Int.one_mul]; exact Int.mul_pos mm d0
      · obtain ⟨B1, hB1, I1, d1⟩ := Img.of z.2
        have q' : detT T = -1 := hT.resolve_left q
        rw [if_neg q] at hv
        have I1l := I1.len
        rw [List.length_reverse, List.length_map] at I1l
        refine ⟨B1, hB1, compT T m (swT b.2.1), (k : Int) + (b.2.2 : Nat), Img.env ⟨?_, ?_, ?_, fun i => ?_⟩ hB1 ?_⟩
        · rw [hv, rotL_len (by rw [List.length_reverse, List.length_map, l1]; exact hk), List.length_reverse, List.length_map, l1, I1l]
        · rw [hv, rotL_len (by rw [List.length_reverse, List.length_map, l1]; exact hk), List.length_reverse, List.length_map, l1]; exact lo
        · rw [hv, rotL_len (by rw [List.length_reverse, List.length_map, l1]; exact hk), List.length_reverse, List.length_map, l1]; exact hi
        · rw [hv, vtx_rot (by rw [List.length_reverse, List.length_map, l1]; exact lo) (by rw [List.length_reverse, List.length_map, l1]; exact hi) (by rw [List.length_reverse, List.length_map, l1]; exact hk),
            vtx_rev (by rw [List.length_map, l1]; exact lo) (by rw [List.length_map, l1]; exact hi), vtx_map (by omega), vsc]
          have e := I1.vert (i + k)
          rw [vtx_rev (by rw [List.length_map]; exact lo) (by rw [List.length_map]; exact hi), vtx_map (by omega)] at e
          have e2 : vtx S (-1 - (i + (k : Int))) = mapC (swT b.2.1) (vtx B1 (i + k + (b.2.2 : Nat))) := by
            have e3 : swp (swp (vtx S (-1 - (i + (k : Int))))) = swp (mapC b.2.1 (vtx B1 (i + k + (b.2.2 : Nat)))) := by rw [e]
            exact e3
          rw [e2, compT_eq, Int.add_assoc]
        · rw [compT_det, q', show detT (swT b.2.1) = -detT b.2.1 by unfold detT swT; simp only; grind]
          have := Int.mul_pos mm d1
          grind
end O26
set_option linter.all false
set_option maxRecDepth 100000
set_option maxHeartbeats 4000000
/-! the whole orbit of a dead end -/
namespace O26
theorem gcd3_dvd {x y d : Int} {k : Nat} : k ∣ Int.gcd (Int.gcd x y : Nat) d ↔ ((k : Int) ∣ x ∧ (k : Int) ∣ y) ∧ (k : Int) ∣ d := by
  constructor
  · intro h
    have h1 : (k : Int) ∣ (Int.gcd (Int.gcd x y : Nat) d : Nat) := Int.natCast_dvd_natCast.mpr h
    have h2 : (k : Int) ∣ (Int.gcd x y : Nat) := Int.dvd_trans h1 (Int.gcd_dvd_left _ _)
    exact ⟨⟨Int.dvd_trans h2 (Int.gcd_dvd_left _ _), Int.dvd_trans h2 (Int.gcd_dvd_right _ _)⟩, Int.dvd_trans h1 (Int.gcd_dvd_right _ _)⟩
  · rintro ⟨⟨h1, h2⟩, h3⟩
    exact Int.natCast_dvd_natCast.mp (Int.dvd_coe_gcd (Int.dvd_coe_gcd h1 h2) h3)
theorem dvd_sub_iff {k a b : Int} (h : k ∣ a) : k ∣ a - b ↔ k ∣ b := by
  constructor
  · intro z
    have := Int.dvd_sub h z
    rw [show a - (a - b) = b by omega] at this
    exact this
  · intro z; exact Int.dvd_sub h z
theorem gcd3_refl (p : Pt) (v : Ve) : Int.gcd (Int.gcd (refl p v).1 (refl p v).2.1 : Nat) (refl p v).2.2 = Int.gcd (Int.gcd p.1 p.2.1 : Nat) p.2.2 := by
  have e : ∀ k : Nat, k ∣ Int.gcd (Int.gcd (refl p v).1 (refl p v).2.1 : Nat) (refl p v).2.2 ↔ k ∣ Int.gcd (Int.gcd p.1 p.2.1 : Nat) p.2.2 := fun k => by
    rw [gcd3_dvd, gcd3_dvd]
    unfold refl
    simp only
    by_cases hd : (k : Int) ∣ p.2.2
    · rw [dvd_sub_iff (Int.dvd_mul_of_dvd_right hd), dvd_sub_iff (Int.dvd_mul_of_dvd_right hd)]
    · simp only [hd, and_false]
  exact Nat.dvd_antisymm ((e _).mp (Nat.dvd_refl _)) ((e _).mpr (Nat.dvd_refl _))
structure PForm (x y d : Int) (g : Int) (p : Pt) : Prop where
  g1 : 1 ≤ g
  x : g * p.1 = x
  y : g * p.2.1 = y
  z : g * p.2.2 = d
  u : Int.gcd (Int.gcd p.1 p.2.1 : Nat) p.2.2 = 1
theorem pform_ok {x y d : Int} (hd : 1 ≤ d) : ∃ g, PForm x y d g (pform x y d) := by
  have h0 : 0 < Int.gcd (Int.gcd x y : Nat) d := Nat.pos_of_ne_zero fun z => by
    have := Int.eq_zero_of_gcd_eq_zero_right z
    omega
  have q := (gcd3_dvd (x := x) (y := y) (d := d)).mp (Nat.dvd_refl _)
  have u : ∀ k : Nat, k ∣ Int.gcd (Int.gcd (pform x y d).1 (pform x y d).2.1 : Nat) (pform x y d).2.2 → k = 1 := fun k hk => by
    obtain ⟨⟨k1, k2⟩, k3⟩ := gcd3_dvd.mp hk
    unfold pform at k1 k2 k3
    simp only at k1 k2 k3
    generalize hg : Int.gcd (Int.gcd x y : Nat) d = g at *
    have m1 := Int.mul_dvd_mul (Int.dvd_refl (g : Int)) k1
    have m2 := Int.mul_dvd_mul (Int.dvd_refl (g : Int)) k2
    have m3 := Int.mul_dvd_mul (Int.dvd_refl (g : Int)) k3
    rw [Int.mul_ediv_cancel' q.1.1] at m1
    rw [Int.mul_ediv_cancel' q.1.2] at m2
    rw [Int.mul_ediv_cancel' q.2] at m3
    have z : g * k ∣ Int.gcd (Int.gcd x y : Nat) d := gcd3_dvd.mpr ⟨⟨by rw [Int.natCast_mul]; exact m1, by rw [Int.natCast_mul]; exact m2⟩, by rw [Int.natCast_mul]; exact m3⟩
    rw [hg] at z
    have := Nat.le_of_dvd h0 z
    have hk0 : k ≠ 0 := fun e => by subst e; rw [Nat.mul_zero] at z; have := Nat.eq_zero_of_zero_dvd z; omega
    have : k ≤ 1 := Nat.le_of_mul_le_mul_left (by omega : g * k ≤ g * 1) h0
    omega
  refine ⟨(Int.gcd (Int.gcd x y : Nat) d : Nat), by omega, ?_, ?_, ?_, u _ (Nat.dvd_refl _)⟩
  · exact Int.mul_ediv_cancel' q.1.1
  · exact Int.mul_ediv_cancel' q.1.2
  · exact Int.mul_ediv_cancel' q.2
section
variable {dir : Int} {vs B : List Ve} {N : Nat} {pt pt' : Nat → Pt} {vx : Nat → Nat} {bs : List Nat} {t : Tab} {r : Int}
theorem Chn.congr (h : Chn dir vs N pt vx bs) (e : ∀ k, k ≤ N → pt' k = pt k) : Chn dir vs N pt' vx bs :=
  ⟨fun i hi => by rw [e i (by omega)]; exact h.st i hi, fun i hi => by rw [e i (by omega), e (i + 1) (by omega)]; exact h.nx i hi, by rw [e N (Nat.le_refl _)]; exact h.en, h.br⟩
theorem Chn.keep (hB : PolB vs) (h : Chn dir vs N pt vx bs) : ∀ i, i ≤ N → (pt i).2.2 = (pt 0).2.2 ∧ Int.gcd (Int.gcd (pt i).1 (pt i).2.1 : Nat) (pt i).2.2 = Int.gcd (Int.gcd (pt 0).1 (pt 0).2.1 : Nat) (pt 0).2.2 ∧
    (0 ≤ (pt 0).2.2 → ((pt i).1.natAbs : Int) ≤ (pt 0).1.natAbs + 120 * (pt 0).2.2 * i ∧ ((pt i).2.1.natAbs : Int) ≤ (pt 0).2.1.natAbs + 120 * (pt 0).2.2 * i) := by
  intro i
  induction i with
  | zero => intro _; exact ⟨rfl, rfl, fun _ => by simp⟩
  | succ i ih =>
    intro hi
    obtain ⟨h1, h2, h3⟩ := ih (by omega)
    have e := h.nx i (by omega)
    refine ⟨by rw [e]; exact h1, by rw [e, gcd3_refl]; exact h2, fun hd => ?_⟩
    obtain ⟨h4, h5⟩ := h3 hd
    obtain ⟨⟨v1, v2⟩, v3, v4⟩ := hB.v1 (vx i : Nat)
    rw [e]
    unfold refl
    simp only
    rw [h1]
    generalize vtx vs (vx i : Nat) = v at *
    generalize (pt 0).2.2 = d at *
    have a1 : -60 * d ≤ v.1 * d := Int.mul_le_mul_of_nonneg_right v1 hd
    have a2 : v.1 * d ≤ 60 * d := Int.mul_le_mul_of_nonneg_right v2 hd
    have a3 : -60 * d ≤ v.2 * d := Int.mul_le_mul_of_nonneg_right v3 hd
    have a4 : v.2 * d ≤ 60 * d := Int.mul_le_mul_of_nonneg_right v4 hd
    have e1 : 2 * v.1 * d = 2 * (v.1 * d) := Int.mul_assoc _ _ _
    have e2 : 2 * v.2 * d = 2 * (v.2 * d) := Int.mul_assoc _ _ _
    have e3 : 120 * d * ((i + 1 : Nat) : Int) = 120 * d * (i : Int) + 120 * d := by rw [Int.natCast_add, Int.mul_add]; simp
    rw [e1, e2, e3]
    generalize 120 * d * (i : Int) = z at *
    omega
/-- a point on the line of an edge, before its start -/
theorem dead_two (E : Emb vs B t r) (hb : B ∈ bsL) (hP : PolB vs) {j : Nat} {d m : Int} (d1 : 1 ≤ d) (d2 : d ≤ 1000000) (m1 : 1 ≤ m) (m2 : m ≤ 1000000000000000000000000000000) :
    ∃ N pt, Two vs N pt ∧ pt N = pform ((vtx vs (j : Nat)).1 * d + m * ((vtx vs (j : Nat)).1 - (vtx vs ((j : Nat) + 1)).1)) ((vtx vs (j : Nat)).2 * d + m * ((vtx vs (j : Nat)).2 - (vtx vs ((j : Nat) + 1)).2)) d := by
  obtain ⟨g, F⟩ := pform_ok (x := (vtx vs (j : Nat)).1 * d + m * ((vtx vs (j : Nat)).1 - (vtx vs ((j : Nat) + 1)).1)) (y := (vtx vs (j : Nat)).2 * d + m * ((vtx vs (j : Nat)).2 - (vtx vs ((j : Nat) + 1)).2)) d1
  generalize pform ((vtx vs (j : Nat)).1 * d + m * ((vtx vs (j : Nat)).1 - (vtx vs ((j : Nat) + 1)).1)) ((vtx vs (j : Nat)).2 * d + m * ((vtx vs (j : Nat)).2 - (vtx vs ((j : Nat) + 1)).2)) d = p at *
  have lo := E.pol.lo
  have len := E.len
  obtain ⟨e, he, ee⟩ := ix_mod (B := B) (r := r) (by omega) (j : Nat)
  obtain ⟨c, hc⟩ := bs_cert hb e he
  have va : vtx vs (j : Nat) = mapC t (vtx B (e : Nat)) := by rw [E.vert]; congr 1; exact (vtx_congr ee).symm
  have vb : vtx vs ((j : Nat) + 1) = mapC t (vtx B ((e : Nat) + 1)) := by
    rw [E.vert]; congr 1
    refine vtx_congr ?_
    rw [show (j : Int) + 1 + r = (j : Int) + r + 1 by omega, Int.add_emod, ← ee, ← Int.add_emod]
  have FF : Far B t (e : Nat) d m g p := by
    refine ⟨d1, m1, F.g1, F.z, ?_, ?_⟩
    · rw [F.x, va, vb]; unfold mapC dif; simp only; grind
    · rw [F.y, va, vb]; unfold mapC dif; simp only; grind
  obtain ⟨⟨N, ⟨pt, vx, bs, h0, C, hbs⟩, hN⟩, hn, i0, hi0, ho0⟩ := cert_ends E FF hc
  have N36 : N ≤ 1000000000000000000000000000000000000 := by omega
  have fw : Chn 1 vs N (fun k => pt (N - k)) (fun k => vx (N - 1 - k)) (bs.map fun b => N - 3 - b) := C.rev E.pol (.inr rfl) (by rw [h0]; exact hn)
  have dd : 1 ≤ p.2.2 ∧ p.2.2 ≤ d := by
    have z := F.z
    have g1 := F.g1
    have p1 : 0 < p.2.2 := Int.pos_of_mul_pos_right (by omega : 0 < g * p.2.2) (by omega) |> fun z => z
    have := Int.mul_le_mul_of_nonneg_right g1 (Int.le_of_lt p1)
    omega
  refine ⟨N, fun k => pt (N - k), ⟨E.pol, hP, N36, ⟨_, _, fw, by rw [List.length_map]; omega⟩, ⟨vx, bs, C.congr fun k hk => ?_, by omega⟩, fun i hi => ⟨?_, ?_⟩⟩, ?_⟩
  · show pt (N - (N - k)) = pt k
    rw [show N - (N - k) = k by omega]
  · obtain ⟨k1, k2, k3⟩ := C.keep hP (N - i) (by omega)
    rw [h0] at k1 k2 k3
    obtain ⟨k4, k5⟩ := k3 (by omega)
    have bx : ∀ X P : Int, g * P = X → (X.natAbs : Int) ≤ 200000000000000000000000000000000 * d → (P.natAbs : Int) ≤ 200000000000000000000000000000000 * p.2.2 := fun X P e1 e2 => by
      have g1 := F.g1
      have z := F.z
      have : (X.natAbs : Int) = g * (P.natAbs : Int) := by rw [← e1, Int.natAbs_mul]; rw [Int.natCast_mul]; rw [Int.natAbs_of_nonneg (by omega)]
      rw [this, ← z, show (200000000000000000000000000000000 : Int) * (g * p.2.2) = g * (200000000000000000000000000000000 * p.2.2) by grind] at e2
      exact Int.le_of_mul_le_mul_left e2 (by omega)
    have Xb : ∀ a b : Int, (-60 ≤ a ∧ a ≤ 60) → (-60 ≤ b ∧ b ≤ 60) → (((a * d + m * (a - b)).natAbs : Nat) : Int) ≤ 200000000000000000000000000000000 * d := fun a b ha hb => by
      have a1 : -60 * d ≤ a * d := Int.mul_le_mul_of_nonneg_right ha.1 (by omega)
      have a2 : a * d ≤ 60 * d := Int.mul_le_mul_of_nonneg_right ha.2 (by omega)
      have a3 : m * -120 ≤ m * (a - b) := Int.mul_le_mul_of_nonneg_left (by omega) (by omega)
      have a4 : m * (a - b) ≤ m * 120 := Int.mul_le_mul_of_nonneg_left (by omega) (by omega)
      omega
    obtain ⟨⟨va1, va2⟩, va3, va4⟩ := hP.v1 (j : Nat)
    obtain ⟨⟨vb1, vb2⟩, vb3, vb4⟩ := hP.v1 ((j : Nat) + 1)
    have x0 := bx _ _ F.x (Xb _ _ ⟨va1, va2⟩ ⟨vb1, vb2⟩)
    have y0 := bx _ _ F.y (Xb _ _ ⟨va3, va4⟩ ⟨vb3, vb4⟩)
    have w : 120 * p.2.2 * ((N - i : Nat) : Int) ≤ 120000000000000000000000000000000000000 * p.2.2 := by
      have : p.2.2 * ((N - i : Nat) : Int) ≤ p.2.2 * 1000000000000000000000000000000000000 := Int.mul_le_mul_of_nonneg_left (by omega) (by omega)
      rw [Int.mul_assoc]
      omega
    refine ⟨by rw [k1]; exact dd.1, by rw [k1]; omega, by rw [k2]; exact F.u, ?_, ?_, ?_, ?_⟩ <;> rw [k1] <;> omega
  · show OutS vs (pt (N - i))
    rcases Nat.lt_or_ge (N - i) N with q | q
    · obtain ⟨c1, c2⟩ := tanD_cnd (.inr rfl) (C.st _ q)
      refine ⟨_, c1, ?_⟩
      rw [Int.zero_add]
      have := c2.2
      omega
    · by_cases z : N = 0
      · subst z
        refine ⟨i0, hi0, ?_⟩
        rw [Int.zero_add, show 0 - i = 0 by omega, h0]
        exact ho0
      · obtain ⟨c1, c2⟩ := tanD_cnd (.inl rfl) (fw.st 0 (by omega))
        have c3 := c2.1
        simp only [Nat.sub_zero] at c3
        obtain ⟨s, hs, es⟩ := ix_mod (B := vs) (r := -1) (by omega) ((vx (N - 1 - 0) : Nat) : Int)
        refine ⟨s, hs, ?_⟩
        rw [Int.zero_add, side_congr es, show N - i = N by omega]
        simp only [Nat.sub_zero] at *
        rw [show ((vx (N - 1) : Nat) : Int) + -1 = ((vx (N - 1) : Nat) : Int) - 1 by omega]
        omega
  · show pt (N - N) = p
    rw [Nat.sub_self]; exact h0
end
end O26
set_option linter.all false
set_option maxRecDepth 100000
set_option maxHeartbeats 1000000
/-! shapes that are scaled and moved: what their far field is -/
namespace O26
def sim (k : Int) (t : Ve) (v : Ve) : Ve := (k * v.1 + t.1, k * v.2 + t.2)
def scV (k : Int) (v : Ve) : Ve := (k * v.1, k * v.2)
def coreB (W : List Ve) : Bool :=
  decide (3 ≤ W.length) && ((List.range W.length).all (fun i => decide (edg W (i : Nat) ≠ (0, 0))) &&
  (((List.range (dirsRaw W).length).all fun k => ((dirsRaw W).filter fun v => dkey (dirsRaw W) v == k).length == 1) &&
  (decide (dirs W = lwDirs W) && (decide (1 ≤ (lwDirs W).length) && (decide ((lwDirs W).length ≤ 6) && ((dirsRaw W).all (fun v => decide (v.1.natAbs ≤ 200) && decide (v.2.natAbs ≤ 200)) &&
  ((lwWays W).all (fun v => decide (v.1.natAbs ≤ 200) && decide (v.2.natAbs ≤ 200)) &&
  (List.range (lwDirs W).length).all fun i =>
    decide ((lwRow W i).d ≠ 0) && (decide (0 < (lwRow W i).w) && (decide (0 < (lwRow W i).v) && (decide ((lwRow W i).w ≤ 5000) && (decide ((lwRow W i).v ≤ 5000) &&
    (decide ((lwRow W i).sh.1.natAbs ≤ 10000) && (decide ((lwRow W i).sh.2.natAbs ≤ 10000) && decide ((lwRow W i).v = (lwRow W (if i + 1 = (lwDirs W).length then 0 else i + 1)).w)))))))))))))) 
structure Core (W : List Ve) : Prop where
  n3 : 3 ≤ W.length
  edge : ∀ i, i < W.length → edg W (i : Nat) ≠ (0, 0)
  keys : ∀ k, k < (dirsRaw W).length → ((dirsRaw W).filter fun v => dkey (dirsRaw W) v == k).length = 1
  same : dirs W = lwDirs W
  n1 : 1 ≤ (lwDirs W).length
  n6 : (lwDirs W).length ≤ 6
  raw : ∀ v ∈ dirsRaw W, v.1.natAbs ≤ 200 ∧ v.2.natAbs ≤ 200
  ways : ∀ v ∈ lwWays W, v.1.natAbs ≤ 200 ∧ v.2.natAbs ≤ 200
  row : ∀ i, i < (lwDirs W).length → (lwRow W i).d ≠ 0 ∧ 0 < (lwRow W i).w ∧ 0 < (lwRow W i).v ∧ (lwRow W i).w ≤ 5000 ∧ (lwRow W i).v ≤ 5000 ∧ (lwRow W i).sh.1.natAbs ≤ 10000 ∧ (lwRow W i).sh.2.natAbs ≤ 10000 ∧ (lwRow W i).v = (lwRow W (if i + 1 = (lwDirs W).length then 0 else i + 1)).w
theorem Core.of {W : List Ve} (h : coreB W = true) : Core W := by
  unfold coreB at h
  simp only [Bool.and_eq_true, List.all_eq_true, decide_eq_true_eq, List.mem_range, beq_iff_eq] at h
  obtain ⟨h1, h2, h3, h4, h5, h6, h7, h8, h9⟩ := h
  exact ⟨h1, h2, h3, h4, h5, h6, h7, h8, h9⟩
section
variable {W : List Ve} {k : Int} {t : Ve}
theorem len_sim : (W.map (sim k t)).length = W.length := List.length_map _
theorem edg_sim (h : 0 < W.length) (i : Int) : edg (W.map (sim k t)) i = scV k (edg W i) := by
  unfold edg
  rw [vtx_map h, vtx_map h]
  unfold sim scV dif
  simp only
  congr 1 <;> grind
theorem shft_sim (h : 0 < W.length) (i j : Int) : shft (W.map (sim k t)) i j = scV k (shft W i j) := by
  unfold shft
  rw [vtx_map h, vtx_map h]
  unfold sim scV dif
  simp only
  congr 1 <;> grind
theorem gcd_sc (hk : 0 < k) (x y : Int) : ((Int.gcd (k * x) (k * y) : Nat) : Int) = k * (Int.gcd x y : Nat) := by
  rw [Int.gcd_mul_left, Int.natCast_mul, Int.natAbs_of_nonneg (by omega)]
theorem sg_sc (hk : 0 < k) (x : Int) : (k * x < 0 ↔ x < 0) ∧ (k * x = 0 ↔ x = 0) ∧ (0 < k * x ↔ 0 < x) := by
  have a : 0 < x → 0 < k * x := Int.mul_pos hk
  have b : x < 0 → k * x < 0 := Int.mul_neg_of_pos_of_neg hk
  have c : x = 0 → k * x = 0 := fun z => by rw [z, Int.mul_zero]
  omega
theorem primV_sc (hk : 0 < k) (v : Ve) : primV (scV k v) = primV v := by
  obtain ⟨x, y⟩ := v
  unfold primV scV
  simp only
  obtain ⟨a1, a2, a3⟩ := sg_sc hk y
  obtain ⟨b1, b2, b3⟩ := sg_sc hk x
  rw [gcd_sc hk]
  simp only [a1, a2, b1]
  have e : ∀ z : Int, (if y < 0 ∨ y = 0 ∧ x < 0 then -(k * z) else k * z) = k * (if y < 0 ∨ y = 0 ∧ x < 0 then -z else z) := fun z => by split <;> grind
  rw [e, Int.mul_fdiv_mul_of_pos _ _ hk, Int.mul_fdiv_mul_of_pos _ _ hk]
theorem lwWay_sim (h : 0 < W.length) (hk : 0 < k) (i : Nat) : lwWay (W.map (sim k t)) i = lwWay W i := by
  unfold lwWay
  rw [edg_sim h]
  unfold scV
  simp only
  obtain ⟨a1, a2, a3⟩ := sg_sc hk (edg W (i : Nat)).2
  obtain ⟨b1, b2, b3⟩ := sg_sc hk (edg W (i : Nat)).1
  rw [gcd_sc hk]
  simp only [gt_iff_lt, a3, a2, b3]
  rw [Int.mul_assoc, Int.mul_fdiv_mul_of_pos _ _ hk, Int.mul_fdiv_mul_of_pos _ _ hk]
theorem dirsRaw_sim (h : 0 < W.length) (hk : 0 < k) : dirsRaw (W.map (sim k t)) = dirsRaw W := by
  unfold dirsRaw
  rw [len_sim]
  congr 1
  funext acc i
  rw [edg_sim h, primV_sc hk]
theorem dirs_sim (h : 0 < W.length) (hk : 0 < k) : dirs (W.map (sim k t)) = dirs W := by unfold dirs; rw [dirsRaw_sim h hk]
theorem lwDirs_sim (h : 0 < W.length) (hk : 0 < k) : lwDirs (W.map (sim k t)) = lwDirs W := by
  unfold lwDirs
  rw [len_sim]
  congr 1
  funext acc i
  rw [lwWay_sim h hk]
theorem lwWays_sim (h : 0 < W.length) (hk : 0 < k) : lwWays (W.map (sim k t)) = lwWays W := by unfold lwWays; rw [lwDirs_sim h hk]
theorem farVals_sim (a b : Ve) : farVals (W.map (sim k t)) a b = (farVals W a b).map fun x => k * x + crs (a.1 + b.1, a.2 + b.2) t := by
  unfold farVals
  rw [List.map_map, List.map_map]
  refine List.map_congr_left fun v _ => ?_
  unfold sim crs
  simp only [Function.comp]
  grind
theorem le_sc (hk : 0 < k) (c x y : Int) : k * x + c ≤ k * y + c ↔ x ≤ y := by
  constructor
  · intro h
    exact Int.le_of_mul_le_mul_left (by omega : k * x ≤ k * y) hk
  · intro h
    have := Int.mul_le_mul_of_nonneg_left h (Int.le_of_lt hk)
    omega
theorem maxIx_map (hk : 0 < k) (c : Int) (l : List Int) : maxIx (l.map fun x => k * x + c) = maxIx l := by
  unfold maxIx
  rw [List.findIdx?_map]
  congr 2
  funext x
  simp only [Function.comp, List.all_map]
  congr 1
  funext y
  simp only [Function.comp, le_sc hk]
theorem minIx_map (hk : 0 < k) (c : Int) (l : List Int) : minIx (l.map fun x => k * x + c) = minIx l := by
  unfold minIx
  rw [List.findIdx?_map]
  congr 2
  funext x
  simp only [Function.comp, List.all_map]
  congr 1
  funext y
  simp only [Function.comp, le_sc hk]
theorem farP_sim (h : 0 < W.length) (hk : 0 < k) (a b : Ve) : farP (W.map (sim k t)) a b = ((farP W a b).1, (farP W a b).2.1, scV k (farP W a b).2.2) := by
  unfold farP
  simp only
  rw [farVals_sim, maxIx_map hk, minIx_map hk, shft_sim h]
theorem absI_sc (hk : 0 < k) (x : Int) : absI (k * x) = k * absI x := by
  unfold absI
  obtain ⟨a1, a2, a3⟩ := sg_sc hk x
  simp only [a1]
  split <;> grind
theorem crs_sc (a v : Ve) : crs a (scV k v) = k * crs a v := by unfold crs scV; simp only; grind
theorem lwRow_sim (h : 0 < W.length) (hk : 0 < k) (i : Nat) : lwRow (W.map (sim k t)) i = ⟨(lwRow W i).one, (lwRow W i).two, (lwRow W i).near, (lwRow W i).far, scV k (lwRow W i).sh, k * (lwRow W i).w, k * (lwRow W i).v, (lwRow W i).d⟩ := by
  unfold lwRow
  simp only
  rw [lwWays_sim h hk, farP_sim h hk, crs_sc, crs_sc, absI_sc hk, absI_sc hk]
/-! what all is in W' = the scaled and moved W -/
theorem getD_map' {α β : Type} (f : α → β) (l : List α) (i : Nat) (a : α) (b : β) (h : i < l.length) : (l.map f).getD i b = f (l.getD i a) := by
  rw [List.getD_eq_getElem?_getD, List.getD_eq_getElem?_getD, List.getElem?_map, List.getElem?_eq_getElem h]; rfl
theorem fVec_ways (c : Core W) (hk : 0 < k) : fVec (W.map (sim k t)) = lwWays W := by
  have h : 0 < W.length := by have := c.n3; omega
  unfold fVec lwWays
  rw [dirs_sim h hk, c.same, Int.zero_sub, Int.zero_sub]
theorem ways_len (c : Core W) : (lwWays W).length = (lwDirs W).length + 1 := by unfold lwWays; rw [List.length_append]; rfl
theorem fPairs_len (c : Core W) (hk : 0 < k) : (fPairs (W.map (sim k t))).length = (lwDirs W).length := by
  unfold fPairs
  rw [List.length_map, List.length_zip, List.length_tail, fVec_ways c hk, ways_len c]
  omega
theorem fPairs_at (c : Core W) (hk : 0 < k) {i : Nat} (hi : i < (lwDirs W).length) : (fPairs (W.map (sim k t)))[i]? = some (farP (W.map (sim k t)) ((lwWays W).getD i (0, 0)) ((lwWays W).getD (i + 1) (0, 0))) := by
  have wl := ways_len c
  unfold fPairs
  rw [fVec_ways c hk, List.getElem?_map]
  have e1 : (lwWays W)[i]? = some ((lwWays W).getD i (0, 0)) := by rw [List.getD_eq_getElem?_getD, List.getElem?_eq_getElem (by omega)]; rfl
  have e2 : (lwWays W).tail[i]? = some ((lwWays W).getD (i + 1) (0, 0)) := by rw [List.getElem?_tail, List.getD_eq_getElem?_getD, List.getElem?_eq_getElem (by omega)]; rfl
  have e3 : ((lwWays W).zip (lwWays W).tail)[i]? = some ((lwWays W).getD i (0, 0), (lwWays W).getD (i + 1) (0, 0)) := List.getElem?_zip_eq_some.mpr ⟨e1, e2⟩
  rw [e3]
  rfl
theorem fWid0_at (c : Core W) (hk : 0 < k) {i : Nat} (hi : i < (lwDirs W).length) : (fWid0 (W.map (sim k t)))[i]? = some (k * (lwRow W i).w) := by
  have h : 0 < W.length := by have := c.n3; omega
  unfold fWid0
  rw [List.getElem?_map]
  have e1 : (dirs (W.map (sim k t)))[i]? = some ((lwWays W).getD i (0, 0)) := by
    rw [dirs_sim h hk, c.same]
    unfold lwWays
    rw [List.getD_eq_getElem?_getD, List.getElem?_append_left hi, List.getElem?_eq_getElem hi]; rfl
  have e3 : ((dirs (W.map (sim k t))).zip (fPairs (W.map (sim k t))))[i]? = some ((lwWays W).getD i (0, 0), farP (W.map (sim k t)) ((lwWays W).getD i (0, 0)) ((lwWays W).getD (i + 1) (0, 0))) := List.getElem?_zip_eq_some.mpr ⟨e1, fPairs_at c hk hi⟩
  rw [e3]
  simp only [Option.map_some, Option.some.injEq]
  rw [farP_sim h hk, crs_sc, absI_sc hk]
  rfl
theorem fWid0_len (c : Core W) (hk : 0 < k) : (fWid0 (W.map (sim k t))).length = (lwDirs W).length := by
  have h : 0 < W.length := by have := c.n3; omega
  unfold fWid0
  rw [List.length_map, List.length_zip, fPairs_len c hk, dirs_sim h hk, c.same]
  omega
theorem fWid_at (c : Core W) (hk : 0 < k) {i : Nat} (hi : i ≤ (lwDirs W).length) : (fWid (W.map (sim k t)))[i]? = some (k * (lwRow W (if i = (lwDirs W).length then 0 else i)).w) := by
  have hl := fWid0_len (t := t) c hk
  have n1 := c.n1
  unfold fWid
  by_cases q : i = (lwDirs W).length
  · rw [if_pos q, List.getElem?_append_right (by omega), hl, q, Nat.sub_self, List.getElem?_take_of_lt (by omega)]
    exact fWid0_at c hk n1
  · rw [if_neg q, List.getElem?_append_left (by omega)]
    exact fWid0_at c hk (by omega)
theorem fNeed_eq (c : Core W) (hk : 0 < k) {i : Nat} (hi : i < (lwDirs W).length) : fNeed (W.map (sim k t)) i = lwPart (lwRow (W.map (sim k t)) i) ∧ fTurn (W.map (sim k t)) i = (lwRow W i).d := by
  have h : 0 < W.length := by have := c.n3; omega
  have e1 := fWid_at (t := t) c hk (Nat.le_of_lt hi)
  have e2 := fWid_at (t := t) c hk (show i + 1 ≤ (lwDirs W).length from hi)
  rw [if_neg (by omega)] at e1
  have r := (c.row i hi).2.2.2.2.2.2.2
  rw [← r] at e2
  have et : fTurn (W.map (sim k t)) i = (lwRow W i).d := by
    unfold fTurn
    rw [fVec_ways c hk]
    rfl
  refine ⟨?_, et⟩
  unfold fNeed lwPart
  rw [lwRow_sim h hk, List.getD_eq_getElem?_getD, e1, List.getD_eq_getElem?_getD, e2, et]
  rfl
theorem part_pos {p d b : Int} (hp : 0 < p) (hb : p ≤ b) : 0 < p / (Int.gcd p d : Nat) ∧ p / (Int.gcd p d : Nat) ≤ b := by
  have g0 : 0 < (Int.gcd p d : Nat) := Nat.pos_of_ne_zero fun z => by have := Int.eq_zero_of_gcd_eq_zero_left z; omega
  have g1 := Int.le_of_dvd hp (Int.gcd_dvd_left p d)
  refine ⟨Int.ediv_pos_of_pos_of_dvd hp (by omega) (Int.gcd_dvd_left p d), ?_⟩
  exact Int.le_trans (Int.ediv_le_self _ (by omega)) hb
theorem lwPart_bd (c : Core W) (hk : 0 < k) (hk3 : k ≤ 3) {i : Nat} (hi : i < (lwDirs W).length) : 0 < lwPart (lwRow (W.map (sim k t)) i) ∧ lwPart (lwRow (W.map (sim k t)) i) ≤ 1000000000 := by
  have h : 0 < W.length := by have := c.n3; omega
  obtain ⟨r1, r2, r3, r4, r5, r6, r7, r8⟩ := c.row i hi
  unfold lwPart
  rw [lwRow_sim h hk]
  simp only
  refine part_pos (Int.mul_pos (Int.mul_pos hk r2) (Int.mul_pos hk r3)) ?_
  have a1 : k * (lwRow W i).w ≤ 3 * 5000 := Int.mul_le_mul hk3 r4 (by omega) (by omega)
  have a2 : k * (lwRow W i).v ≤ 3 * 5000 := Int.mul_le_mul hk3 r5 (by omega) (by omega)
  have := Int.mul_le_mul a1 a2 (Int.le_of_lt (Int.mul_pos hk r3)) (by omega)
  omega
theorem Core.mod (c : Core W) (hk : 0 < k) : modU (W.map (sim k t)) = lwMod (W.map (sim k t)) := by
  have h : 0 < W.length := by have := c.n3; omega
  unfold modU lwMod lwRows
  rw [dirs_sim h hk, c.same, lwDirs_sim h hk, List.map_map]
  congr 1
  refine List.map_congr_left fun i hi => ?_
  exact (fNeed_eq c hk (List.mem_range.mp hi)).1
theorem dirs_len (W : List Ve) : (dirs W).length = (dirsRaw W).length := by unfold dirs dirsL; rw [List.length_map, List.length_range]
theorem mem_getElem? {α : Type} {l : List α} {a : α} (h : a ∈ l) : ∃ i, i < l.length ∧ l[i]? = some a := by
  obtain ⟨i, hi, e⟩ := List.getElem_of_mem h
  exact ⟨i, hi, by rw [List.getElem?_eq_getElem hi, e]⟩
theorem Core.far (c : Core W) (hk : 0 < k) (hk3 : k ≤ 3) : FarOk (W.map (sim k t)) := by
  have h : 0 < W.length := by have := c.n3; omega
  have dl := dirs_len W
  rw [c.same] at dl
  have n1 := c.n1
  have n6 := c.n6
  refine ⟨fun i hi => ?_, by rw [dirsRaw_sim h hk]; exact c.keys, by rw [dirsRaw_sim h hk]; omega, by rw [dirsRaw_sim h hk]; omega, by rw [dirsRaw_sim h hk]; exact c.raw, dirs_len _, ?_, ?_, ?_, fun x hx => ?_, fun i hi => ?_⟩
  · rw [len_sim] at hi
    rw [edg_sim h]
    intro z
    have e := c.edge i hi
    unfold scV at z
    have z1 := congrArg Prod.fst z
    have z2 := congrArg Prod.snd z
    simp only at z1 z2
    refine e (Prod.ext ((sg_sc hk _).2.1.mp z1) ((sg_sc hk _).2.1.mp z2))
  · rw [fVec_ways c hk, dirs_sim h hk, c.same, ways_len c]
  · rw [dirs_sim h hk, c.same]
    unfold fWid
    rw [List.length_append, List.length_take, fWid0_len c hk]
    omega
  · rw [fVec_ways c hk]; exact c.ways
  · obtain ⟨i, hi, e⟩ := mem_getElem? hx
    have hl : i ≤ (lwDirs W).length := by
      unfold fWid at hi
      rw [List.length_append, List.length_take, fWid0_len c hk] at hi
      omega
    rw [fWid_at c hk hl] at e
    cases e
    have r : ∀ j, j < (lwDirs W).length → (k * (lwRow W j).w).natAbs ≤ 1000000 := fun j hj => by
      obtain ⟨r1, r2, r3, r4, r5, r6, r7, r8⟩ := c.row j hj
      have a1 : k * (lwRow W j).w ≤ 3 * 5000 := Int.mul_le_mul hk3 r4 (by omega) (by omega)
      have a0 := Int.mul_pos hk r2
      omega
    split
    · exact r 0 (by omega)
    · exact r i (by omega)
  · rw [dirs_sim h hk, c.same] at hi
    obtain ⟨e1, e2⟩ := fNeed_eq (t := t) c hk hi
    obtain ⟨b1, b2⟩ := lwPart_bd (t := t) c hk hk3 hi
    rw [e1, e2]
    exact ⟨⟨b1, (c.row i hi).1⟩, b2⟩
theorem Core.law (c : Core W) (hk : 0 < k) (hk3 : k ≤ 3) : LawOk (W.map (sim k t)) := by
  have h : 0 < W.length := by have := c.n3; omega
  refine ⟨(c.far hk hk3).edge, by rw [lwDirs_sim h hk]; exact c.n1, by rw [lwDirs_sim h hk]; exact c.n6, fun v hv => ?_, fun r hr => ?_⟩
  · rw [lwWays_sim h hk] at hv
    have := c.ways v hv
    omega
  · unfold lwRows at hr
    obtain ⟨i, hi, rfl⟩ := List.mem_map.mp hr
    rw [lwDirs_sim h hk] at hi
    have hi := List.mem_range.mp hi
    obtain ⟨r1, r2, r3, r4, r5, r6, r7, r8⟩ := c.row i hi
    refine ⟨⟨⟨(lwPart_bd c hk hk3 hi).1, ?_⟩, (lwPart_bd c hk hk3 hi).2⟩, ?_⟩
    · rw [lwRow_sim h hk]; exact r1
    · rw [lwRow_sim h hk]
      unfold scV
      simp only
      have b : ∀ x : Int, x.natAbs ≤ 10000 → (k * x).natAbs ≤ 100000 := fun x hx => by
        rw [Int.natAbs_mul]
        have := Nat.mul_le_mul (show k.natAbs ≤ 3 by omega) hx
        omega
      exact ⟨b _ r6, b _ r7⟩
end
end O26
set_option linter.all false
set_option maxRecDepth 100000
set_option maxHeartbeats 1000000
/-! the tables that can be drawn, and their shapes: checked by the kernel -/
namespace O26
def mat0 : List (Ve × Ve) := [((1, 0), (0, 1))]
def mat1 : List (Ve × Ve) := [((1, 0), (0, 1)), ((1, 0), (1, 1)), ((1, 1), (0, 1)), ((0, 1), (-1, 0)), ((1, 0), (-1, 1)), ((1, -1), (0, 1)), ((0, 1), (1, 0)), ((2, 1), (1, 1))]
def mat2 : List (Ve × Ve) := [((1, 0), (0, 1)), ((1, 0), (1, 1)), ((1, 1), (0, 1)), ((0, 1), (-1, 0)), ((1, 0), (-1, 1)), ((1, -1), (0, 1)), ((0, 1), (1, 0)), ((2, 1), (1, 1)), ((1, 0), (2, 1)), ((1, 1), (1, 2)), ((0, 1), (-1, 1)), ((1, -1), (1, 0)), ((0, 1), (1, 1)), ((2, 1), (3, 2)), ((1, 2), (0, 1)), ((-1, 1), (-1, 0)), ((1, 1), (1, 0)), ((3, 2), (1, 1)), ((1, 1), (-1, 0)), ((0, 1), (-1, -1)), ((-1, 0), (0, -1)), ((1, 0), (0, -1)), ((1, 1), (-2, -1)), ((1, 0), (-2, 1)), ((1, -1), (-1, 2)), ((0, 1), (1, -1)), ((2, 1), (-1, 0)), ((0, -1), (1, 1)), ((2, -1), (-1, 1)), ((1, -2), (0, 1)), ((-1, 1), (1, 0)), ((-1, 0), (0, 1)), ((1, 1), (2, 1)), ((3, 1), (2, 1)), ((2, 3), (1, 2)), ((-1, 2), (-1, 1)), ((2, -1), (1, 0)), ((1, 2), (1, 1)), ((5, 3), (3, 2))]
def m3_0 : List (Ve × Ve) := [((1, 0), (0, 1)), ((1, 0), (1, 1)), ((1, 1), (0, 1)), ((0, 1), (-1, 0))]
def m3_1 : List (Ve × Ve) := [((1, 0), (-1, 1)), ((1, -1), (0, 1)), ((0, 1), (1, 0)), ((2, 1), (1, 1))]
def m3_2 : List (Ve × Ve) := [((1, 0), (2, 1)), ((1, 1), (1, 2)), ((0, 1), (-1, 1)), ((1, -1), (1, 0))]
def m3_3 : List (Ve × Ve) := [((0, 1), (1, 1)), ((2, 1), (3, 2)), ((1, 2), (0, 1)), ((-1, 1), (-1, 0))]
def m3_4 : List (Ve × Ve) := [((1, 1), (1, 0)), ((3, 2), (1, 1)), ((1, 1), (-1, 0)), ((0, 1), (-1, -1))]
def m3_5 : List (Ve × Ve) := [((-1, 0), (0, -1)), ((1, 0), (0, -1)), ((1, 1), (-2, -1)), ((1, 0), (-2, 1))]
def m3_6 : List (Ve × Ve) := [((1, -1), (-1, 2)), ((0, 1), (1, -1)), ((2, 1), (-1, 0)), ((0, -1), (1, 1))]
def m3_7 : List (Ve × Ve) := [((2, -1), (-1, 1)), ((1, -2), (0, 1)), ((-1, 1), (1, 0)), ((-1, 0), (0, 1))]
def m3_8 : List (Ve × Ve) := [((1, 1), (2, 1)), ((3, 1), (2, 1)), ((2, 3), (1, 2)), ((-1, 2), (-1, 1))]
def m3_9 : List (Ve × Ve) := [((2, -1), (1, 0)), ((1, 2), (1, 1)), ((5, 3), (3, 2)), ((1, 0), (3, 1))]
def m3_10 : List (Ve × Ve) := [((1, 1), (2, 3)), ((0, 1), (-1, 2)), ((1, -1), (2, -1)), ((0, 1), (1, 2))]
def m3_11 : List (Ve × Ve) := [((2, 1), (5, 3)), ((1, 2), (1, 3)), ((-1, 1), (-2, 1)), ((3, 2), (4, 3))]
def m3_12 : List (Ve × Ve) := [((-1, 0), (-1, -1)), ((1, 0), (1, -1)), ((0, -1), (1, 0)), ((1, -2), (1, -1))]
def m3_13 : List (Ve × Ve) := [((-1, 1), (0, 1)), ((-1, 0), (-1, 1)), ((1, 1), (3, 2)), ((3, 1), (5, 2))]
def m3_14 : List (Ve × Ve) := [((2, 3), (3, 5)), ((-1, 2), (-2, 3)), ((2, -1), (3, -1)), ((1, 2), (2, 3))]
def m3_15 : List (Ve × Ve) := [((5, 3), (8, 5)), ((1, 3), (0, 1)), ((-2, 1), (-1, 0)), ((2, 1), (1, 0))]
def m3_16 : List (Ve × Ve) := [((4, 3), (1, 1)), ((-1, -1), (0, -1)), ((1, -1), (0, -1)), ((-1, 0), (-2, -1))]
def m3_17 : List (Ve × Ve) := [((3, 2), (2, 1)), ((5, 2), (2, 1)), ((3, 5), (1, 2)), ((-2, 3), (-1, 1))]
def m3_18 : List (Ve × Ve) := [((3, -1), (1, 0)), ((2, 3), (1, 1)), ((8, 5), (3, 2)), ((1, 2), (-1, -1))]
def m3_19 : List (Ve × Ve) := [((-1, 1), (0, -1)), ((1, 1), (0, -1)), ((3, 2), (-2, -1)), ((0, 1), (-1, -2))]
def m3_20 : List (Ve × Ve) := [((-1, 0), (1, -1)), ((1, 0), (-1, -1)), ((1, 1), (-3, -2)), ((0, -1), (-1, 0))]
def m3_21 : List (Ve × Ve) := [((-2, -1), (-1, -1)), ((2, 1), (-1, -1)), ((2, 1), (-3, -1)), ((1, 2), (-2, -3))]
def m3_22 : List (Ve × Ve) := [((-1, 1), (1, -2)), ((1, 1), (-1, -2)), ((3, 2), (-5, -3)), ((1, 0), (-3, 1))]
def m3_23 : List (Ve × Ve) := [((1, -1), (-2, 3)), ((0, 1), (1, -2)), ((0, -1), (1, 2)), ((2, -1), (-3, 2))]
def m3_24 : List (Ve × Ve) := [((1, -2), (-1, 3)), ((-1, 1), (2, -1)), ((-1, 0), (1, 1)), ((3, 1), (-1, 0))]
def m3_25 : List (Ve × Ve) := [((2, 3), (-1, -1)), ((-1, 2), (0, -1)), ((1, 2), (0, -1)), ((5, 3), (-2, -1))]
def m3_26 : List (Ve × Ve) := [((-1, -1), (2, 1)), ((-1, -1), (3, 2)), ((3, -1), (-2, 1)), ((2, -3), (-1, 2))]
def m3_27 : List (Ve × Ve) := [((-1, 2), (1, -1)), ((-1, -2), (1, 1)), ((3, -2), (-1, 1)), ((1, -3), (0, 1))]
def m3_28 : List (Ve × Ve) := [((-2, 1), (1, 0)), ((-1, -1), (0, 1)), ((-1, 0), (2, 1)), ((-2, -1), (1, 1))]
def m3_29 : List (Ve × Ve) := [((2, 1), (3, 1)), ((-1, 1), (-1, 2)), ((1, 0), (2, -1)), ((3, 2), (5, 3))]
def m3_30 : List (Ve × Ve) := [((4, 1), (3, 1)), ((3, 4), (2, 3)), ((-1, 3), (-1, 2)), ((3, -2), (2, -1))]
def m3_31 : List (Ve × Ve) := [((1, 3), (1, 2)), ((7, 4), (5, 3)), ((2, 5), (1, 3)), ((-3, 2), (-2, 1))]
def m3_32 : List (Ve × Ve) := [((7, 5), (4, 3)), ((2, -1), (1, -1)), ((2, -3), (1, -1)), ((-1, 2), (0, 1))]
def m3_33 : List (Ve × Ve) := [((-2, 1), (-1, 1)), ((4, 3), (3, 2)), ((8, 3), (5, 2)), ((5, 8), (3, 5))]
def m3_34 : List (Ve × Ve) := [((-3, 5), (-2, 3)), ((5, -2), (3, -1)), ((3, 5), (2, 3)), ((13, 8), (8, 5))]
def mat3 : List (Ve × Ve) := m3_0 ++ (m3_1 ++ (m3_2 ++ (m3_3 ++ (m3_4 ++ (m3_5 ++ (m3_6 ++ (m3_7 ++ (m3_8 ++ (m3_9 ++ (m3_10 ++ (m3_11 ++ (m3_12 ++ (m3_13 ++ (m3_14 ++ (m3_15 ++ (m3_16 ++ (m3_17 ++ (m3_18 ++ (m3_19 ++ (m3_20 ++ (m3_21 ++ (m3_22 ++ (m3_23 ++ (m3_24 ++ (m3_25 ++ (m3_26 ++ (m3_27 ++ (m3_28 ++ (m3_29 ++ (m3_30 ++ (m3_31 ++ (m3_32 ++ (m3_33 ++ (m3_34))))))))))))))))))))))))))))))))))
def tab0 (m : Ve × Ve) : Tab := ⟨m.1.1, m.2.1, m.1.2, m.2.2, 0, 0⟩
def upB (l l' : List (Ve × Ve)) : Bool := l.all fun m => (List.range 8).all fun k => l'.contains (mapC (rowT k) m.1, mapC (rowT k) m.2)
theorem up0 : upB mat0 mat1 = true := by decide +kernel
theorem up1 : upB mat1 mat2 = true := by decide +kernel
theorem up2 : upB mat2 mat3 = true := by decide +kernel
theorem sub3 : ((mat0.all fun m => mat3.contains m) && ((mat1.all fun m => mat3.contains m) && (mat2.all fun m => mat3.contains m))) = true := by decide +kernel
theorem det3 : (mat3.all fun m => decide (detT (tab0 m) = 1) || decide (detT (tab0 m) = -1)) = true := by decide +kernel
def coreM (m : Ve × Ve) : Bool := shapesL.all fun s => coreB (mappedL (tab0 m) s)
theorem c3_0 : m3_0.all coreM = true := by decide +kernel
theorem c3_1 : m3_1.all coreM = true := by decide +kernel
theorem c3_2 : m3_2.all coreM = true := by decide +kernel
theorem c3_3 : m3_3.all coreM = true := by decide +kernel
theorem c3_4 : m3_4.all coreM = true := by decide +kernel
theorem c3_5 : m3_5.all coreM = true := by decide +kernel
theorem c3_6 : m3_6.all coreM = true := by decide +kernel
theorem c3_7 : m3_7.all coreM = true := by decide +kernel
theorem c3_8 : m3_8.all coreM = true := by decide +kernel
theorem c3_9 : m3_9.all coreM = true := by decide +kernel
theorem c3_10 : m3_10.all coreM = true := by decide +kernel
theorem c3_11 : m3_11.all coreM = true := by decide +kernel
theorem c3_12 : m3_12.all coreM = true := by decide +kernel
theorem c3_13 : m3_13.all coreM = true := by decide +kernel
theorem c3_14 : m3_14.all coreM = true := by decide +kernel
theorem c3_15 : m3_15.all coreM = true := by decide +kernel
theorem c3_16 : m3_16.all coreM = true := by decide +kernel
theorem c3_17 : m3_17.all coreM = true := by decide +kernel
theorem c3_18 : m3_18.all coreM = true := by decide +kernel
theorem c3_19 : m3_19.all coreM = true := by decide +kernel
theorem c3_20 : m3_20.all coreM = true := by decide +kernel
theorem c3_21 : m3_21.all coreM = true := by decide +kernel
theorem c3_22 : m3_22.all coreM = true := by decide +kernel
theorem c3_23 : m3_23.all coreM = true := by decide +kernel
theorem c3_24 : m3_24.all coreM = true := by decide +kernel
theorem c3_25 : m3_25.all coreM = true := by decide +kernel
theorem c3_26 : m3_26.all coreM = true := by decide +kernel
theorem c3_27 : m3_27.all coreM = true := by decide +kernel
theorem c3_28 : m3_28.all coreM = true := by decide +kernel
theorem c3_29 : m3_29.all coreM = true := by decide +kernel
theorem c3_30 : m3_30.all coreM = true := by decide +kernel
theorem c3_31 : m3_31.all coreM = true := by decide +kernel
theorem c3_32 : m3_32.all coreM = true := by decide +kernel
theorem c3_33 : m3_33.all coreM = true := by decide +kernel
theorem c3_34 : m3_34.all coreM = true := by decide +kernel
theorem core3 : (mat3.all coreM) = true := by
  unfold mat3
  simp only [List.all_append, c3_0, c3_1, c3_2, c3_3, c3_4, c3_5, c3_6, c3_7, c3_8, c3_9, c3_10, c3_11, c3_12, c3_13, c3_14, c3_15, c3_16, c3_17, c3_18, c3_19, c3_20, c3_21, c3_22, c3_23, c3_24, c3_25, c3_26, c3_27, c3_28, c3_29, c3_30, c3_31, c3_32, c3_33, c3_34, Bool.and_true]
end O26
set_option linter.all false
set_option maxRecDepth 100000
set_option maxHeartbeats 1000000
/-! the drawn shape is one of the checked ones, scaled and moved -/
namespace O26
section
variable {k : Int} {t : Ve}
theorem ltVb_iff (a b : Ve) : ltVb a b = true ↔ a.1 < b.1 ∨ (a.1 = b.1 ∧ a.2 < b.2) := by
  unfold ltVb
  simp only [Bool.or_eq_true, Bool.and_eq_true, decide_eq_true_eq]
theorem lt_sc (hk : 0 < k) (c x y : Int) : k * x + c < k * y + c ↔ x < y := by
  have := le_sc hk c y x
  omega
theorem eq_sc (hk : 0 < k) (c x y : Int) : k * x + c = k * y + c ↔ x = y := by
  have := le_sc hk c y x
  have := le_sc hk c x y
  omega
theorem ltVb_sim (hk : 0 < k) (a b : Ve) : ltVb (sim k t a) (sim k t b) = ltVb a b := by
  rw [Bool.eq_iff_iff, ltVb_iff, ltVb_iff]
  unfold sim
  simp only
  rw [lt_sc hk, lt_sc hk, eq_sc hk]
theorem sim_inj (hk : 0 < k) (a b : Ve) : sim k t a = sim k t b ↔ a = b := by
  constructor
  · intro h
    have h1 := congrArg Prod.fst h
    have h2 := congrArg Prod.snd h
    exact Prod.ext ((eq_sc hk _ _ _).mp h1) ((eq_sc hk _ _ _).mp h2)
  · intro h; rw [h]
theorem leastW_sim (hk : 0 < k) : ∀ (r : List Ve) (v : Ve), leastW (sim k t v) (r.map (sim k t)) = sim k t (leastW v r) := by
  intro r
  induction r with
  | nil => intro v; rfl
  | cons y r ih =>
    intro v
    have e : leastW v (y :: r) = leastW (if ltVb y v then y else v) r := rfl
    have e2 : leastW (sim k t v) ((y :: r).map (sim k t)) = leastW (if ltVb (sim k t y) (sim k t v) then sim k t y else sim k t v) (r.map (sim k t)) := rfl
    rw [e, e2, ltVb_sim hk]
    have e3 : (if ltVb y v = true then sim k t y else sim k t v) = sim k t (if ltVb y v = true then y else v) := by split <;> rfl
    rw [e3, ih]
theorem leastK_sim (hk : 0 < k) (v : Ve) (r : List Ve) : leastK (sim k t v) (r.map (sim k t)) = leastK v r := by
  unfold leastK
  rw [leastW_sim hk, ← List.map_cons, List.findIdx?_map]
  congr 2
  funext x
  simp only [Function.comp, sim_inj hk]
theorem fromLeast_sim (hk : 0 < k) (l : List Ve) : fromLeast (l.map (sim k t)) = (fromLeast l).map (sim k t) := by
  cases l with
  | nil => rfl
  | cons v r =>
    rw [List.map_cons]
    unfold fromLeast
    simp only
    rw [leastK_sim hk]
    unfold rotL
    rw [List.map_append, List.map_drop, List.map_take, List.map_cons]
end
theorem mapped_sim {T : Tab} {k : Int} (hk : 0 < k) (s : List Ve) : mappedL T (scaleL k s) = (mappedL ⟨T.a, T.b, T.c, T.d, 0, 0⟩ s).map (sim k (T.p, T.q)) := by
  have e : (scaleL k s).map (mapC T) = (s.map (mapC ⟨T.a, T.b, T.c, T.d, 0, 0⟩)).map (sim k (T.p, T.q)) := by
    unfold scaleL
    rw [List.map_map, List.map_map]
    refine List.map_congr_left fun v _ => ?_
    unfold mapC sim
    simp only [Function.comp]
    congr 1 <;> grind
  unfold mappedL
  simp only
  rw [e]
  split
  · exact fromLeast_sim hk _
  · rw [← List.map_reverse]; exact fromLeast_sim hk _
/-! the least vertex stands first -/
theorem lwm_mem : ∀ (r : List Ve) (v : Ve), leastW v r ∈ v :: r := by
  intro r
  induction r with
  | nil => intro v; exact List.mem_singleton.mpr rfl
  | cons y r ih =>
    intro v
    have e : leastW v (y :: r) = leastW (if ltVb y v then y else v) r := rfl
    rw [e]
    have := ih (if ltVb y v then y else v)
    rcases List.mem_cons.mp this with q | q
    · rw [q]
      split
      · exact List.mem_cons_of_mem _ List.mem_cons_self
      · exact List.mem_cons_self
    · exact List.mem_cons_of_mem _ (List.mem_cons_of_mem _ q)
theorem leastW_le : ∀ (r : List Ve) (v : Ve), ∀ y ∈ v :: r, ltVb y (leastW v r) = false := by
  intro r
  induction r with
  | nil =>
    intro v y hy
    have e := List.mem_singleton.mp hy
    subst e
    rw [Bool.eq_false_iff]
    intro h
    have h := (ltVb_iff _ _).mp h
    have e : leastW y [] = y := rfl
    rw [e] at h
    omega
  | cons z r ih =>
    intro v y hy
    have e : leastW v (z :: r) = leastW (if ltVb z v then z else v) r := rfl
    rw [e]
    have i := ih (if ltVb z v then z else v)
    generalize leastW (if ltVb z v then z else v) r = m at *
    have i0 := i _ List.mem_cons_self
    rcases List.mem_cons.mp hy with q | q
    · subst q
      by_cases h : ltVb z y = true
      · rw [if_pos h] at i0
        rw [Bool.eq_false_iff] at i0 ⊢
        intro h2
        refine i0 ((ltVb_iff _ _).mpr ?_)
        have a := (ltVb_iff _ _).mp h
        have b := (ltVb_iff _ _).mp h2
        omega
      · rw [if_neg h] at i0; exact i0
    · rcases List.mem_cons.mp q with q | q
      · subst q
        by_cases h : ltVb y v = true
        · rw [if_pos h] at i0; exact i0
        · rw [if_neg h] at i0
          rw [Bool.eq_false_iff] at i0 ⊢
          intro h2
          have h3 : ¬ ltVb v m = true := i0
          rw [ltVb_iff] at h h2 h3
          omega
      · exact i y (List.mem_cons_of_mem _ q)
theorem leastW_first {m : Ve} : ∀ (r : List Ve), (∀ y ∈ r, ltVb y m = false) → leastW m r = m := by
  intro r
  induction r with
  | nil => intro _; rfl
  | cons y r ih =>
    intro h
    have e : leastW m (y :: r) = leastW (if ltVb y m then y else m) r := rfl
    rw [e, h y List.mem_cons_self]
    exact ih fun z hz => h z (List.mem_cons_of_mem _ hz)
theorem flK_lt (v : Ve) (r : List Ve) : ∃ h : leastK v r < (v :: r).length, (v :: r)[leastK v r] = leastW v r := by
  unfold leastK
  cases e : (v :: r).findIdx? fun x => decide (x = leastW v r) with
  | none =>
    have := List.findIdx?_eq_none_iff.mp e _ (lwm_mem r v)
    simp at this
  | some i =>
    obtain ⟨h, h1, _⟩ := List.findIdx?_eq_some_iff_getElem.mp e
    exact ⟨h, of_decide_eq_true h1⟩
theorem fromLeast_first {l : List Ve} (h : 0 < l.length) : ∃ v r, fromLeast l = v :: r ∧ leastW v r = v := by
  cases l with
  | nil => cases h
  | cons v r =>
    obtain ⟨hk, e⟩ := flK_lt v r
    refine ⟨leastW v r, (v :: r).drop (leastK v r + 1) ++ (v :: r).take (leastK v r), ?_, leastW_first _ fun y hy => leastW_le r v y ?_⟩
    · show rotL (leastK v r) (v :: r) = _
      unfold rotL
      rw [List.drop_eq_getElem_cons hk, e, List.cons_append]
    · rcases List.mem_append.mp hy with q | q
      · exact List.mem_of_mem_drop q
      · exact List.mem_of_mem_take q
theorem fromLeast_rot {l : List Ve} (h : 0 < l.length) : ∃ k, k ≤ l.length ∧ fromLeast l = rotL k l := by
  cases l with
  | nil => cases h
  | cons v r => exact ⟨leastK v r, Nat.le_of_lt (flK_lt v r).1, rfl⟩
/-! the tables -/
theorem up_mem {l l' : List (Ve × Ve)} (h : upB l l' = true) {m : Ve × Ve} (hm : m ∈ l) {j : Nat} (hj : j < 8) : (mapC (rowT j) m.1, mapC (rowT j) m.2) ∈ l' := by
  have a := List.all_eq_true.mp h m hm
  have b := List.all_eq_true.mp a j (List.mem_range.mpr hj)
  exact List.contains_iff_mem.mp b
theorem sub_mem {l l' : List (Ve × Ve)} (h : (l.all fun m => l'.contains m) = true) {m : Ve × Ve} (hm : m ∈ l) : m ∈ l' := List.contains_iff_mem.mp (List.all_eq_true.mp h m hm)
theorem tab_mem (q : Pen) : (tabM q).1 ∈ mat3 := by
  have s := sub3
  rw [Bool.and_eq_true, Bool.and_eq_true] at s
  have h0 : (((1, 0), (0, 1)) : Ve × Ve) ∈ mat0 := List.mem_cons_self
  have hn := drawN_lt (q := q) (n := 4) (by decide)
  unfold tabM
  generalize drawP q 4 = q1
  rcases (by omega : drawN q 4 = 0 ∨ drawN q 4 = 1 ∨ drawN q 4 = 2 ∨ drawN q 4 = 3) with e | e | e | e <;> rw [e]
  · exact sub_mem s.1 h0
  · exact sub_mem s.2.1 (up_mem up0 h0 (drawN_lt (by decide)))
  · exact sub_mem s.2.2 (up_mem up1 (up_mem up0 h0 (drawN_lt (by decide))) (drawN_lt (by decide)))
  · exact up_mem up2 (up_mem up1 (up_mem up0 h0 (drawN_lt (by decide))) (drawN_lt (by decide))) (drawN_lt (by decide))
theorem id_mem : (((1, 0), (0, 1)) : Ve × Ve) ∈ mat3 := by
  have s := sub3
  rw [Bool.and_eq_true, Bool.and_eq_true] at s
  exact sub_mem s.1 List.mem_cons_self
/-- all that is asked of a drawn shape -/
structure Drawn (vs : List Ve) : Prop where
  env : ∃ B ∈ bsL, ∃ t r, Emb vs B t r
  far : FarOk vs
  law : LawOk vs
  mod : modU vs = lwMod vs
  lst : ∃ v r, vs = v :: r ∧ leastW v r = v
theorem drawn_of {s : Nat} (hs : s < 17) {T : Tab} {k : Int} (hk : 0 < k) (hk3 : k ≤ 3) (hm : ((T.a, T.c), (T.b, T.d)) ∈ mat3) : Drawn (mappedL T (scaleL k (shapesL.getD s []))) := by
  have hmem : shapesL.getD s [] ∈ shapesL := by
    rw [List.getD_eq_getElem?_getD, List.getElem?_eq_getElem (show s < shapesL.length from hs)]
    exact List.getElem_mem _
  have c : Core (mappedL ⟨T.a, T.b, T.c, T.d, 0, 0⟩ (shapesL.getD s [])) := Core.of (List.all_eq_true.mp (show (shapesL.all fun s => coreB (mappedL (tab0 ((T.a, T.c), (T.b, T.d))) s)) = true from List.all_eq_true.mp core3 _ hm) _ hmem)
  have hd : detT T = 1 ∨ detT T = -1 := by
    have := List.all_eq_true.mp det3 _ hm
    simp only [Bool.or_eq_true, decide_eq_true_eq] at this
    exact this
  have l0 : 0 < (shapesL.getD s []).length := by
    have : ∀ x ∈ shapesL, 0 < x.length := by decide
    exact this _ hmem
  have l1 : ∀ l : List Ve, l = (if crs (T.a, T.b) (T.c, T.d) = 1 then (scaleL k (shapesL.getD s [])).map (mapC T) else ((scaleL k (shapesL.getD s [])).map (mapC T)).reverse) → l.length = (shapesL.getD s []).length := fun l e => by
    rw [e]
    unfold scaleL
    split
    · rw [List.length_map, List.length_map]
    · rw [List.length_reverse, List.length_map, List.length_map]
  have l2 := l1 _ rfl
  refine ⟨?_, ?_, ?_, ?_, ?_⟩
  · obtain ⟨j, hj, e⟩ := fromLeast_rot (l := if crs (T.a, T.b) (T.c, T.d) = 1 then (scaleL k (shapesL.getD s [])).map (mapC T) else ((scaleL k (shapesL.getD s [])).map (mapC T)).reverse) (by omega)
    exact shape_img hs hk hd (by rw [l2] at hj; exact hj) e
  · rw [mapped_sim hk]; exact c.far hk hk3
  · rw [mapped_sim hk]; exact c.law hk hk3
  · rw [mapped_sim hk]; exact c.mod hk
  · exact fromLeast_first (by omega)
theorem shRes_drawn (q : Pen) : Drawn (shRes q) := by
  have h1 := drawN_lt (q := q) (n := 17) (by decide)
  have h2 := drawD_nn (q := drawP q 17) (m := 3) (by decide)
  have h3 := drawD_lt (q := drawP q 17) (m := 3) (by decide)
  exact drawn_of h1 (k := shMany q) (by unfold shMany; omega) (by unfold shMany; omega) (tab_mem (shPen q))
theorem small_eq : ∀ i : Nat, i < 3 → fromLeast ((shapesL.take 3).getD i []) = mappedL ⟨1, 0, 0, 1, 0, 0⟩ (scaleL 1 (shapesL.getD i [])) ∧ (wide (fromLeast ((shapesL.take 3).getD i [])) = false ∧ lwMod (fromLeast ((shapesL.take 3).getD i [])) ≤ 4096) := by decide +kernel
theorem shapeV_drawn (q : Pen) : Drawn (shapeV q) ∧ wide (shapeV q) = false ∧ lwMod (shapeV q) ≤ 4096 := by
  unfold shapeV
  by_cases h : shBad q = true
  · rw [if_pos h]
    have h1 := drawN_lt (q := tabP (shPen q)) (n := 3) (by decide)
    obtain ⟨e, w⟩ := small_eq _ h1
    refine ⟨?_, w⟩
    rw [e]
    exact drawn_of (by omega) (by decide) (by decide) id_mem
  · rw [if_neg h]
    unfold shBad at h
    rw [Bool.or_eq_true, decide_eq_true_eq] at h
    refine ⟨shRes_drawn q, ?_, ?_⟩
    · cases e : wide (shRes q) with
      | false => rfl
      | true => exact absurd (.inl e) h
    · have : ¬ lwMod (shRes q) > 4096 := fun z => h (.inr z)
      omega
theorem wide_no {vs : List Ve} (h : wide vs = false) : ∀ v ∈ vs, (-60 ≤ v.1 ∧ v.1 ≤ 60) ∧ -60 ≤ v.2 ∧ v.2 ≤ 60 := fun v hv => by
  unfold wide at h
  have := List.any_eq_false.mp h v hv
  simp only [Bool.or_eq_true, decide_eq_true_eq] at this
  omega
end O26
set_option linter.all false
set_option maxRecDepth 100000
set_option maxHeartbeats 4000000
/-! every pen's round is as the law's walk asks -/
namespace O26
theorem round_ok (q : Pen) : RoundOk q := by
  obtain ⟨D, hw, hm⟩ := shapeV_drawn q
  obtain ⟨B, hB, t, r, E⟩ := D.env
  have hP : PolB (shapeV q) := ⟨E.pol.lo, E.pol.hi, wide_no hw⟩
  refine ⟨(shRes_drawn q).law, ⟨hP, D.far, by rw [D.mod]; exact hm⟩, E.pol.cvx, D.lst, ?_⟩
  obtain ⟨m1, m2⟩ := rMany_bd q
  obtain ⟨d1, d2⟩ := dens_ok (drawP (rQ3 q) ((shapeV q).length : Nat))
  obtain ⟨N, pt, h1, h2⟩ := dead_two E hB hP (j := drawN (rQ3 q) (shapeV q).length) d1 (by omega) m1 m2
  exact ⟨N, pt, h1.trip, h2⟩
end O26
set_option Elab.async false
set_option linter.all false
set_option maxRecDepth 100000
set_option maxHeartbeats 4000000
namespace O26
open PySem PySem.Spec PyProof.Rows L2 LamX
/-! what the Bools say -/
theorem undB_ok {K : PySem.W.Frag} {C : Addr} (h : undB K C = true) : ∃ nm q N bs bm sn sub ab col dd k0 k1 k2 k3 k5, K.lookup C = some (PySem.excClassObj nm q C N bs bm true sn sub ab col dd k0 k1 k2 k3 k5 "RuntimeError.__new__") ∧ PySem.W.excTail PySem.UndX.reTail bm = true := by
  unfold undB at h
  split at h
  · rename_i dd cd sl e
    split at h
    · rename_i D bm k0 k1 k2 k3 n k5 e1 e2
      obtain ⟨a, b⟩ := He.ba h
      obtain ⟨b, t⟩ := He.ba b
      obtain ⟨b1, b2⟩ := He.ba b
      obtain ⟨a1, a2⟩ := He.ba a
      have a1 := eq_of_beq a1
      have a2 := eq_of_beq a2
      subst a1 a2
      obtain ⟨nm, bs, mro, ns, qn, hd, sn, sub, ab, col, del⟩ := cd
      simp only at e1 b1 b2
      subst e1 b2
      have b3 : del = false := by cases del <;> first | rfl | cases b1
      subst b3
      obtain ⟨l⟩ := sl
      simp only at e2
      subst e2
      exact ⟨nm, qn, ns, bs, bm, sn, sub, ab, col, dd, k0, k1, k2, k3, k5, e, t⟩
    · cases h
  · cases h
theorem exB_ok {K : PySem.W.Frag} {h : Heap} {mg : Str → Option Value} (X : K.In h) (G : h.Ns mainGlobals mg) (gC : mg "Undefined" = some (.ref (undC K))) (e : exB K = true) {st : Stmt} {fd : FuncData} (F : FunD K "__init__" "Undefined.__init__" (defArgs st) (defBody st) (defScope st) [] [] (undI K) fd)
    {p1 p2 q1 q2 q3 q4 : Pos} (h1 : defArgs st = PySem.UndX.iA p1 p2) (h2 : defBody st = PySem.UndX.iB q1 q2 q3 q4) (h3 : defScope st = PySem.UndX.iS) : PySem.UndX.UndTxt K mg (undC K) (undI K) ∧ UndC K (undC K) := by
  obtain ⟨a1, e⟩ := He.ba e; obtain ⟨a2, e⟩ := He.ba e; obtain ⟨a3, e⟩ := He.ba e; obtain ⟨a4, e⟩ := He.ba e; obtain ⟨a5, e⟩ := He.ba e; obtain ⟨a6, e⟩ := He.ba e; obtain ⟨a7, e⟩ := He.ba e; obtain ⟨a8, e⟩ := He.ba e; obtain ⟨a9, e⟩ := He.ba e
  obtain ⟨a10, e⟩ := He.ba e; obtain ⟨a11, e⟩ := He.ba e; obtain ⟨a12, e⟩ := He.ba e; obtain ⟨a13, e⟩ := He.ba e; obtain ⟨a14, e⟩ := He.ba e; obtain ⟨a15, e⟩ := He.ba e; obtain ⟨a16, e⟩ := He.ba e; obtain ⟨a17, e⟩ := He.ba e; obtain ⟨a18, a19⟩ := He.ba e
  obtain ⟨oc, od, dV, kV, doc, pm, an, cdv, ct, osl, rfl, lk, hcd, dd, _⟩ := F.ex
  have ed : dV = .none := by
    rcases dd with ⟨_, z⟩ | ⟨z, _⟩
    · exact z
    · exact absurd rfl z
  have ek : kV = .none := by
    unfold kwNone at a13
    rw [lk] at a13
    cases kV with
    | none => rfl
    | _ => cases a13
  subst ed ek
  rw [h1, h2, h3] at lk
  exact ⟨⟨gC, undB_ok a1, He.eqO_ok a2, He.eqO_ok a3, He.eqO_ok a4, He.eqO_ok a5, He.eqO_ok a6, of_decide_eq_true a7, a8, of_decide_eq_true a9, of_decide_eq_true a10, a11, of_decide_eq_true a12, oc, od, doc, pm, an, cdv, ct, osl, p1, p2, q1, q2, q3, q4, lk, hcd⟩,
    a14, He.eqO_ok a3, He.eqO_ok a4, of_decide_eq_true a9, He.eqO_ok a15, He.eqO_ok a16, of_decide_eq_true a17, of_decide_eq_true a18, of_decide_eq_true a19⟩
end O26
set_option Elab.async false
set_option linter.all false
set_option maxRecDepth 100000
set_option maxHeartbeats 8000000
namespace O26
open PySem PySem.Spec PyProof.Rows L2 LamX
/-! all defs, joined: the law's body, from what stands behind the top -/
theorem cst_ok {K : PySem.W.Frag} {h : Heap} {mg : Str → Option Value} {x : Str} {i : Int} (X : K.In h) (G : h.Ns mainGlobals mg) (c : (He.Fa.int x i).ok K = true) : ∃ u, mg x = some u ∧ L2.RelV (.int i) u := by
  obtain ⟨t, e⟩ := He.int_ok X G c
  exact ⟨_, e, t, rfl⟩
abbrev tD (K : PySem.W.Frag) : Addr × Addr := He.cT K ("directions", none)
abbrev tL (K : PySem.W.Frag) : Addr × Addr := He.cT K ("law", none)
abbrev qD : Str := (envOfC "directions" (defScope s_directions) 0 0 .none).qual ++ "<lambda>"
abbrev qL : Str := (envOfC "law" (defScope s_law) 0 0 .none).qual ++ "<lambda>"
abbrev tbs (K : PySem.W.Frag) : List (Addr × Str) := [((tD K).2, qD), ((tL K).2, qL)]
theorem law_all {P : Program} {w : World} {K : PySem.W.Frag} {mg : Str → Option Value} {base h : Heap} (X : K.In h) (G : h.Ns mainGlobals mg) (c : SaysR fa fn tfL exT h K) (TBd : TabB base mg (tD K).1 (tD K).2) (TBl : TabB base mg (tL K).1 (tL K).2)
    (A : Around) (outer : List Env) (s : Shared) (H0 : Hp) (E : XK) (hr : Room 14 (A.deeper (envOfC "law" (defScope s_law) s.heap.objs.size (He.ga K "law") (.ref (tL K).1)))) (hg : A.guards = some []) :
    ∃ t, PSs (cxOf C8.CX0 P w K mg base lawN "law" (defScope s_law) (He.ga K "law") (.ref (tL K).1) A outer s H0 E).nox (defBody s_law) t ∧ ∀ (a : Addr) (ns : List Int) (H : Hp), ns.length ≤ 100000 → LamX.Tabs (tbs K) H → SqL K H a (ns.map V.int) →
      t { nx := fun _ _ => False, rt := fun v _ => v = .bl true } (L2.start lawN [.ref a]) H := by
  have ne : (tD K).2 ≠ (tL K).2 := fun z => by
    have m := (He.ba c.more).2
    rw [show ((tD K).2 == (tL K).2) = true from beq_iff_eq.mpr z] at m
    cases m
  have hqd : qD = (envOfC "directions" (defScope s_directions) 0 0 .none).qual ++ "<lambda>" := rfl
  have hql : qL = (envOfC "law" (defScope s_law) 0 0 .none).qual ++ "<lambda>" := rfl
  have hmd : ((tD K).2, qD) ∈ tbs K := List.mem_cons_self
  have hml : ((tL K).2, qL) ∈ tbs K := List.mem_cons_of_mem _ List.mem_cons_self
  have hud : ∀ p ∈ tbs K, p.1 = (tD K).2 → p.2 = qD := fun p hp e => by
    rcases List.mem_cons.mp hp with rfl | hp
    · rfl
    · rw [List.mem_singleton.mp hp] at e
      exact absurd e.symm ne
  have hul : ∀ p ∈ tbs K, p.1 = (tL K).2 → p.2 = qL := fun p hp e => by
    rcases List.mem_cons.mp hp with rfl | hp
    · exact absurd e ne
    · rw [List.mem_singleton.mp hp]
  have hT : True := trivial
  obtain ⟨fd_Undefined___init__, F_Undefined___init__⟩ : ∃ fd, FunD K "__init__" "Undefined.__init__" (defArgs (inClass (top 7) 0)) (defBody (inClass (top 7) 0)) (defScope (inClass (top 7) 0)) [] [] (He.ma K (He.ga K "Undefined") "__init__") fd := c.d.def_ 0 (d := d_UndefinedU_initU)
  obtain ⟨fd_is_int, F_is_int⟩ : ∃ fd, FunD K "is_int" "is_int" (defArgs (top 9)) (defBody (top 9)) (defScope (top 9)) [] [] (He.ga K "is_int") fd := c.d.def_ 1 (d := d_is_int)
  obtain ⟨fd_is_int_in, F_is_int_in⟩ : ∃ fd, FunD K "is_int_in" "is_int_in" (defArgs (top 10)) (defBody (top 10)) (defScope (top 10)) [] [] (He.ga K "is_int_in") fd := c.d.def_ 2 (d := d_is_int_in)
  obtain ⟨fd_gcd, F_gcd⟩ : ∃ fd, FunD K "gcd" "gcd" (defArgs (top 11)) (defBody (top 11)) (defScope (top 11)) [] [] (He.ga K "gcd") fd := c.d.def_ 3 (d := d_gcd)
  obtain ⟨fd_lcm, F_lcm⟩ : ∃ fd, FunD K "lcm" "lcm" (defArgs (top 12)) (defBody (top 12)) (defScope (top 12)) [] [] (He.ga K "lcm") fd := c.d.def_ 4 (d := d_lcm)
  obtain ⟨fd_cross, F_cross⟩ : ∃ fd, FunD K "cross" "cross" (defArgs (top 13)) (defBody (top 13)) (defScope (top 13)) [] [] (He.ga K "cross") fd := c.d.def_ 5 (d := d_cross)
  obtain ⟨fd_difference, F_difference⟩ : ∃ fd, FunD K "difference" "difference" (defArgs (top 14)) (defBody (top 14)) (defScope (top 14)) [] [] (He.ga K "difference") fd := c.d.def_ 6 (d := d_difference)
  obtain ⟨fd_primitive, F_primitive⟩ : ∃ fd, FunD K "primitive" "primitive" (defArgs (top 17)) (defBody (top 17)) (defScope (top 17)) [] [] (He.ga K "primitive") fd := c.d.def_ 7 (d := d_primitive)
  obtain ⟨fd_directions, F_directions⟩ : ∃ fd, FunD K "directions" "directions" (defArgs (top 18)) (defBody (top 18)) (defScope (top 18)) [] [] (He.ga K "directions") fd := c.d.def_ 8 (d := d_directions)
  obtain ⟨fd_far_pair, F_far_pair⟩ : ∃ fd, FunD K "far_pair" "far_pair" (defArgs (top 19)) (defBody (top 19)) (defScope (top 19)) [] [] (He.ga K "far_pair") fd := c.d.def_ 9 (d := d_far_pair)
  obtain ⟨fd_FarField___init__, F_FarField___init__⟩ : ∃ fd, FunD K "__init__" "FarField.__init__" (defArgs (inClass (top 20) 0)) (defBody (inClass (top 20) 0)) (defScope (inClass (top 20) 0)) [] [] (He.ma K (He.ga K "FarField") "__init__") fd := c.d.def_ 10 (d := d_FarFieldU_initU)
  obtain ⟨fd_FarField_turn, F_FarField_turn⟩ : ∃ fd, FunD K "turn" "FarField.turn" (defArgs (inClass (top 20) 1)) (defBody (inClass (top 20) 1)) (defScope (inClass (top 20) 1)) [] [] (He.ma K (He.ga K "FarField") "turn") fd := c.d.def_ 11 (d := d_FarField_turn)
  obtain ⟨fd_FarField_needed_factor, F_FarField_needed_factor⟩ : ∃ fd, FunD K "needed_factor" "FarField.needed_factor" (defArgs (inClass (top 20) 2)) (defBody (inClass (top 20) 2)) (defScope (inClass (top 20) 2)) [] [] (He.ma K (He.ga K "FarField") "needed_factor") fd := c.d.def_ 12 (d := d_FarField_needed_factor)
  obtain ⟨fd_modulus, F_modulus⟩ : ∃ fd, FunD K "modulus" "modulus" (defArgs (top 21)) (defBody (top 21)) (defScope (top 21)) [] [] (He.ga K "modulus") fd := c.d.def_ 13 (d := d_modulus)
  obtain ⟨fd_require_modulus, F_require_modulus⟩ : ∃ fd, FunD K "require_modulus" "require_modulus" (defArgs (top 22)) (defBody (top 22)) (defScope (top 22)) [] [] (He.ga K "require_modulus") fd := c.d.def_ 14 (d := d_require_modulus)
  obtain ⟨fd_is_point_shape, F_is_point_shape⟩ : ∃ fd, FunD K "is_point_shape" "is_point_shape" (defArgs (top 26)) (defBody (top 26)) (defScope (top 26)) [] [] (He.ga K "is_point_shape") fd := c.d.def_ 15 (d := d_is_point_shape)
  obtain ⟨fd_is_point, F_is_point⟩ : ∃ fd, FunD K "is_point" "is_point" (defArgs (top 27)) (defBody (top 27)) (defScope (top 27)) [] [] (He.ga K "is_point") fd := c.d.def_ 16 (d := d_is_point)
  obtain ⟨fd_require_point, F_require_point⟩ : ∃ fd, FunD K "require_point" "require_point" (defArgs (top 28)) (defBody (top 28)) (defScope (top 28)) [] [] (He.ga K "require_point") fd := c.d.def_ 17 (d := d_require_point)
  obtain ⟨fd_translated, F_translated⟩ : ∃ fd, FunD K "translated" "translated" (defArgs (top 29)) (defBody (top 29)) (defScope (top 29)) [.int 1] [] (He.ga K "translated") fd := c.d.def_ 18 (d := d_translated)
  obtain ⟨fd_reflected, F_reflected⟩ : ∃ fd, FunD K "reflected" "reflected" (defArgs (top 30)) (defBody (top 30)) (defScope (top 30)) [] [] (He.ga K "reflected") fd := c.d.def_ 19 (d := d_reflected)
  obtain ⟨fd_edge_side, F_edge_side⟩ : ∃ fd, FunD K "edge_side" "edge_side" (defArgs (top 31)) (defBody (top 31)) (defScope (top 31)) [] [] (He.ga K "edge_side") fd := c.d.def_ 20 (d := d_edge_side)
  obtain ⟨fd_edge_sides, F_edge_sides⟩ : ∃ fd, FunD K "edge_sides" "edge_sides" (defArgs (top 32)) (defBody (top 32)) (defScope (top 32)) [] [] (He.ga K "edge_sides") fd := c.d.def_ 21 (d := d_edge_sides)
  obtain ⟨fd_lies_outside, F_lies_outside⟩ : ∃ fd, FunD K "lies_outside" "lies_outside" (defArgs (top 33)) (defBody (top 33)) (defScope (top 33)) [] [] (He.ga K "lies_outside") fd := c.d.def_ 22 (d := d_lies_outside)
  obtain ⟨fd_require_outside, F_require_outside⟩ : ∃ fd, FunD K "require_outside" "require_outside" (defArgs (top 34)) (defBody (top 34)) (defScope (top 34)) [] [] (He.ga K "require_outside") fd := c.d.def_ 23 (d := d_require_outside)
  obtain ⟨fd_tangent_index, F_tangent_index⟩ : ∃ fd, FunD K "tangent_index" "tangent_index" (defArgs (top 36)) (defBody (top 36)) (defScope (top 36)) [] [] (He.ga K "tangent_index") fd := c.d.def_ 24 (d := d_tangent_index)
  obtain ⟨fd_back_tangent_index, F_back_tangent_index⟩ : ∃ fd, FunD K "back_tangent_index" "back_tangent_index" (defArgs (top 37)) (defBody (top 37)) (defScope (top 37)) [] [] (He.ga K "back_tangent_index") fd := c.d.def_ 25 (d := d_back_tangent_index)
  obtain ⟨fd_next_pair, F_next_pair⟩ : ∃ fd, FunD K "next_pair" "next_pair" (defArgs (top 39)) (defBody (top 39)) (defScope (top 39)) [] [] (He.ga K "next_pair") fd := c.d.def_ 26 (d := d_next_pair)
  obtain ⟨fd_pair_shift, F_pair_shift⟩ : ∃ fd, FunD K "pair_shift" "pair_shift" (defArgs (top 40)) (defBody (top 40)) (defScope (top 40)) [] [] (He.ga K "pair_shift") fd := c.d.def_ 27 (d := d_pair_shift)
  obtain ⟨fd_positive_count, F_positive_count⟩ : ∃ fd, FunD K "positive_count" "positive_count" (defArgs (top 41)) (defBody (top 41)) (defScope (top 41)) [] [] (He.ga K "positive_count") fd := c.d.def_ 28 (d := d_positive_count)
  obtain ⟨fd_tangent_counts, F_tangent_counts⟩ : ∃ fd, FunD K "tangent_counts" "tangent_counts" (defArgs (top 42)) (defBody (top 42)) (defScope (top 42)) [] [] (He.ga K "tangent_counts") fd := c.d.def_ 29 (d := d_tangent_counts)
  obtain ⟨fd_pair_count, F_pair_count⟩ : ∃ fd, FunD K "pair_count" "pair_count" (defArgs (top 43)) (defBody (top 43)) (defScope (top 43)) [] [] (He.ga K "pair_count") fd := c.d.def_ 30 (d := d_pair_count)
  obtain ⟨fd_translations_to, F_translations_to⟩ : ∃ fd, FunD K "translations_to" "translations_to" (defArgs (top 46)) (defBody (top 46)) (defScope (top 46)) [] [] (He.ga K "translations_to") fd := c.d.def_ 31 (d := d_translations_to)
  obtain ⟨fd_Segment___init__, F_Segment___init__⟩ : ∃ fd, FunD K "__init__" "Segment.__init__" (defArgs (inClass (top 47) 0)) (defBody (inClass (top 47) 0)) (defScope (inClass (top 47) 0)) [] [] (He.ma K (He.ga K "Segment") "__init__") fd := c.d.def_ 32 (d := d_SegmentU_initU)
  obtain ⟨fd_Segment_point_at, F_Segment_point_at⟩ : ∃ fd, FunD K "point_at" "Segment.point_at" (defArgs (inClass (top 47) 1)) (defBody (inClass (top 47) 1)) (defScope (inClass (top 47) 1)) [] [] (He.ma K (He.ga K "Segment") "point_at") fd := c.d.def_ 33 (d := d_Segment_point_at)
  obtain ⟨fd_Segment_steps_to, F_Segment_steps_to⟩ : ∃ fd, FunD K "steps_to" "Segment.steps_to" (defArgs (inClass (top 47) 2)) (defBody (inClass (top 47) 2)) (defScope (inClass (top 47) 2)) [] [] (He.ma K (He.ga K "Segment") "steps_to") fd := c.d.def_ 34 (d := d_Segment_steps_to)
  obtain ⟨fd_Orbit___init__, F_Orbit___init__⟩ : ∃ fd, FunD K "__init__" "Orbit.__init__" (defArgs (inClass (top 48) 0)) (defBody (inClass (top 48) 0)) (defScope (inClass (top 48) 0)) [.int 1, .non] [] (He.ma K (He.ga K "Orbit") "__init__") fd := c.d.def_ 35 (d := d_OrbitU_initU)
  obtain ⟨fd_Orbit_finish, F_Orbit_finish⟩ : ∃ fd, FunD K "finish" "Orbit.finish" (defArgs (inClass (top 48) 1)) (defBody (inClass (top 48) 1)) (defScope (inClass (top 48) 1)) [] [] (He.ma K (He.ga K "Orbit") "finish") fd := c.d.def_ 36 (d := d_Orbit_finish)
  obtain ⟨fd_Orbit_last_step, F_Orbit_last_step⟩ : ∃ fd, FunD K "last_step" "Orbit.last_step" (defArgs (inClass (top 48) 2)) (defBody (inClass (top 48) 2)) (defScope (inClass (top 48) 2)) [] [] (He.ma K (He.ga K "Orbit") "last_step") fd := c.d.def_ 37 (d := d_Orbit_last_step)
  obtain ⟨fd_Orbit_point_at, F_Orbit_point_at⟩ : ∃ fd, FunD K "point_at" "Orbit.point_at" (defArgs (inClass (top 48) 3)) (defBody (inClass (top 48) 3)) (defScope (inClass (top 48) 3)) [] [] (He.ma K (He.ga K "Orbit") "point_at") fd := c.d.def_ 38 (d := d_Orbit_point_at)
  obtain ⟨fd_require_steps, F_require_steps⟩ : ∃ fd, FunD K "require_steps" "require_steps" (defArgs (top 49)) (defBody (top 49)) (defScope (top 49)) [] [] (He.ga K "require_steps") fd := c.d.def_ 39 (d := d_require_steps)
  obtain ⟨fd_point_from, F_point_from⟩ : ∃ fd, FunD K "point_from" "point_from" (defArgs (top 50)) (defBody (top 50)) (defScope (top 50)) [] [] (He.ga K "point_from") fd := c.d.def_ 40 (d := d_point_from)
  obtain ⟨fd_point_after, F_point_after⟩ : ∃ fd, FunD K "point_after" "point_after" (defArgs (top 51)) (defBody (top 51)) (defScope (top 51)) [] [] (He.ga K "point_after") fd := c.d.def_ 41 (d := d_point_after)
  obtain ⟨fd_period_from, F_period_from⟩ : ∃ fd, FunD K "period_from" "period_from" (defArgs (top 52)) (defBody (top 52)) (defScope (top 52)) [] [] (He.ga K "period_from") fd := c.d.def_ 42 (d := d_period_from)
  obtain ⟨fd_period_of, F_period_of⟩ : ∃ fd, FunD K "period_of" "period_of" (defArgs (top 53)) (defBody (top 53)) (defScope (top 53)) [] [] (He.ga K "period_of") fd := c.d.def_ 43 (d := d_period_of)
  obtain ⟨fd_end_steps, F_end_steps⟩ : ∃ fd, FunD K "end_steps" "end_steps" (defArgs (top 54)) (defBody (top 54)) (defScope (top 54)) [] [] (He.ga K "end_steps") fd := c.d.def_ 44 (d := d_end_steps)
  obtain ⟨fd_dead_ends, F_dead_ends⟩ : ∃ fd, FunD K "dead_ends" "dead_ends" (defArgs (top 55)) (defBody (top 55)) (defScope (top 55)) [] [] (He.ga K "dead_ends") fd := c.d.def_ 45 (d := d_dead_ends)
  obtain ⟨fd_is_vertex, F_is_vertex⟩ : ∃ fd, FunD K "is_vertex" "is_vertex" (defArgs (top 60)) (defBody (top 60)) (defScope (top 60)) [] [] (He.ga K "is_vertex") fd := c.d.def_ 46 (d := d_is_vertex)
  obtain ⟨fd_is_convex, F_is_convex⟩ : ∃ fd, FunD K "is_convex" "is_convex" (defArgs (top 61)) (defBody (top 61)) (defScope (top 61)) [] [] (He.ga K "is_convex") fd := c.d.def_ 47 (d := d_is_convex)
  obtain ⟨fd_require_vertices, F_require_vertices⟩ : ∃ fd, FunD K "require_vertices" "require_vertices" (defArgs (top 62)) (defBody (top 62)) (defScope (top 62)) [] [] (He.ga K "require_vertices") fd := c.d.def_ 48 (d := d_require_vertices)
  obtain ⟨fd_Polygon___init__, F_Polygon___init__⟩ : ∃ fd, FunD K "__init__" "Polygon.__init__" (defArgs (inClass (top 63) 0)) (defBody (inClass (top 63) 0)) (defScope (inClass (top 63) 0)) [] [] (He.ma K (He.ga K "Polygon") "__init__") fd := c.d.def_ 49 (d := d_PolygonU_initU)
  obtain ⟨fd_Polygon___len__, F_Polygon___len__⟩ : ∃ fd, FunD K "__len__" "Polygon.__len__" (defArgs (inClass (top 63) 2)) (defBody (inClass (top 63) 2)) (defScope (inClass (top 63) 2)) [] [] (He.ma K (He.ga K "Polygon") "__len__") fd := c.d.def_ 50 (d := d_PolygonU_lenU)
  obtain ⟨fd_Polygon_vertices, F_Polygon_vertices⟩ : ∃ fd, FunD K "vertices" "Polygon.vertices" (defArgs (inClass (top 63) 3)) (defBody (inClass (top 63) 3)) (defScope (inClass (top 63) 3)) [] [] (He.ma K (He.ga K "Polygon") "vertices") fd := c.d.def_ 51 (d := d_Polygon_vertices)
  obtain ⟨fd_Polygon_vertex, F_Polygon_vertex⟩ : ∃ fd, FunD K "vertex" "Polygon.vertex" (defArgs (inClass (top 63) 4)) (defBody (inClass (top 63) 4)) (defScope (inClass (top 63) 4)) [] [] (He.ma K (He.ga K "Polygon") "vertex") fd := c.d.def_ 52 (d := d_Polygon_vertex)
  obtain ⟨fd_Polygon_edge, F_Polygon_edge⟩ : ∃ fd, FunD K "edge" "Polygon.edge" (defArgs (inClass (top 63) 5)) (defBody (inClass (top 63) 5)) (defScope (inClass (top 63) 5)) [] [] (He.ma K (He.ga K "Polygon") "edge") fd := c.d.def_ 53 (d := d_Polygon_edge)
  obtain ⟨fd__law_pen, F__law_pen⟩ : ∃ fd, FunD K "_law_pen" "_law_pen" (defArgs (top 65)) (defBody (top 65)) (defScope (top 65)) [] [] (He.ga K "_law_pen") fd := c.d.def_ 54 (d := dUlaw_pen)
  obtain ⟨fd__law_draw, F__law_draw⟩ : ∃ fd, FunD K "_law_draw" "_law_draw" (defArgs (top 66)) (defBody (top 66)) (defScope (top 66)) [] [] (He.ga K "_law_draw") fd := c.d.def_ 55 (d := dUlaw_draw)
  obtain ⟨fd__law_pick, F__law_pick⟩ : ∃ fd, FunD K "_law_pick" "_law_pick" (defArgs (top 67)) (defBody (top 67)) (defScope (top 67)) [] [] (He.ga K "_law_pick") fd := c.d.def_ 56 (d := dUlaw_pick)
  obtain ⟨fd__law_great, F__law_great⟩ : ∃ fd, FunD K "_law_great" "_law_great" (defArgs (top 68)) (defBody (top 68)) (defScope (top 68)) [] [] (He.ga K "_law_great") fd := c.d.def_ 57 (d := dUlaw_great)
  obtain ⟨fd__law_gcd, F__law_gcd⟩ : ∃ fd, FunD K "_law_gcd" "_law_gcd" (defArgs (top 69)) (defBody (top 69)) (defScope (top 69)) [] [] (He.ga K "_law_gcd") fd := c.d.def_ 58 (d := dUlaw_gcd)
  obtain ⟨fd__law_cross, F__law_cross⟩ : ∃ fd, FunD K "_law_cross" "_law_cross" (defArgs (top 70)) (defBody (top 70)) (defScope (top 70)) [] [] (He.ga K "_law_cross") fd := c.d.def_ 59 (d := dUlaw_cross)
  obtain ⟨fd__law_point_form, F__law_point_form⟩ : ∃ fd, FunD K "_law_point_form" "_law_point_form" (defArgs (top 71)) (defBody (top 71)) (defScope (top 71)) [] [] (He.ga K "_law_point_form") fd := c.d.def_ 60 (d := dUlaw_point_form)
  obtain ⟨fd__law_sides, F__law_sides⟩ : ∃ fd, FunD K "_law_sides" "_law_sides" (defArgs (top 72)) (defBody (top 72)) (defScope (top 72)) [] [] (He.ga K "_law_sides") fd := c.d.def_ 61 (d := dUlaw_sides)
  obtain ⟨fd__law_right, F__law_right⟩ : ∃ fd, FunD K "_law_right" "_law_right" (defArgs (top 73)) (defBody (top 73)) (defScope (top 73)) [] [] (He.ga K "_law_right") fd := c.d.def_ 62 (d := dUlaw_right)
  obtain ⟨fd__law_left, F__law_left⟩ : ∃ fd, FunD K "_law_left" "_law_left" (defArgs (top 74)) (defBody (top 74)) (defScope (top 74)) [] [] (He.ga K "_law_left") fd := c.d.def_ 63 (d := dUlaw_left)
  obtain ⟨fd__law_mirror, F__law_mirror⟩ : ∃ fd, FunD K "_law_mirror" "_law_mirror" (defArgs (top 75)) (defBody (top 75)) (defScope (top 75)) [] [] (He.ga K "_law_mirror") fd := c.d.def_ 64 (d := dUlaw_mirror)
  obtain ⟨fd__law_next, F__law_next⟩ : ∃ fd, FunD K "_law_next" "_law_next" (defArgs (top 76)) (defBody (top 76)) (defScope (top 76)) [] [] (He.ga K "_law_next") fd := c.d.def_ 65 (d := dUlaw_next)
  obtain ⟨fd__law_previous, F__law_previous⟩ : ∃ fd, FunD K "_law_previous" "_law_previous" (defArgs (top 77)) (defBody (top 77)) (defScope (top 77)) [] [] (He.ga K "_law_previous") fd := c.d.def_ 66 (d := dUlaw_previous)
  obtain ⟨fd__law_from_least, F__law_from_least⟩ : ∃ fd, FunD K "_law_from_least" "_law_from_least" (defArgs (top 78)) (defBody (top 78)) (defScope (top 78)) [] [] (He.ga K "_law_from_least") fd := c.d.def_ 67 (d := dUlaw_from_least)
  obtain ⟨fd__law_directions, F__law_directions⟩ : ∃ fd, FunD K "_law_directions" "_law_directions" (defArgs (top 79)) (defBody (top 79)) (defScope (top 79)) [] [] (He.ga K "_law_directions") fd := c.d.def_ 68 (d := dUlaw_directions)
  obtain ⟨fd__law_far_shift, F__law_far_shift⟩ : ∃ fd, FunD K "_law_far_shift" "_law_far_shift" (defArgs (top 80)) (defBody (top 80)) (defScope (top 80)) [] [] (He.ga K "_law_far_shift") fd := c.d.def_ 69 (d := dUlaw_far_shift)
  obtain ⟨fd__law_far_rows, F__law_far_rows⟩ : ∃ fd, FunD K "_law_far_rows" "_law_far_rows" (defArgs (top 81)) (defBody (top 81)) (defScope (top 81)) [] [] (He.ga K "_law_far_rows") fd := c.d.def_ 70 (d := dUlaw_far_rows)
  obtain ⟨fd__law_modulus, F__law_modulus⟩ : ∃ fd, FunD K "_law_modulus" "_law_modulus" (defArgs (top 82)) (defBody (top 82)) (defScope (top 82)) [] [] (He.ga K "_law_modulus") fd := c.d.def_ 71 (d := dUlaw_modulus)
  obtain ⟨fd__law_map_corner, F__law_map_corner⟩ : ∃ fd, FunD K "_law_map_corner" "_law_map_corner" (defArgs (top 83)) (defBody (top 83)) (defScope (top 83)) [] [] (He.ga K "_law_map_corner") fd := c.d.def_ 72 (d := dUlaw_map_corner)
  obtain ⟨fd__law_mapped, F__law_mapped⟩ : ∃ fd, FunD K "_law_mapped" "_law_mapped" (defArgs (top 84)) (defBody (top 84)) (defScope (top 84)) [] [] (He.ga K "_law_mapped") fd := c.d.def_ 73 (d := dUlaw_mapped)
  obtain ⟨fd__law_table, F__law_table⟩ : ∃ fd, FunD K "_law_table" "_law_table" (defArgs (top 85)) (defBody (top 85)) (defScope (top 85)) [] [] (He.ga K "_law_table") fd := c.d.def_ 74 (d := dUlaw_table)
  obtain ⟨fd__law_shapes, F__law_shapes⟩ : ∃ fd, FunD K "_law_shapes" "_law_shapes" (defArgs (top 86)) (defBody (top 86)) (defScope (top 86)) [] [] (He.ga K "_law_shapes") fd := c.d.def_ 75 (d := dUlaw_shapes)
  obtain ⟨fd__law_shape, F__law_shape⟩ : ∃ fd, FunD K "_law_shape" "_law_shape" (defArgs (top 87)) (defBody (top 87)) (defScope (top 87)) [] [] (He.ga K "_law_shape") fd := c.d.def_ 76 (d := dUlaw_shape)
  obtain ⟨fd__law_is_int, F__law_is_int⟩ : ∃ fd, FunD K "_law_is_int" "_law_is_int" (defArgs (top 88)) (defBody (top 88)) (defScope (top 88)) [] [] (He.ga K "_law_is_int") fd := c.d.def_ 77 (d := dUlaw_is_int)
  obtain ⟨fd__law_dead_end, F__law_dead_end⟩ : ∃ fd, FunD K "_law_dead_end" "_law_dead_end" (defArgs (top 89)) (defBody (top 89)) (defScope (top 89)) [] [] (He.ga K "_law_dead_end") fd := c.d.def_ 78 (d := dUlaw_dead_end)
  obtain ⟨fd__law_result, F__law_result⟩ : ∃ fd, FunD K "_law_result" "_law_result" (defArgs (top 90)) (defBody (top 90)) (defScope (top 90)) [] [] (He.ga K "_law_result") fd := c.d.def_ 79 (d := dUlaw_result)
  obtain ⟨fd_law, F_law⟩ : ∃ fd, FunD K "law" "law" (defArgs (top 91)) (defBody (top 91)) (defScope (top 91)) [] [] (He.ga K "law") fd := c.d.def_ 80 (d := d_law)
  obtain ⟨U0, UC⟩ := exB_ok X G (He.glo_ok X G (c.d.fact 67 (f := .glo "Undefined"))) (He.ba c.more).1 F_Undefined___init__ rfl rfl rfl
  have h_is_int : C8.Cal P w K mg base 1 "is_int" (Prm (tbs K) R_is_int) [] := ok_is_int F_is_int (He.glo_ok X G (c.d.fact 40 (f := .glo "is_int"))) (He.free_ok X G (c.d.fact 77 (f := .free "isinstance"))) (He.free_ok X G (c.d.fact 76 (f := .free "int"))) (He.free_ok X G (c.d.fact 73 (f := .free "bool")))
  have h_is_int_in : C8.Cal P w K mg base 2 "is_int_in" (Prm (tbs K) R_is_int_in) [] := ok_is_int_in F_is_int_in (He.glo_ok X G (c.d.fact 41 (f := .glo "is_int_in"))) h_is_int
  have h_gcd : C8.Cal P w K mg base 1 "gcd" (Prm (tbs K) R_gcd) [] := ok_gcd F_gcd (He.glo_ok X G (c.d.fact 38 (f := .glo "gcd"))) (He.free_ok X G (c.d.fact 71 (f := .free "abs")))
  have h_cross : C8.Cal P w K mg base 1 "cross" (Prm (tbs K) R_cross) [] := ok_cross F_cross (He.glo_ok X G (c.d.fact 30 (f := .glo "cross")))
  have h_difference : C8.Cal P w K mg base 1 "difference" (Prm (tbs K) R_difference) [] := ok_difference F_difference (He.glo_ok X G (c.d.fact 32 (f := .glo "difference")))
  have h_PolygonU_lenU : C8.Met P w K mg base 1 (He.ga K "Polygon") "__len__" (Prm (tbs K) (R_PolygonU_lenU (He.ga K "Polygon"))) [] := ok_PolygonU_lenU F_Polygon___len__ (He.cls_ok (c.d.fact 96 (f := .cls "Polygon"))) (He.meth_ok (c.d.fact 119 (f := .meth "Polygon" "__len__"))) (He.free_ok X G (c.d.fact 78 (f := .free "len"))) (He.cls_ok (c.d.fact 96 (f := .cls "Polygon"))) (He.noat_ok (c.d.fact 106 (f := .noat "Polygon" "cycle")))
  have h_Polygon_vertices : C8.Met P w K mg base 1 (He.ga K "Polygon") "vertices" (Prm (tbs K) (R_Polygon_vertices (He.ga K "Polygon"))) [] := ok_Polygon_vertices F_Polygon_vertices (He.cls_ok (c.d.fact 96 (f := .cls "Polygon"))) (He.meth_ok (c.d.fact 122 (f := .meth "Polygon" "vertices"))) (He.free_ok X G (c.d.fact 79 (f := .free "list"))) (He.cls_ok (c.d.fact 96 (f := .cls "Polygon"))) (He.noat_ok (c.d.fact 106 (f := .noat "Polygon" "cycle")))
  have h_Polygon_vertex : C8.Met P w K mg base 1 (He.ga K "Polygon") "vertex" (Prm (tbs K) (R_Polygon_vertex (He.ga K "Polygon"))) [] := ok_Polygon_vertex F_Polygon_vertex (He.cls_ok (c.d.fact 96 (f := .cls "Polygon"))) (He.meth_ok (c.d.fact 121 (f := .meth "Polygon" "vertex"))) (He.cls_ok (c.d.fact 96 (f := .cls "Polygon"))) (He.noat_ok (c.d.fact 106 (f := .noat "Polygon" "cycle"))) (He.free_ok X G (c.d.fact 78 (f := .free "len")))
  have h_Polygon_edge : C8.Met P w K mg base 2 (He.ga K "Polygon") "edge" (Prm (tbs K) (R_Polygon_edge (He.ga K "Polygon"))) [] := ok_Polygon_edge F_Polygon_edge (He.cls_ok (c.d.fact 96 (f := .cls "Polygon"))) (He.meth_ok (c.d.fact 120 (f := .meth "Polygon" "edge"))) h_Polygon_vertex h_difference
  have h_reflected : C8.Cal P w K mg base 1 "reflected" (Prm (tbs K) R_reflected) [] := ok_reflected F_reflected (He.glo_ok X G (c.d.fact 57 (f := .glo "reflected")))
  have h_edge_side : C8.Cal P w K mg base 3 "edge_side" (Prm (tbs K) (R_edge_side (He.ga K "Polygon"))) [] := ok_edge_side F_edge_side (He.glo_ok X G (c.d.fact 34 (f := .glo "edge_side"))) h_Polygon_vertex h_Polygon_edge h_cross
  have h_translated : C8.Cal P w K mg base 1 "translated" (Prm (tbs K) R_translated) [] := ok_translated F_translated (He.glo_ok X G (c.d.fact 65 (f := .glo "translated")))
  have h_edge_sides : C8.Cal P w K mg base 4 "edge_sides" (Prm (tbs K) (R_edge_sides (He.ga K "Polygon"))) [] := ok_edge_sides F_edge_sides (He.glo_ok X G (c.d.fact 35 (f := .glo "edge_sides"))) (He.free_ok X G (c.d.fact 82 (f := .free "range"))) (He.free_ok X G (c.d.fact 78 (f := .free "len"))) h_PolygonU_lenU h_edge_side
  have h_is_point_shape : C8.Cal P w K mg base 2 "is_point_shape" (Prm (tbs K) R_is_point_shape) [] := ok_is_point_shape F_is_point_shape (He.glo_ok X G (c.d.fact 43 (f := .glo "is_point_shape"))) (He.free_ok X G (c.d.fact 77 (f := .free "isinstance"))) (He.free_ok X G (c.d.fact 85 (f := .free "tuple"))) (He.free_ok X G (c.d.fact 78 (f := .free "len"))) (He.free_ok X G (c.d.fact 72 (f := .free "all"))) h_is_int h_gcd
  have h_is_point : C8.Cal P w K mg base 3 "is_point" (Prm (tbs K) R_is_point) [] := ok_is_point F_is_point (He.glo_ok X G (c.d.fact 42 (f := .glo "is_point"))) h_is_point_shape (cst_ok X G (c.d.fact 88 (f := .int "MAX_DENOMINATOR" 1000000))) (cst_ok X G (c.d.fact 89 (f := .int "MAX_DISTANCE" 10000000000000000000000000000000000000000))) (He.free_ok X G (c.d.fact 72 (f := .free "all"))) h_is_int_in
  have h_require_point : C8.Cal P w K mg base 4 "require_point" (Prm (tbs K) R_require_point) [] := ok_require_point F_require_point (He.glo_ok X G (c.d.fact 60 (f := .glo "require_point"))) h_is_point
  have h_lies_outside : C8.Cal P w K mg base 5 "lies_outside" (Prm (tbs K) (R_lies_outside (He.ga K "Polygon"))) [] := ok_lies_outside F_lies_outside (He.glo_ok X G (c.d.fact 46 (f := .glo "lies_outside"))) (He.free_ok X G (c.d.fact 81 (f := .free "min"))) h_edge_sides
  have h_require_outside : C8.Cal P w K mg base 6 "require_outside" (Prm (tbs K) (R_require_outside (He.ga K "Polygon"))) [] := ok_require_outside F_require_outside (He.glo_ok X G (c.d.fact 59 (f := .glo "require_outside"))) h_require_point h_lies_outside
  have h_tangent_index : C8.Cal P w K mg base 5 "tangent_index" (Prm (tbs K) (R_tangent_index (He.ga K "Polygon"))) [] := ok_tangent_index F_tangent_index (He.glo_ok X G (c.d.fact 64 (f := .glo "tangent_index"))) h_edge_sides (He.free_ok X G (c.d.fact 75 (f := .free "enumerate")))
  have h_back_tangent_index : C8.Cal P w K mg base 5 "back_tangent_index" (Prm (tbs K) (R_back_tangent_index (He.ga K "Polygon"))) [] := ok_back_tangent_index F_back_tangent_index (He.glo_ok X G (c.d.fact 29 (f := .glo "back_tangent_index"))) h_edge_sides (He.free_ok X G (c.d.fact 75 (f := .free "enumerate")))
  have h_next_pair : C8.Cal P w K mg base 6 "next_pair" (Prm (tbs K) (R_next_pair (He.ga K "Polygon"))) [] := ok_next_pair F_next_pair (He.glo_ok X G (c.d.fact 48 (f := .glo "next_pair"))) h_tangent_index h_back_tangent_index h_reflected h_Polygon_vertex
  have h_pair_shift : C8.Cal P w K mg base 2 "pair_shift" (Prm (tbs K) (R_pair_shift (He.ga K "Polygon"))) [] := ok_pair_shift F_pair_shift (He.glo_ok X G (c.d.fact 50 (f := .glo "pair_shift"))) h_Polygon_vertex h_difference
  have h_positive_count : C8.Cal P w K mg base 1 "positive_count" (Prm (tbs K) R_positive_count) [] := ok_positive_count F_positive_count (He.glo_ok X G (c.d.fact 55 (f := .glo "positive_count")))
  have h_tangent_counts : C8.Cal P w K mg base 4 "tangent_counts" (PrmL (tbs K) (R_tangent_counts (He.ga K "Polygon"))) [] := ok_tangent_counts F_tangent_counts (He.glo_ok X G (c.d.fact 63 (f := .glo "tangent_counts"))) h_Polygon_edge h_cross h_edge_side h_positive_count
  have h_pair_count : C8.Cal P w K mg base 5 "pair_count" (Prm (tbs K) (R_pair_count (He.ga K "Polygon"))) [] := ok_pair_count F_pair_count (He.glo_ok X G (c.d.fact 49 (f := .glo "pair_count"))) h_pair_shift h_Polygon_vertex h_reflected h_tangent_counts (He.free_ok X G (c.d.fact 81 (f := .free "min")))
  have h_translations_to : C8.Cal P w K mg base 1 "translations_to" (Prm (tbs K) R_translations_to) [] := ok_translations_to F_translations_to (He.glo_ok X G (c.d.fact 66 (f := .glo "translations_to")))
  have h_SegmentU_initU : C8.Mak P w K mg base 6 "Segment" (He.ga K "Segment") (PrmI (tbs K) (He.ga K "Segment") (R_SegmentU_initU (He.ga K "Polygon"))) [] := ok_SegmentU_initU F_Segment___init__ (He.mkr_ok (c.d.fact 128 (f := .mkr "Segment"))) (He.glo_ok X G (c.d.fact 3 (f := .glo "Segment"))) (He.cls_ok (c.d.fact 97 (f := .cls "Segment"))) (He.noat_ok (c.d.fact 110 (f := .noat "Segment" "polygon"))) (He.noat_ok (c.d.fact 109 (f := .noat "Segment" "point"))) (He.noat_ok (c.d.fact 108 (f := .noat "Segment" "pair"))) (He.noat_ok (c.d.fact 112 (f := .noat "Segment" "start"))) h_pair_shift (He.noat_ok (c.d.fact 111 (f := .noat "Segment" "shift"))) h_pair_count (He.noat_ok (c.d.fact 107 (f := .noat "Segment" "count"))) (He.noat_ok (c.d.fact 113 (f := .noat "Segment" "stop")))
  have h_Segment_point_at : C8.Met P w K mg base 2 (He.ga K "Segment") "point_at" (Prm (tbs K) (R_Segment_point_at (He.ga K "Polygon") (He.ga K "Segment"))) [] := ok_Segment_point_at F_Segment_point_at (He.cls_ok (c.d.fact 97 (f := .cls "Segment"))) (He.meth_ok (c.d.fact 123 (f := .meth "Segment" "point_at"))) (He.free_ok X G (c.d.fact 74 (f := .free "divmod"))) (He.cls_ok (c.d.fact 97 (f := .cls "Segment"))) (He.noat_ok (c.d.fact 112 (f := .noat "Segment" "start"))) (He.noat_ok (c.d.fact 109 (f := .noat "Segment" "point"))) (He.noat_ok (c.d.fact 111 (f := .noat "Segment" "shift"))) h_translated (He.noat_ok (c.d.fact 110 (f := .noat "Segment" "polygon"))) h_Polygon_vertex (He.noat_ok (c.d.fact 108 (f := .noat "Segment" "pair"))) h_reflected
  have h_Segment_steps_to : C8.Met P w K mg base 2 (He.ga K "Segment") "steps_to" (PrmL (tbs K) (R_Segment_steps_to (He.ga K "Polygon") (He.ga K "Segment"))) [] := ok_Segment_steps_to F_Segment_steps_to (He.cls_ok (c.d.fact 97 (f := .cls "Segment"))) (He.meth_ok (c.d.fact 124 (f := .meth "Segment" "steps_to"))) (He.cls_ok (c.d.fact 97 (f := .cls "Segment"))) (He.noat_ok (c.d.fact 110 (f := .noat "Segment" "polygon"))) h_Polygon_vertex (He.noat_ok (c.d.fact 108 (f := .noat "Segment" "pair"))) h_reflected (He.noat_ok (c.d.fact 109 (f := .noat "Segment" "point"))) (He.noat_ok (c.d.fact 111 (f := .noat "Segment" "shift"))) h_translations_to (He.noat_ok (c.d.fact 107 (f := .noat "Segment" "count"))) (He.noat_ok (c.d.fact 112 (f := .noat "Segment" "start")))
  have h_Orbit_finish : C8.Met P w K mg base 2 (He.ga K "Orbit") "finish" (PrmS (tbs K) (R_Orbit_finish (He.ga K "Polygon") (He.ga K "Orbit"))) [] := ok_Orbit_finish F_Orbit_finish (He.cls_ok (c.d.fact 95 (f := .cls "Orbit"))) (He.meth_ok (c.d.fact 116 (f := .meth "Orbit" "finish"))) (He.cls_ok (c.d.fact 95 (f := .cls "Orbit"))) (He.noat_ok (c.d.fact 105 (f := .noat "Orbit" "tail"))) (He.noat_ok (c.d.fact 103 (f := .noat "Orbit" "polygon"))) h_Polygon_vertex h_reflected
  have h_Orbit5 : C8.Mak P w K mg base 8 "Orbit" (He.ga K "Orbit") (PrmI (tbs K) (He.ga K "Orbit") (R_OrbitU_initU (He.ga K "Polygon") (He.ga K "Segment") (He.ga K "Orbit"))) [] := ok_OrbitU_initU F_Orbit___init__ (He.mkr_ok (c.d.fact 126 (f := .mkr "Orbit"))) (He.glo_ok X G (c.d.fact 1 (f := .glo "Orbit"))) (He.cls_ok (c.d.fact 95 (f := .cls "Orbit"))) (He.noat_ok (c.d.fact 103 (f := .noat "Orbit" "polygon"))) (He.noat_ok (c.d.fact 104 (f := .noat "Orbit" "segments"))) (He.noat_ok (c.d.fact 102 (f := .noat "Orbit" "cycle"))) (He.noat_ok (c.d.fact 105 (f := .noat "Orbit" "tail"))) h_next_pair h_Orbit_finish h_SegmentU_initU (He.free_ok X G (c.d.fact 81 (f := .free "min"))) h_Segment_steps_to h_Segment_point_at (He.cls_ok (c.d.fact 97 (f := .cls "Segment"))) (He.noat_ok (c.d.fact 113 (f := .noat "Segment" "stop"))) (F_Orbit___init__.binds1 5 2 (by simp) rfl (fun _ _ _ _ _ _ _ us its h1 h2 => match us, its, h1, h2 with | [_, _, _, _, _], [_, _], _, _ => ⟨_, rfl, rfl⟩))
  have h_Orbit3 : C8.Mak P w K mg base 8 "Orbit" (He.ga K "Orbit") (PrmI (tbs K) (He.ga K "Orbit") (R_OrbitU_initU (He.ga K "Polygon") (He.ga K "Segment") (He.ga K "Orbit"))) [.int 1, .non] := ok_OrbitU_initU F_Orbit___init__ (He.mkr_ok (c.d.fact 126 (f := .mkr "Orbit"))) (He.glo_ok X G (c.d.fact 1 (f := .glo "Orbit"))) (He.cls_ok (c.d.fact 95 (f := .cls "Orbit"))) (He.noat_ok (c.d.fact 103 (f := .noat "Orbit" "polygon"))) (He.noat_ok (c.d.fact 104 (f := .noat "Orbit" "segments"))) (He.noat_ok (c.d.fact 102 (f := .noat "Orbit" "cycle"))) (He.noat_ok (c.d.fact 105 (f := .noat "Orbit" "tail"))) h_next_pair h_Orbit_finish h_SegmentU_initU (He.free_ok X G (c.d.fact 81 (f := .free "min"))) h_Segment_steps_to h_Segment_point_at (He.cls_ok (c.d.fact 97 (f := .cls "Segment"))) (He.noat_ok (c.d.fact 113 (f := .noat "Segment" "stop"))) (F_Orbit___init__.binds1 3 0 (by simp) rfl (fun _ _ _ _ _ _ _ us its h1 h2 => match us, its, h1, h2 with | [_, _, _], [_, _], _, _ => ⟨_, rfl, rfl⟩))
  have h_Orbit4 : C8.Mak P w K mg base 8 "Orbit" (He.ga K "Orbit") (PrmI (tbs K) (He.ga K "Orbit") (R_OrbitU_initU (He.ga K "Polygon") (He.ga K "Segment") (He.ga K "Orbit"))) [.non] := ok_OrbitU_initU F_Orbit___init__ (He.mkr_ok (c.d.fact 126 (f := .mkr "Orbit"))) (He.glo_ok X G (c.d.fact 1 (f := .glo "Orbit"))) (He.cls_ok (c.d.fact 95 (f := .cls "Orbit"))) (He.noat_ok (c.d.fact 103 (f := .noat "Orbit" "polygon"))) (He.noat_ok (c.d.fact 104 (f := .noat "Orbit" "segments"))) (He.noat_ok (c.d.fact 102 (f := .noat "Orbit" "cycle"))) (He.noat_ok (c.d.fact 105 (f := .noat "Orbit" "tail"))) h_next_pair h_Orbit_finish h_SegmentU_initU (He.free_ok X G (c.d.fact 81 (f := .free "min"))) h_Segment_steps_to h_Segment_point_at (He.cls_ok (c.d.fact 97 (f := .cls "Segment"))) (He.noat_ok (c.d.fact 113 (f := .noat "Segment" "stop"))) (F_Orbit___init__.binds1 4 1 (by simp) rfl (fun _ _ _ _ _ _ _ us its h1 h2 => match us, its, h1, h2 with | [_, _, _, _], [_, _], _, _ => ⟨_, rfl, rfl⟩))
  have h_Orbit_last_step : C8.Met P w K mg base 1 (He.ga K "Orbit") "last_step" (Prm (tbs K) (R_Orbit_last_step (He.ga K "Polygon") (He.ga K "Segment") (He.ga K "Orbit"))) [] := ok_Orbit_last_step F_Orbit_last_step (He.cls_ok (c.d.fact 95 (f := .cls "Orbit"))) (He.meth_ok (c.d.fact 117 (f := .meth "Orbit" "last_step"))) (He.cls_ok (c.d.fact 95 (f := .cls "Orbit"))) (He.noat_ok (c.d.fact 105 (f := .noat "Orbit" "tail")))
  have h_Orbit_point_at : C8.Met P w K mg base 3 (He.ga K "Orbit") "point_at" (Prm (tbs K) (R_Orbit_point_at (He.ga K "Polygon") (He.ga K "Segment") (He.ga K "Orbit"))) [] := ok_Orbit_point_at F_Orbit_point_at (He.cls_ok (c.d.fact 95 (f := .cls "Orbit"))) (He.meth_ok (c.d.fact 118 (f := .meth "Orbit" "point_at"))) (He.free_ok X G (c.d.fact 78 (f := .free "len"))) (He.cls_ok (c.d.fact 95 (f := .cls "Orbit"))) (He.noat_ok (c.d.fact 104 (f := .noat "Orbit" "segments"))) (He.cls_ok (c.d.fact 97 (f := .cls "Segment"))) (He.noat_ok (c.d.fact 113 (f := .noat "Segment" "stop"))) h_Segment_point_at (He.noat_ok (c.d.fact 105 (f := .noat "Orbit" "tail")))
  have h_require_steps : C8.Cal P w K mg base 3 "require_steps" (Prm (tbs K) R_require_steps) [] := ok_require_steps F_require_steps (He.glo_ok X G (c.d.fact 61 (f := .glo "require_steps"))) (cst_ok X G (c.d.fact 91 (f := .int "MAX_STEPS" 10000000000000000000000000000000000000000))) h_is_int_in
  have h_period_from : C8.Cal P w K mg base 10 "period_from" (Prm (tbs K) (R_period_from (He.ga K "Polygon") (He.ga K "Segment") (He.ga K "Orbit"))) [] := ok_period_from F_period_from (He.glo_ok X G (c.d.fact 51 (f := .glo "period_from"))) h_Orbit3 (He.cls_ok (c.d.fact 95 (f := .cls "Orbit"))) (He.noat_ok (c.d.fact 102 (f := .noat "Orbit" "cycle")))
  have h_end_steps : C8.Cal P w K mg base 10 "end_steps" (Prm (tbs K) (R_end_steps (He.ga K "Polygon") (He.ga K "Segment") (He.ga K "Orbit"))) [] := ok_end_steps F_end_steps (He.glo_ok X G (c.d.fact 36 (f := .glo "end_steps"))) h_Orbit3 (He.cls_ok (c.d.fact 95 (f := .cls "Orbit"))) (He.noat_ok (c.d.fact 102 (f := .noat "Orbit" "cycle"))) h_Orbit4 h_Orbit_last_step
  have h_is_vertex : C8.Cal P w K mg base 3 "is_vertex" (Prm (tbs K) R_is_vertex) [] := ok_is_vertex F_is_vertex (He.glo_ok X G (c.d.fact 44 (f := .glo "is_vertex"))) (He.free_ok X G (c.d.fact 77 (f := .free "isinstance"))) (He.free_ok X G (c.d.fact 85 (f := .free "tuple"))) (He.free_ok X G (c.d.fact 78 (f := .free "len"))) (He.free_ok X G (c.d.fact 72 (f := .free "all"))) (cst_ok X G (c.d.fact 87 (f := .int "MAX_COORDINATE" 60))) h_is_int_in
  have h_is_convex : C8.Cal P w K mg base 2 "is_convex" (Prm (tbs K) R_is_convex) [] := ok_is_convex F_is_convex (He.glo_ok X G (c.d.fact 39 (f := .glo "is_convex"))) (He.free_ok X G (c.d.fact 75 (f := .free "enumerate"))) (He.free_ok X G (c.d.fact 78 (f := .free "len"))) h_difference (He.free_ok X G (c.d.fact 82 (f := .free "range"))) (He.free_ok X G (c.d.fact 72 (f := .free "all"))) h_cross
  have h_require_vertices : C8.Cal P w K mg base 4 "require_vertices" (Prm (tbs K) R_require_vertices) [] := ok_require_vertices F_require_vertices (He.glo_ok X G (c.d.fact 62 (f := .glo "require_vertices"))) (He.free_ok X G (c.d.fact 77 (f := .free "isinstance"))) (He.free_ok X G (c.d.fact 79 (f := .free "list"))) (He.free_ok X G (c.d.fact 85 (f := .free "tuple"))) (cst_ok X G (c.d.fact 93 (f := .int "MIN_VERTICES" 3))) (He.free_ok X G (c.d.fact 78 (f := .free "len"))) (cst_ok X G (c.d.fact 92 (f := .int "MAX_VERTICES" 6))) (He.free_ok X G (c.d.fact 72 (f := .free "all"))) h_is_vertex h_is_convex
  have h_PolygonU_initU : C8.Mak P w K mg base 5 "Polygon" (He.ga K "Polygon") (PrmI (tbs K) (He.ga K "Polygon") R_PolygonU_initU) [] := ok_PolygonU_initU F_Polygon___init__ (He.mkr_ok (c.d.fact 127 (f := .mkr "Polygon"))) (He.glo_ok X G (c.d.fact 2 (f := .glo "Polygon"))) h_require_vertices (He.free_ok X G (c.d.fact 79 (f := .free "list"))) (He.free_ok X G (c.d.fact 81 (f := .free "min"))) (He.cls_ok (c.d.fact 96 (f := .cls "Polygon"))) (He.noat_ok (c.d.fact 106 (f := .noat "Polygon" "cycle")))
  have h_primitive : C8.Cal P w K mg base 2 "primitive" (Prm (tbs K) R_primitive) [] := ok_primitive F_primitive (He.glo_ok X G (c.d.fact 56 (f := .glo "primitive"))) h_gcd
  have h_lcm : C8.Cal P w K mg base 2 "lcm" (Prm (tbs K) R_lcm) [] := ok_lcm F_lcm (He.glo_ok X G (c.d.fact 45 (f := .glo "lcm"))) h_gcd
  have h_far_pair : C8.Cal P w K mg base 2 "far_pair" (Prm (tbs K) (R_far_pair (He.ga K "Polygon"))) [] := ok_far_pair F_far_pair (He.glo_ok X G (c.d.fact 37 (f := .glo "far_pair"))) h_Polygon_vertices h_cross (He.free_ok X G (c.d.fact 80 (f := .free "max"))) (He.free_ok X G (c.d.fact 81 (f := .free "min"))) h_Polygon_vertex h_difference
  have h_FarField_turn : C8.Met P w K mg base 2 (He.ga K "FarField") "turn" (Prm (tbs K) (R_FarField_turn (He.ga K "FarField"))) [] := ok_FarField_turn F_FarField_turn (He.cls_ok (c.d.fact 94 (f := .cls "FarField"))) (He.meth_ok (c.d.fact 115 (f := .meth "FarField" "turn"))) (He.cls_ok (c.d.fact 94 (f := .cls "FarField"))) (He.noat_ok (c.d.fact 100 (f := .noat "FarField" "vectors"))) h_cross
  have h_FarField_needed_factor : C8.Met P w K mg base 3 (He.ga K "FarField") "needed_factor" (Prm (tbs K) (R_FarField_needed_factor (He.ga K "FarField"))) [] := ok_FarField_needed_factor F_FarField_needed_factor (He.cls_ok (c.d.fact 94 (f := .cls "FarField"))) (He.meth_ok (c.d.fact 114 (f := .meth "FarField" "needed_factor"))) (He.cls_ok (c.d.fact 94 (f := .cls "FarField"))) (He.noat_ok (c.d.fact 101 (f := .noat "FarField" "widths"))) h_FarField_turn h_gcd
  have hcd : fd_directions.code = .ref (tD K).1 := by
    obtain ⟨oc, od, dV, kV, doc, pm, an, cdv, ct, osl, rfl, lk, hcd, _, _⟩ := F_directions.ex
    obtain ⟨q, e⟩ := He.codeIn_ref hcd
    have z : (tD K).1 = q := He.codeOf_eq (p := ("directions", none)) lk e
    rw [z]
    exact e
  have h_directions : C8.Cal P w K mg base 6 "directions" (Prm (tbs K) (R_directions (He.ga K "Polygon"))) [] := ok_directions F_directions hcd (He.glo_ok X G (c.d.fact 33 (f := .glo "directions"))) (He.free_ok X G (c.d.fact 82 (f := .free "range"))) (He.free_ok X G (c.d.fact 78 (f := .free "len"))) (He.free_ok X G (c.d.fact 84 (f := .free "sorted"))) h_PolygonU_lenU h_primitive h_Polygon_edge h_cross TBd hqd hmd hud
  have h_FarFieldU_initU : C8.Mak P w K mg base 7 "FarField" (He.ga K "FarField") (PrmI (tbs K) (He.ga K "FarField") (R_FarFieldU_initU (He.ga K "Polygon"))) [] := ok_FarFieldU_initU F_FarField___init__ (He.mkr_ok (c.d.fact 125 (f := .mkr "FarField"))) (He.glo_ok X G (c.d.fact 0 (f := .glo "FarField"))) h_directions (He.cls_ok (c.d.fact 94 (f := .cls "FarField"))) (He.noat_ok (c.d.fact 100 (f := .noat "FarField" "vectors"))) (He.free_ok X G (c.d.fact 86 (f := .free "zip"))) h_far_pair (He.noat_ok (c.d.fact 98 (f := .noat "FarField" "pairs"))) (He.free_ok X G (c.d.fact 71 (f := .free "abs"))) h_cross (He.noat_ok (c.d.fact 101 (f := .noat "FarField" "widths"))) (He.free_ok X G (c.d.fact 82 (f := .free "range"))) (He.free_ok X G (c.d.fact 78 (f := .free "len"))) h_FarField_needed_factor h_lcm (He.noat_ok (c.d.fact 99 (f := .noat "FarField" "unit")))
  have h_modulus : C8.Cal P w K mg base 9 "modulus" (Prm (tbs K) (R_modulus (He.ga K "Polygon"))) [] := ok_modulus F_modulus (He.glo_ok X G (c.d.fact 47 (f := .glo "modulus"))) h_FarFieldU_initU (He.cls_ok (c.d.fact 94 (f := .cls "FarField"))) (He.noat_ok (c.d.fact 99 (f := .noat "FarField" "unit")))
  have h_require_modulus : C8.Cal P w K mg base 10 "require_modulus" (Prm (tbs K) (R_require_modulus (He.ga K "Polygon"))) [] := ok_require_modulus F_require_modulus (He.glo_ok X G (c.d.fact 58 (f := .glo "require_modulus"))) h_modulus (cst_ok X G (c.d.fact 90 (f := .int "MAX_MODULUS" 4096)))
  have h_law_draw : C8.Cal P w K mg base 1 "_law_draw" (PrmS (tbs K) R_law_draw) [] := ok_law_draw F__law_draw (He.glo_ok X G (c.d.fact 7 (f := .glo "_law_draw"))) (He.free_ok X G (c.d.fact 78 (f := .free "len"))) (He.free_ok X G (c.d.fact 71 (f := .free "abs")))
  have h_law_pick : C8.Cal P w K mg base 2 "_law_pick" (PrmS (tbs K) R_law_pick) [] := ok_law_pick F__law_pick (He.glo_ok X G (c.d.fact 21 (f := .glo "_law_pick"))) (He.free_ok X G (c.d.fact 78 (f := .free "len"))) h_law_draw
  have h_law_great : C8.Cal P w K mg base 2 "_law_great" (PrmS (tbs K) R_law_great) [] := ok_law_great F__law_great (He.glo_ok X G (c.d.fact 12 (f := .glo "_law_great"))) (He.free_ok X G (c.d.fact 82 (f := .free "range"))) h_law_draw
  have h_law_gcd : C8.Cal P w K mg base 1 "_law_gcd" (Prm (tbs K) R_law_gcd) [] := ok_law_gcd F__law_gcd (He.glo_ok X G (c.d.fact 11 (f := .glo "_law_gcd"))) (He.free_ok X G (c.d.fact 71 (f := .free "abs")))
  have h_law_cross : C8.Cal P w K mg base 1 "_law_cross" (Prm (tbs K) R_law_cross) [] := ok_law_cross F__law_cross (He.glo_ok X G (c.d.fact 4 (f := .glo "_law_cross")))
  have h_law_point_form : C8.Cal P w K mg base 2 "_law_point_form" (Prm (tbs K) R_law_point_form) [] := ok_law_point_form F__law_point_form (He.glo_ok X G (c.d.fact 22 (f := .glo "_law_point_form"))) h_law_gcd
  have h_law_mirror : C8.Cal P w K mg base 1 "_law_mirror" (Prm (tbs K) R_law_mirror) [] := ok_law_mirror F__law_mirror (He.glo_ok X G (c.d.fact 17 (f := .glo "_law_mirror")))
  have h_law_is_int : C8.Cal P w K mg base 1 "_law_is_int" (Prm (tbs K) R_law_is_int) [] := ok_law_is_int F__law_is_int (He.glo_ok X G (c.d.fact 13 (f := .glo "_law_is_int"))) (He.free_ok X G (c.d.fact 77 (f := .free "isinstance"))) (He.free_ok X G (c.d.fact 76 (f := .free "int"))) (He.free_ok X G (c.d.fact 73 (f := .free "bool")))
  have h_law_sides : C8.Cal P w K mg base 2 "_law_sides" (Prm (tbs K) R_law_sides) [] := ok_law_sides F__law_sides (He.glo_ok X G (c.d.fact 27 (f := .glo "_law_sides"))) (He.free_ok X G (c.d.fact 82 (f := .free "range"))) (He.free_ok X G (c.d.fact 78 (f := .free "len"))) h_law_cross
  have h_law_right : C8.Cal P w K mg base 3 "_law_right" (Prm (tbs K) R_law_right) [] := ok_law_right F__law_right (He.glo_ok X G (c.d.fact 24 (f := .glo "_law_right"))) h_law_sides (He.free_ok X G (c.d.fact 82 (f := .free "range"))) (He.free_ok X G (c.d.fact 78 (f := .free "len")))
  have h_law_left : C8.Cal P w K mg base 3 "_law_left" (Prm (tbs K) R_law_left) [] := ok_law_left F__law_left (He.glo_ok X G (c.d.fact 14 (f := .glo "_law_left"))) h_law_sides (He.free_ok X G (c.d.fact 82 (f := .free "range"))) (He.free_ok X G (c.d.fact 78 (f := .free "len")))
  have h_law_next : C8.Cal P w K mg base 4 "_law_next" (Prm (tbs K) R_law_next) [] := ok_law_next F__law_next (He.glo_ok X G (c.d.fact 19 (f := .glo "_law_next"))) h_law_right h_law_mirror
  have h_law_previous : C8.Cal P w K mg base 4 "_law_previous" (Prm (tbs K) R_law_previous) [] := ok_law_previous F__law_previous (He.glo_ok X G (c.d.fact 23 (f := .glo "_law_previous"))) h_law_left h_law_mirror
  have h_law_from_least : C8.Cal P w K mg base 1 "_law_from_least" (Prm (tbs K) R_law_from_least) [] := ok_law_from_least F__law_from_least (He.glo_ok X G (c.d.fact 10 (f := .glo "_law_from_least"))) (He.free_ok X G (c.d.fact 81 (f := .free "min")))
  have h_law_map_corner : C8.Cal P w K mg base 1 "_law_map_corner" (Prm (tbs K) R_law_map_corner) [] := ok_law_map_corner F__law_map_corner (He.glo_ok X G (c.d.fact 15 (f := .glo "_law_map_corner")))
  have h_law_mapped : C8.Cal P w K mg base 2 "_law_mapped" (Prm (tbs K) R_law_mapped) [] := ok_law_mapped F__law_mapped (He.glo_ok X G (c.d.fact 16 (f := .glo "_law_mapped"))) h_law_map_corner h_law_cross h_law_from_least
  have h_law_table : C8.Cal P w K mg base 3 "_law_table" (PrmS (tbs K) R_law_table) [] := ok_law_table F__law_table (He.glo_ok X G (c.d.fact 28 (f := .glo "_law_table"))) (He.free_ok X G (c.d.fact 82 (f := .free "range"))) h_law_draw h_law_pick h_law_map_corner
  have h_law_shapes : C8.Cal P w K mg base 1 "_law_shapes" (Prm (tbs K) R_law_shapes) [] := ok_law_shapes F__law_shapes (He.glo_ok X G (c.d.fact 26 (f := .glo "_law_shapes")))
  have h_law_directions : C8.Cal P w K mg base 2 "_law_directions" (Prm (tbs K) R_law_directions) [] := ok_law_directions F__law_directions (He.glo_ok X G (c.d.fact 6 (f := .glo "_law_directions"))) (He.free_ok X G (c.d.fact 82 (f := .free "range"))) (He.free_ok X G (c.d.fact 78 (f := .free "len"))) h_law_gcd h_law_cross
  have h_law_far_shift : C8.Cal P w K mg base 2 "_law_far_shift" (Prm (tbs K) R_law_far_shift) [] := ok_law_far_shift F__law_far_shift (He.glo_ok X G (c.d.fact 9 (f := .glo "_law_far_shift"))) h_law_cross (He.free_ok X G (c.d.fact 80 (f := .free "max"))) (He.free_ok X G (c.d.fact 81 (f := .free "min")))
  have h_law_far_rows : C8.Cal P w K mg base 3 "_law_far_rows" (Prm (tbs K) R_law_far_rows) [] := ok_law_far_rows F__law_far_rows (He.glo_ok X G (c.d.fact 8 (f := .glo "_law_far_rows"))) h_law_directions (He.free_ok X G (c.d.fact 82 (f := .free "range"))) (He.free_ok X G (c.d.fact 78 (f := .free "len"))) h_law_far_shift (He.free_ok X G (c.d.fact 71 (f := .free "abs"))) h_law_cross
  have h_law_modulus : C8.Cal P w K mg base 4 "_law_modulus" (Prm (tbs K) R_law_modulus) [] := ok_law_modulus F__law_modulus (He.glo_ok X G (c.d.fact 18 (f := .glo "_law_modulus"))) h_law_far_rows h_law_gcd
  have h_law_shape : C8.Cal P w K mg base 5 "_law_shape" (PrmS (tbs K) R_law_shape) [] := ok_law_shape F__law_shape (He.glo_ok X G (c.d.fact 25 (f := .glo "_law_shape"))) h_law_shapes h_law_pick h_law_draw h_law_table h_law_mapped (He.free_ok X G (c.d.fact 80 (f := .free "max"))) (He.free_ok X G (c.d.fact 71 (f := .free "abs"))) h_law_modulus h_law_from_least
  have h_law_dead_end : C8.Cal P w K mg base 3 "_law_dead_end" (PrmS (tbs K) R_law_dead_end) [] := ok_law_dead_end F__law_dead_end (He.glo_ok X G (c.d.fact 5 (f := .glo "_law_dead_end"))) (He.free_ok X G (c.d.fact 78 (f := .free "len"))) h_law_draw h_law_pick h_law_point_form
  have h_period_of : C8.Cal P w K mg base 11 "period_of" (Prm (tbs K) (R_period_of (He.ga K "Polygon"))) [] := ok_period_of F_period_of (He.glo_ok X G (c.d.fact 52 (f := .glo "period_of"))) h_require_outside h_require_modulus h_period_from
  have h_dead_ends : C8.Cal P w K mg base 11 "dead_ends" (Prm (tbs K) (R_dead_ends (He.ga K "Polygon"))) [] := ok_dead_ends F_dead_ends (He.glo_ok X G (c.d.fact 31 (f := .glo "dead_ends"))) h_require_outside h_require_modulus h_end_steps
  have h_point_from : XCal P w K mg base 10 "point_from" (PrmX (tbs K) (undC K) (R_point_from (He.ga K "Polygon") (He.ga K "Segment") (He.ga K "Orbit")) (RX_point_from (He.ga K "Polygon") (He.ga K "Segment") (He.ga K "Orbit"))) := ok_point_from U0 F_point_from (He.glo_ok X G (c.d.fact 54 (f := .glo "point_from"))) (He.free_ok X G (c.d.fact 71 (f := .free "abs"))) h_Orbit5 (He.cls_ok (c.d.fact 95 (f := .cls "Orbit"))) (He.noat_ok (c.d.fact 102 (f := .noat "Orbit" "cycle"))) h_Orbit_point_at (He.noat_ok (c.d.fact 105 (f := .noat "Orbit" "tail"))) h_Orbit_last_step
  have h_point_after : XCal P w K mg base 11 "point_after" (PrmX (tbs K) (undC K) (R_point_after (He.ga K "Polygon") (He.ga K "Segment") (He.ga K "Orbit")) (RX_point_after (He.ga K "Polygon") (He.ga K "Segment") (He.ga K "Orbit"))) := ok_point_after U0 F_point_after (He.glo_ok X G (c.d.fact 53 (f := .glo "point_after"))) h_require_outside (cst_ok X G (c.d.fact 91 (f := .int "MAX_STEPS" 10000000000000000000000000000000000000000))) h_require_steps h_require_modulus h_point_from
  have h_law_pen : C8.Cal P w K mg base 1 "_law_pen" (PrmPen (tbs K) K) [] := ok_law_pen F__law_pen (He.glo_ok X G (c.d.fact 20 (f := .glo "_law_pen"))) (He.free_ok X G (c.d.fact 79 (f := .free "list")))
  obtain ⟨t, h1, h2⟩ := law_body (T := tbs K) (f := He.ga K "law") U0 UC F__law_result (He.glo_ok X G (c.d.fact 68 (f := .glo "_law_result"))) h_law_pen h_law_shape h_law_pick h_law_great h_law_dead_end h_dead_ends h_law_is_int h_law_previous h_law_next h_period_of h_PolygonU_initU h_point_after (He.free_ok X G (c.d.fact 82 (f := .free "range"))) (He.free_ok X G (c.d.fact 81 (f := .free "min"))) (He.free_ok X G (c.d.fact 78 (f := .free "len"))) (He.free_ok X G (c.d.fact 77 (f := .free "isinstance"))) (He.free_ok X G (c.d.fact 85 (f := .free "tuple"))) (He.free_ok X G (c.d.fact 83 (f := .free "repr"))) (He.free_ok X G (c.d.fact 70 (f := .free "RuntimeError"))) TBl hql hml hul A outer s H0 E hr hg
  exact ⟨t, h1, fun a ns H e1 e2 e3 => h2 a ns H e1 e2 e3 fun q n _ _ => round_ok q⟩
end O26
set_option Elab.async false
set_option linter.all false
set_option maxRecDepth 100000
set_option maxHeartbeats 8000000
namespace O26
open PySem PySem.Spec PyProof.Rows L2 LamX
/-! the law's call, by its caller alone -/
/-- the abstract heap of the call: the tables of both code objects, the script (known, never written) -/
structure OwnH (K : PySem.W.Frag) (a : Addr) (lo : Obj) (ns : List Int) (H : Hp) : Prop where
  tb : ∀ p ∈ tfL, H (He.cT K p).2 = some (.tbl #[])
  all : ∀ b u, H b = some u → ((∃ p ∈ tfL, b = (He.cT K p).2) ∧ u = .tbl #[]) ∨ (b = a ∧ u = .frz lo (.lst (ns.map V.int)) ∧ K.lookup a = none)
  sq : SqL K H a (ns.map V.int)
section
variable {w : World} {K : PySem.W.Frag} {mg mb : Str → Option Value} {a : Addr} {s₁ : Shared} {vs : List Value} {ns : List Int} {H : Hp}
theorem law_ended (c : SaysR fa fn tfL exT s₁.heap K) (X : K.In s₁.heap) (G : s₁.heap.Ns mainGlobals mg) (hB : s₁.heap.Ns builtinsNs mb) (hB2 : ∀ x : Str, x ≠ "__name__" → mb x = bootBuiltins x) (hL : s₁.heap.NoLimit) (hg : s₁.gens = #[])
    (hM : ∃ (bm : Addr) (o : Obj), mg "__builtins__" = some (.ref bm) ∧ bm ≠ builtinsNs ∧ s₁.heap.get? bm = some o ∧ o.cls = .type "module" ∧ o.dict = some builtinsNs ∧ o.data = .plain)
    (ha : s₁.heap.get? a = some { cls := .type "list", data := .seq vs.toArray }) (hi : IntsAre vs ns) (hz : ns.length ≤ 63) (O : OwnH K a { cls := .type "list", data := .seq vs.toArray } ns H) :
    codeAny (model (PySem.W.OpenLaw.row PySem.Challenge.rw_outleap_k26_whole_orbits_that_end_at_bot).prog w) callerA (.call (.ref (He.ga K "law")) ⟨[.ref a], []⟩) (fun r s' => r = .ok (.ret (.bool true)) ∧ OldK s₁.heap s'.heap ∧ s'.os = s₁.os ∧ AllBare s'.gens) s₁ := by
  have iv := vals_ints hi
  have lz : ns.length ≤ sizeLine := by rw [sizeLine_eq]; omega
  have emp : ∀ p ∈ tfL, s₁.heap.get? (He.cT K p).2 = some { cls := .none, data := .fields #[] } := fun p hp => (c.tab p hp).2.2
  -- all that is known is so
  have ok : HOk (PySem.W.OpenLaw.row PySem.Challenge.rw_outleap_k26_whole_orbits_that_end_at_bot).prog w H s₁.heap := fun b u e => by
    rcases O.all b u e with ⟨⟨p, hp, rfl⟩, rfl⟩ | ⟨rfl, rfl, _⟩
    · exact emp p hp
    · exact ⟨ha, by rw [List.length_map]; exact lz, vs, _, iv, ha⟩
  have un : ∀ {b : Addr} {o : Obj}, s₁.heap.get? b = some o → (∀ xs n, o.data ≠ .seq xs n) → o.data ≠ .fields #[] → H b = none := fun {b o} e n1 n2 => by
    cases hb : H b with
    | none => rfl
    | some u =>
      rcases O.all b u hb with ⟨⟨p, hp, rfl⟩, _⟩ | ⟨rfl, _, _⟩
      · rw [emp p hp] at e
        cases e
        exact absurd rfl n2
      · rw [ha] at e
        cases e
        exact absurd rfl (n1 _ _)
  have nsB : ∀ {b : Addr} {m : Str → Option Value}, s₁.heap.Ns b m → (hidT s₁.heap H).Ns b m := fun {b m} ⟨o, es, ep, e, d, r⟩ =>
    ⟨o, es, ep, hidT_get e (un e (fun xs n z => by rw [d] at z; cases z) (fun z => by rw [d] at z; cases z)), d, r⟩
  have kB : K.In (hidT s₁.heap H) := fun b o e => hidT_get (X b o e) (by
    cases hb : H b with
    | none => rfl
    | some u =>
      rcases O.all b u hb with ⟨⟨p, hp, rfl⟩, _⟩ | ⟨rfl, _, z⟩
      · rw [(c.tab p hp).2.1] at e; cases e
      · rw [z] at e; cases e)
  have gB := nsB G
  have noG : ∀ p ∈ tfL, mainGlobals ≠ (He.cT K p).2 := fun p hp z => by
    obtain ⟨o, es, ep, e, d, _⟩ := G
    rw [z, emp p hp] at e
    cases e
    cases d
  have tB : ∀ p ∈ tfL, TabB (hidT s₁.heap H) mg (He.cT K p).1 (He.cT K p).2 := fun p hp => by
    refine ⟨PySem.W.codeHd_of_K kB (c.tab p hp).1, ?_, noG p hp⟩
    obtain ⟨bm, o, m1, m2, m3, m4, m5, m6⟩ := hM
    refine ⟨bm, o, m1, m2, fun z => ?_, fun z => ?_, hidT_get m3 (un m3 (fun xs n z => by rw [m6] at z; cases z) (fun z => by rw [m6] at z; cases z)), m4, m5, m6⟩
    · obtain ⟨o2, es, ep, e, d, _⟩ := G
      rw [z, e] at m3
      cases m3
      rw [d] at m6
      cases m6
    · rw [z, emp p hp] at m3
      cases m3
      cases m6
  have md : L2.Mod K mg (hidT s₁.heap H) := ⟨kB, gB, ⟨mb, nsB hB, hB2⟩, hL.elim fun m ⟨z1, z2⟩ => ⟨m, nsB z1, z2⟩⟩
  have e0 : Env0 (PySem.W.OpenLaw.row PySem.Challenge.rw_outleap_k26_whole_orbits_that_end_at_bot).prog w K mg (hidT s₁.heap H) callerA [] s₁ H := ⟨rfl, md, fun b o e => of_hidT e, Nat.le_of_eq (hidT_size _ _), trivial, fun b z => (nomatch z), ok, .of_eq hg⟩
  have tabs : LamX.Tabs (tbs K) H := fun p hp => by
    rcases List.mem_cons.mp hp with rfl | hp
    · exact TabS.nil (O.tb ("directions", none) List.mem_cons_self)
    · rw [List.mem_singleton.mp hp]
      exact TabS.nil (O.tb ("law", none) (List.mem_cons_of_mem _ List.mem_cons_self))
  have FL := c.d.def_ 80 (d := d_law)
  obtain ⟨fdl, FL⟩ : ∃ fd, FunD K "law" "law" (defArgs s_law) (defBody s_law) (defScope s_law) [] [] (He.ga K "law") fd := FL
  have fb := fun s us hl => FL.bindsA (ps := ["_law_script"]) (fun _ _ _ _ _ _ us hl => match us, hl with | [_], _ => rfl) s us hl
  obtain ⟨oc, od, dV, kV, doc, pm, an, cdv, ct, osl, rfl, lk, hcd, _, _⟩ := FL.ex
  obtain ⟨q, rfl⟩ := He.codeIn_ref hcd
  have eq : (tL K).1 = q := He.codeOf_eq (p := ("law", none)) lk rfl
  have run := run_ofS (CX := C8.CX0) (N := lawN) (ps := ["_law_script"]) (us := [.ref a]) (vs := [.ref a]) (k := 14) (Q := fun v _ => v = .bl true) (E := C8.E0) lk hcd sc_law (A := callerA) ⟨rfl, by decide, by decide⟩ e0 (fb s₁ [.ref a] rfl) (.cons rfl .nil) rfl fun hr => by
    have hr2 := hr
    rw [← eq] at hr2
    obtain ⟨t, h1, h2⟩ := law_all (P := (PySem.W.OpenLaw.row PySem.Challenge.rw_outleap_k26_whole_orbits_that_end_at_bot).prog) (w := w) X G c (tB ("directions", none) List.mem_cons_self) (tB ("law", none) (List.mem_cons_of_mem _ List.mem_cons_self)) callerA [] s₁ H C8.E0 hr2 rfl
    rw [eq] at h1
    refine ⟨t, h1.nox, ?_⟩
    have h3 := h2 a ns H (by omega) tabs O.sq
    have e : (fun (_ : L2.St) (_ : Hp) => V.non = V.bl true) = fun _ _ => False := by
      funext _ _
      exact propext ⟨fun z => (nomatch z), fun z => z.elim⟩
    show t { nx := fun _ _ => V.non = V.bl true, rt := fun v _ => v = .bl true } _ _
    rw [e]
    exact h3
  refine codeAny_mono run fun r s' h => ?_
  cases r with
  | error e => exact (show False from h).elim
  | ok fl =>
    cases fl with
    | next => exact (show False from h).elim
    | brk => exact (show False from h).elim
    | cont => exact (show False from h).elim
    | ret u =>
      obtain ⟨v, H', os, bare, ua, ok', rv, rfl⟩ := h
      obtain rfl : u = Value.bool true := rv
      have wr : ∀ p ∈ tfL, ∃ more : Array Value, s'.heap.get? (He.cT K p).2 = some { cls := .none, data := .fields more } := fun p hp => by
        obtain ⟨more, z⟩ := ua.tbls _ #[] (O.tb p hp)
        exact ⟨_, ok' _ _ z⟩
      have cls : ∀ b o, s₁.heap.get? b = some o → (∃ p ∈ tfL, b = (He.cT K p).2) ∨ s'.heap.get? b = some o := fun b o e => by
        cases hb : H b with
        | none => exact .inr (ua.keep b o e hb (fun z => (nomatch z)) (fun z => (nomatch z)))
        | some u =>
          rcases O.all b u hb with ⟨z, _⟩ | ⟨rfl, rfl, _⟩
          · exact .inl z
          · obtain ⟨z, _⟩ := ok' _ _ (ua.frzs _ _ _ hb)
            rw [ha] at e
            cases e
            exact .inr z
      refine ⟨rfl, ⟨fun b o e => ?_, fun b o e => ?_⟩, os, bare⟩
      · rcases cls b o e with ⟨p, hp, rfl⟩ | z
        · obtain ⟨more, z⟩ := wr p hp
          have ep := emp p hp
          rw [ep] at e
          cases e
          have hd : PySem.W.CodeHd s₁.heap (He.cT K p).1 (He.cT K p).2 := PySem.W.codeHd_of_K X (c.tab p hp).1
          exact .inr (.inl ⟨(hd.tab ep).isCodeTable, rfl, #[], more, rfl, by rw [Array.empty_append]; exact z⟩)
        · exact .inl z
      · rcases cls b o e with ⟨p, hp, rfl⟩ | z
        · obtain ⟨more, z⟩ := wr p hp
          exact ⟨_, z⟩
        · exact ⟨_, z⟩
theorem ownH_ex (c : SaysR fa fn tfL exT s₁.heap K) (X : K.In s₁.heap) (ha : s₁.heap.get? a = some { cls := .type "list", data := .seq vs.toArray }) (hi : IntsAre vs ns) (hz : ns.length ≤ 63) : ∃ H, OwnH K a { cls := .type "list", data := .seq vs.toArray } ns H := by
  have lz : ns.length ≤ sizeLine := by rw [sizeLine_eq]; omega
  have na : ¬ ∃ p ∈ tfL, a = (He.cT K p).2 := fun ⟨p, hp, z⟩ => by
    have e := (c.tab p hp).2.2
    rw [← z, ha] at e
    cases e
  classical
  cases hk : K.lookup a with
  | some o =>
    have e := X a o hk
    rw [ha] at e
    cases e
    refine ⟨fun b => if ∃ p ∈ tfL, b = (He.cT K p).2 then some (.tbl #[]) else none, fun p hp => if_pos ⟨p, hp, rfl⟩, fun b u e => ?_, .inr ⟨_, vs.toArray, _, hk, rfl, rfl, rfl, by rw [List.size_toArray, hi.length]; exact lz, by simpa using vals_ints hi⟩⟩
    by_cases z : ∃ p ∈ tfL, b = (He.cT K p).2
    · rw [if_pos z] at e
      cases e
      exact .inl ⟨z, rfl⟩
    · rw [if_neg z] at e
      cases e
  | none =>
    refine ⟨fun b => if ∃ p ∈ tfL, b = (He.cT K p).2 then some (.tbl #[]) else if b = a then some (.frz { cls := .type "list", data := .seq vs.toArray } (.lst (ns.map V.int))) else none, fun p hp => if_pos ⟨p, hp, rfl⟩, fun b u e => ?_, .inl (.inr ⟨{ cls := .type "list", data := .seq vs.toArray }, ?_⟩)⟩
    · by_cases z : ∃ p ∈ tfL, b = (He.cT K p).2
      · rw [if_pos z] at e
        cases e
        exact .inl ⟨z, rfl⟩
      · rw [if_neg z] at e
        by_cases z2 : b = a
        · rw [if_pos z2] at e
          cases e
          exact .inr ⟨z2, rfl, hk⟩
        · rw [if_neg z2] at e
          cases e
    · show (if ∃ p ∈ tfL, a = (He.cT K p).2 then some (HO.tbl #[]) else if a = a then _ else none) = _
      rw [if_neg na, if_pos rfl]
end
end O26
open PySem PySem.W PyProof.Rows O26
set_option maxHeartbeats 0 in
theorem PySem.Challenge.cw_outleap_k26_whole_orbits_that_end_at_bot_holds : PySem.Challenge.rw_outleap_k26_whole_orbits_that_end_at_bot.Holds := by
  w_on; o_law
  refine HandSHeadRun.head_any (r := Rw) (q := PySem.W.view Rw.prog [91]) (H := hk) (ob := ob) (M := 6000) (loose := loose) (d := HandSHeadRun.topDef Rw.prog 91) (kwd := []) ob_eq (by kernel_rfl) (fun s => by kernel_rfl) O26.run (by kernel_rfl) (by kernel_rfl) (by kernel_rfl) (by rfl) (by first | assumption | decide +kernel) (by decide +kernel) ⟨rfl, rfl, rfl, rfl, rfl, by decide +kernel⟩ ?hw ?hc
  case hw => w_witness2
  case hc =>
    refine Att.attach_callB (l := PySem.Challenge.rw_outleap_k26_whole_orbits_that_end_at_bot) (n := 63) rfl (by kernel_rfl) fun w s₀ s₁ mg mb fa o pm cd doc a vs ns G Y ho hd hcd hmg hobj hints hlen hbits hg => ?_
    obtain ⟨K, X, c⟩ := Y
    have e := He.glo_ok X G.T.g (c.d.fact 69 (f := .glo "law"))
    have en : (HandSHeadRun.topDef Rw.prog 91).name = ("law" : PySem.Str) := by kernel_rfl
    have hmg2 : mg ("law" : PySem.Str) = some (.ref fa) := by
      rw [← en]
      exact hmg
    have e2 : some (Value.ref fa) = some (.ref (He.ga K "law")) := hmg2.symm.trans e
    cases e2
    obtain ⟨H, O⟩ := ownH_ex c X hobj hints hlen
    exact law_ended c X G.T.g G.T.b G.T.builtins G.T.nolimit hg G.T.bmain hobj hints hlen O
