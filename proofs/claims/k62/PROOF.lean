import PyProof.Rows.All
import HandS.Comp
import HandS.Conv
import HandS.Defaults
import HandS.Dict
import HandS.Ends
import HandS.Exc
import HandS.ExcOwn
import HandS.Flow
import HandS.ForMost
import HandS.Head0
import HandS.Head1
import HandS.Head2
import HandS.HeadEnd
import HandS.HeadHook1
import HandS.HeadHook2
import HandS.HeadWalk
import HandS.IsInst
import HandS.Iter
import HandS.Lambda
import HandS.SetFor
import HandS.Sort
import HandS.SortInts
import HandS.Strs
import HandS.Style
import HandS.TryOnly
import HandS.TupAny
import HandS.TupMul
import HandS.TupSets
import HandS.Walk
import HandS.WordsExc
import HandS.Zip
import KE.KSortedM
import KE.KStateDown
import PySem.Challenge.RW_evenmeet_k62_whole_answers
set_option Elab.async false
set_option linter.all false
set_option maxRecDepth 100000
set_option maxHeartbeats 2000000
namespace EM
open PySem PySem.Spec PyProof.Rows L2
/-! data, without the heap -/
inductive D where
  | non | bl (b : Bool) | int (i : Int) | str (x : Str) | tup (xs : List D) | lst (xs : List D) | fld (p r : D) | scr (ns : List Int) | kt (xs : List D)
mutual
inductive Rep (K : PySem.W.Frag) (F : Hp) : V → D → Prop
  | non : Rep K F .non .non
  | bl (b : Bool) : Rep K F (.bl b) (.bl b)
  | int (i : Int) : Rep K F (.int i) (.int i)
  | str (x : Str) : Rep K F (.str x) (.str x)
  | tup {a : Addr} {xs : List V} {ds : List D} : F a = some (.tup xs) → RepAll K F xs ds → Rep K F (.ref a) (.tup ds)
  | kt {a : Addr} {xs : List V} {ds : List D} : SqT K F a xs → RepAll K F xs ds → Rep K F (.ref a) (.kt ds)
  | lst {a : Addr} {xs : List V} {ds : List D} : F a = some (.lst xs) → RepAll K F xs ds → Rep K F (.ref a) (.lst ds)
  | fld {a C dx : Addr} {vp vr : V} {p r : D} : PySem.W.nsIn K mainGlobals "Field" = some (some (.ref C)) → F a = some (.ins C dx [(("p" : Str), vp), (("row" : Str), vr)]) → Rep K F vp p → Rep K F vr r → Rep K F (.ref a) (.fld p r)
  | scr {a : Addr} {ns : List Int} : SqL K F a (ns.map V.int) → Rep K F (.ref a) (.scr ns)
inductive RepAll (K : PySem.W.Frag) (F : Hp) : List V → List D → Prop
  | nil : RepAll K F [] []
  | cons {v : V} {vs : List V} {d : D} {ds : List D} : Rep K F v d → RepAll K F vs ds → RepAll K F (v :: vs) (d :: ds)
end
theorem Same.tup {K : PySem.W.Frag} {H H' : Hp} {a : Addr} {xs : List V} (e : Same H H') (h : SqT K H a xs) : SqT K H' a xs := by
  rcases h with (h | ⟨o, h⟩) | h
  · exact .inl (.inl (e _ _ h))
  · exact .inl (.inr ⟨o, e _ _ h⟩)
  · exact .inr h
mutual
theorem Rep.mono {K : PySem.W.Frag} {F F' : Hp} (s : Same F F') : ∀ (d : D) (v : V), Rep K F v d → Rep K F' v d
  | .non, _, h => by cases h; exact .non
  | .bl b, _, h => by cases h; exact .bl b
  | .int i, _, h => by cases h; exact .int i
  | .str x, _, h => by cases h; exact .str x
  | .tup ds, _, h => by
    cases h with
    | tup h1 h2 => exact .tup (s _ _ h1) (RepAll.mono s ds _ h2)
  | .kt ds, _, h => by
    cases h with
    | kt h1 h2 => exact .kt (Same.tup s h1) (RepAll.mono s ds _ h2)
  | .lst ds, _, h => by
    cases h with
    | lst h1 h2 => exact .lst (s _ _ h1) (RepAll.mono s ds _ h2)
  | .fld p r, _, h => by
    cases h with
    | fld h0 h1 h2 h3 => exact .fld h0 (s _ _ h1) (Rep.mono s p _ h2) (Rep.mono s r _ h3)
  | .scr ns, _, h => by
    cases h with
    | scr h1 => exact .scr (Same.seq s h1)
theorem RepAll.mono {K : PySem.W.Frag} {F F' : Hp} (s : Same F F') : ∀ (ds : List D) (vs : List V), RepAll K F vs ds → RepAll K F' vs ds
  | [], _, h => by cases h; exact .nil
  | d :: ds, _, h => by
    cases h with
    | cons h1 h2 => exact .cons (Rep.mono s d _ h1) (RepAll.mono s ds _ h2)
end
theorem Rep.up {K : PySem.W.Frag} {F F' : Hp} {d : D} {v : V} (h : Rep K F v d) (s : Same F F') : Rep K F' v d := Rep.mono s d v h
theorem RepAll.up {K : PySem.W.Frag} {F F' : Hp} {d : List D} {v : List V} (h : RepAll K F v d) (s : Same F F') : RepAll K F' v d := RepAll.mono s d v h
section
variable {K : PySem.W.Frag} {F : Hp}
theorem RepAll.length : ∀ {vs : List V} {ds : List D}, RepAll K F vs ds → vs.length = ds.length
  | [], [], _ => rfl
  | _ :: _, _ :: _, h => by
    cases h with
    | cons _ h2 => simp [RepAll.length h2]
  | [], _ :: _, h => by cases h
  | _ :: _, [], h => by cases h
theorem RepAll.get : ∀ {vs : List V} {ds : List D} {i : Nat} {d : D}, RepAll K F vs ds → ds[i]? = some d → ∃ v, vs[i]? = some v ∧ Rep K F v d
  | [], [], i, d, _, h => by simp at h
  | v :: vs, e :: ds, 0, d, h, q => by
    cases h with
    | cons h1 _ =>
      have e1 : e = d := Option.some.inj q
      subst e1
      exact ⟨v, rfl, h1⟩
  | v :: vs, e :: ds, i + 1, d, h, q => by
    cases h with
    | cons _ h2 => exact RepAll.get (i := i) h2 q
  | [], _ :: _, _, _, h, _ => by cases h
  | _ :: _, [], _, _, h, _ => by cases h
theorem RepAll.getV : ∀ {vs : List V} {ds : List D} {i : Nat} {v : V}, RepAll K F vs ds → vs[i]? = some v → ∃ d, ds[i]? = some d ∧ Rep K F v d
  | [], [], i, d, _, h => by simp at h
  | v :: vs, e :: ds, 0, d, h, q => by
    cases h with
    | cons h1 _ =>
      have e1 : v = d := Option.some.inj q
      subst e1
      exact ⟨e, rfl, h1⟩
  | v :: vs, e :: ds, i + 1, d, h, q => by
    cases h with
    | cons _ h2 => exact RepAll.getV (i := i) h2 q
  | [], _ :: _, _, _, h, _ => by cases h
  | _ :: _, [], _, _, h, _ => by cases h
theorem RepAll.app : ∀ {vs ws : List V} {ds es : List D}, RepAll K F vs ds → RepAll K F ws es → RepAll K F (vs ++ ws) (ds ++ es)
  | [], _, [], _, _, h => h
  | _ :: _, _, _ :: _, _, h, q => by
    cases h with
    | cons h1 h2 => exact .cons h1 (RepAll.app h2 q)
  | [], _, _ :: _, _, h, _ => by cases h
  | _ :: _, _, [], _, h, _ => by cases h
theorem RepAll.one {v : V} {d : D} (h : Rep K F v d) : RepAll K F [v] [d] := .cons h .nil
theorem RepAll.set : ∀ {vs : List V} {ds : List D} {v : V} {d : D} (i : Nat), RepAll K F vs ds → Rep K F v d → RepAll K F (vs.set i v) (ds.set i d)
  | [], [], _, _, _, h, _ => by simpa using h
  | _ :: _, _ :: _, _, _, 0, h, q => by
    cases h with
    | cons _ h2 => exact .cons q h2
  | _ :: _, _ :: _, _, _, i + 1, h, q => by
    cases h with
    | cons h1 h2 => exact .cons h1 (RepAll.set i h2 q)
  | [], _ :: _, _, _, _, h, _ => by cases h
  | _ :: _, [], _, _, _, h, _ => by cases h
theorem RepAll.take : ∀ {vs : List V} {ds : List D} (i : Nat), RepAll K F vs ds → RepAll K F (vs.take i) (ds.take i)
  | _, _, 0, h => by simpa using RepAll.nil
  | [], [], _ + 1, h => by simpa using h
  | _ :: _, _ :: _, i + 1, h => by
    cases h with
    | cons h1 h2 => exact .cons h1 (RepAll.take i h2)
  | [], _ :: _, _ + 1, h => by cases h
  | _ :: _, [], _ + 1, h => by cases h
theorem RepAll.drop : ∀ {vs : List V} {ds : List D} (i : Nat), RepAll K F vs ds → RepAll K F (vs.drop i) (ds.drop i)
  | _, _, 0, h => by simpa using h
  | [], [], _ + 1, h => by simpa using h
  | _ :: _, _ :: _, i + 1, h => by
    cases h with
    | cons h1 h2 => exact RepAll.drop i h2
  | [], _ :: _, _ + 1, h => by cases h
  | _ :: _, [], _ + 1, h => by cases h
theorem RepAll.erase : ∀ {vs : List V} {ds : List D} (i : Nat), RepAll K F vs ds → RepAll K F (vs.eraseIdx i) (ds.eraseIdx i)
  | [], [], _, h => by simpa using h
  | _ :: _, _ :: _, 0, h => by
    cases h with
    | cons h1 h2 => exact h2
  | _ :: _, _ :: _, i + 1, h => by
    cases h with
    | cons h1 h2 => exact .cons h1 (RepAll.erase i h2)
  | [], _ :: _, _, h => by cases h
  | _ :: _, [], _, h => by cases h
theorem RepAll.rev : ∀ {vs : List V} {ds : List D}, RepAll K F vs ds → RepAll K F vs.reverse ds.reverse
  | [], [], h => h
  | _ :: _, _ :: _, h => by
    cases h with
    | cons h1 h2 =>
      rw [List.reverse_cons, List.reverse_cons]
      exact (RepAll.rev h2).app (.one h1)
  | [], _ :: _, h => by cases h
  | _ :: _, [], h => by cases h
theorem RepAll.rep : ∀ {vs : List V} {ds : List D} (n : Nat), RepAll K F vs ds → RepAll K F (List.replicate n vs).flatten (List.replicate n ds).flatten
  | _, _, 0, _ => by simpa using RepAll.nil
  | vs, ds, n + 1, h => by
    rw [List.replicate_succ, List.replicate_succ, List.flatten_cons, List.flatten_cons]
    exact h.app (RepAll.rep n h)
theorem RepAll.ints : ∀ (ns : List Int), RepAll K F (ns.map V.int) (ns.map D.int)
  | [] => .nil
  | n :: ns => .cons (.int n) (RepAll.ints ns)
theorem RepAll.intsOf : ∀ {vs : List V} {ns : List Int}, RepAll K F vs (ns.map D.int) → vs = ns.map V.int
  | _, [], h => by cases h; rfl
  | _, n :: ns, h => by
    cases h with
    | cons h1 h2 =>
      cases h1
      rw [RepAll.intsOf h2]
      rfl
theorem RepAll.blsOf : ∀ {vs : List V} {ns : List Bool}, RepAll K F vs (ns.map D.bl) → vs = ns.map V.bl
  | _, [], h => by cases h; rfl
  | _, n :: ns, h => by
    cases h with
    | cons h1 h2 =>
      cases h1
      rw [RepAll.blsOf h2]
      rfl
end
def tupOf : D → Option (List D)
  | .tup ds => some ds
  | .kt ds => some ds
  | _ => none
def lstOf : D → Option (List D)
  | .lst ds => some ds
  | .scr ns => some (ns.map D.int)
  | _ => none
theorem Rep.tupOf {K : PySem.W.Frag} {F : Hp} {v : V} {d : D} {ds : List D} (h : Rep K F v d) (e : tupOf d = some ds) : ∃ a xs, v = .ref a ∧ SqT K F a xs ∧ RepAll K F xs ds := by
  cases h with
  | tup h1 h2 => cases e; exact ⟨_, _, rfl, .of h1, h2⟩
  | kt h1 h2 => cases e; exact ⟨_, _, rfl, h1, h2⟩
  | _ => cases e
theorem Rep.lstOf {K : PySem.W.Frag} {F : Hp} {v : V} {d : D} {ds : List D} (h : Rep K F v d) (e : lstOf d = some ds) : ∃ a xs, v = .ref a ∧ SqL K F a xs ∧ RepAll K F xs ds := by
  cases h with
  | lst h1 h2 => cases e; exact ⟨_, _, rfl, .of h1, h2⟩
  | scr h1 => cases e; exact ⟨_, _, rfl, h1, .ints _⟩
  | _ => cases e
/-! how heaps go on: F the part that stands still for ever -/
structure Ext (M : Addr → Prop) (F H F' H' : Hp) : Prop where
  sub : Same F F'
  sup : Same F' H'
  keep : ∀ a o, ¬ M a → H a = some o → H' a = some o
  new : ∀ a o, F' a = some o → F a = none → H a = none
  mu : ∀ a, M a → F' a = none ∧ H' a ≠ none
abbrev No : Addr → Prop := fun _ => False
theorem Ext.refl {F H : Hp} (s : Same F H) : Ext No F H F H := ⟨Same.refl F, s, fun _ _ _ h => h, fun a o h h' => (by rw [h] at h'; cases h'), fun _ h => h.elim⟩
theorem Ext.trans {M : Addr → Prop} {F H F1 H1 F2 H2 : Hp} (a : Ext M F H F1 H1) (b : Ext M F1 H1 F2 H2) : Ext M F H F2 H2 where
  sub := a.sub.trans b.sub
  sup := b.sup
  keep := fun x o hm h => b.keep x o hm (a.keep x o hm h)
  new := fun x o h h' => by
    cases e : F1 x with
    | some u => exact a.new x u e h'
    | none =>
      have q := b.new x o h e
      cases e2 : H x with
      | none => rfl
      | some u =>
        have nm : ¬ M x := fun hm => by
          rw [(b.mu x hm).1] at h
          cases h
        rw [a.keep x u nm e2] at q
        cases q
  mu := b.mu
/-- a step that changes nothing, behind one that may change M -/
theorem Ext.more {M : Addr → Prop} {F H F1 H1 F2 H2 : Hp} (a : Ext M F H F1 H1) (b : Ext No F1 H1 F2 H2) : Ext M F H F2 H2 := by
  refine a.trans ⟨b.sub, b.sup, fun x o _ h => b.keep x o (fun z => z) h, b.new, fun x hm => ?_⟩
  obtain ⟨m1, m2⟩ := a.mu x hm
  constructor
  · cases e : F2 x with
    | none => rfl
    | some o => exact absurd (b.new x o e m1) m2
  · cases e : H1 x with
    | none => exact absurd e m2
    | some o =>
      rw [b.keep x o (fun z => z) e]
      exact fun z => nomatch z
/-- a new thing is laid, to stand still -/
theorem Ext.lay {F H : Hp} (s : Same F H) {p : Addr} {o : HO} (hp : H p = none) : Ext No F H (upd F p o) (upd H p o) where
  sub := fun b u e => by
    rw [upd_ne (ne_of_none (s _ _ e) hp)]
    exact e
  sup := fun b u e => by
    by_cases hb : b = p
    · subst hb
      rw [upd_same] at e ⊢
      exact e
    · rw [upd_ne hb] at e ⊢
      exact s _ _ e
  keep := fun b u _ e => by
    rw [upd_ne (ne_of_none e hp)]
    exact e
  new := fun b u e e' => by
    by_cases hb : b = p
    · subst hb
      exact hp
    · rw [upd_ne hb, e'] at e
      cases e
  mu := fun _ h => h.elim
theorem Ext.free {F H F' H' : Hp} (e : Ext No F H F' H') {a : Addr} {o : HO} (h : H a = some o) (f : F a = none) : F' a = none := by
  cases q : F' a with
  | none => rfl
  | some u =>
    rw [e.new a u q f] at h
    cases h
theorem free_of {F H : Hp} (s : Same F H) {a : Addr} (h : H a = none) : F a = none := s.free h
end EM
set_option maxHeartbeats 2000000
namespace EM
open PySem PySem.Spec PyProof.Rows L2
abbrev St := L2.St
/-- what is lent (a Search and its dict, or a dict), and a part of the heap that stands still -/
structure Bor where
  lent : Option (Addr × Addr)
  anc : Hp
def MO : Option (Addr × Addr) → Addr → Prop
  | none, _ => False
  | some (x, d), a => a = x ∨ a = d
abbrev MB (B : Bor) : Addr → Prop := MO B.lent
abbrev Mp := List ((Int × Int) × Int)
def kvs (m : Mp) : List (List Key × V) := m.map fun p => ([Sum.inl p.1.1, Sum.inl p.1.2], V.int p.2)
/-- what a Search holds -/
structure SS where
  width : Int
  spots : Int
  most : Int
  left : Int
  often : Mp
def flds (S : SS) (dd : Addr) : List (Str × V) := [(("width" : Str), .int S.width), (("spots" : Str), .int S.spots), (("most" : Str), .int S.most), (("left" : Str), .int S.left), (("often" : Str), .ref dd)]
/-- whose a mutable thing is: made here, lent by the caller, or only read -/
inductive Md where
  | own | lent | read
inductive EV where
  | fz (d : D) | own (ds : List D) | dct (b : Md) (m : Mp) | slf (b : Md) (S : SS)
abbrev Env := List (Option EV)
def mutE : EV → Bool
  | .fz _ => false
  | _ => true
def EvOk (K : PySem.W.Frag) (B : Bor) (H0 F H : Hp) (v : V) : EV → Prop
  | .fz d => Rep K F v d
  | .own ds => ∃ p xs, v = .ref p ∧ H p = some (.lst xs) ∧ F p = none ∧ H0 p = none ∧ RepAll K F xs ds
  | .dct b m => ∃ p, v = .ref p ∧ H p = some (.dT (kvs m)) ∧ F p = none ∧ (match b with
    | .own => H0 p = none
    | .lent => ∃ x, B.lent = some (x, p)
    | .read => True)
  | .slf b S => ∃ x dx dd C, v = .ref x ∧ (match b with
    | .own => False
    | .lent => B.lent = some (x, dd)
    | .read => True) ∧ PySem.W.nsIn K mainGlobals "Search" = some (some (.ref C)) ∧ H x = some (.ins C dx (flds S dd)) ∧ H dd = some (.dT (kvs S.often)) ∧ F x = none ∧ F dd = none
structure SR (K : PySem.W.Frag) (B : Bor) (F0 H0 F H : Hp) (σ : St) (env : Env) : Prop where
  ext : Ext (MB B) F0 H0 F H
  len : σ.length = env.length
  slot : ∀ (i : Nat) (e : EV), env[i]? = some (some e) → ∃ v, σ[i]? = some (some v) ∧ EvOk K B H0 F H v e
  live : ∀ a, MB B a → H0 a ≠ none
  anc : Same B.anc F
  sep : ∀ (i j : Nat) (e e' : EV) (p : Addr), i ≠ j → env[i]? = some (some e) → mutE e = true → σ[i]? = some (some (.ref p)) → env[j]? = some (some e') → mutE e' = true → σ[j]? ≠ some (some (.ref p))
section
variable {K : PySem.W.Frag} {B : Bor} {F0 H0 F H F' H' : Hp} {σ σ' : St} {env env' : Env}
theorem EvOk.ext {v : V} {e : EV} (h : EvOk K B H0 F H v e) (x : Ext No F H F' H') : EvOk K B H0 F' H' v e := by
  cases e with
  | fz d => exact Rep.up h x.sub
  | own ds =>
    obtain ⟨p, xs, e, h1, h2, h3, h4⟩ := h
    exact ⟨p, xs, e, x.keep _ _ (fun z => z) h1, x.free h1 h2, h3, h4.up x.sub⟩
  | dct b m =>
    obtain ⟨p, e, h1, h2, h3⟩ := h
    exact ⟨p, e, x.keep _ _ (fun z => z) h1, x.free h1 h2, h3⟩
  | slf b S =>
    obtain ⟨y, dx, dd, C, e, h1, h2, h3, h4, h5, h6⟩ := h
    exact ⟨y, dx, dd, C, e, h1, h2, x.keep _ _ (fun z => z) h3, x.keep _ _ (fun z => z) h4, x.free h3 h5, x.free h4 h6⟩
theorem SR.go (s : SR K B F0 H0 F H σ env) (x : Ext No F H F' H') : SR K B F0 H0 F' H' σ env :=
  ⟨s.ext.more x, s.len, fun i e h => let ⟨v, h1, h2⟩ := s.slot i e h; ⟨v, h1, h2.ext x⟩, s.live, s.anc.trans x.sub, s.sep⟩
theorem SR.sup (s : SR K B F0 H0 F H σ env) : Same F H := s.ext.sup
theorem SR.here (s : SR K B F0 H0 F H σ env) : Ext No F H F H := .refl s.ext.sup
theorem EvOk.anc {A : Hp} {v : V} {e : EV} (h : EvOk K B H0 F H v e) : EvOk K ⟨B.lent, A⟩ H0 F H v e := by
  cases e <;> exact h
theorem SR.anch (s : SR K B F0 H0 F H σ env) {A : Hp} (h : Same A F) : SR K ⟨B.lent, A⟩ F0 H0 F H σ env :=
  ⟨s.ext, s.len, fun i e q => let ⟨v, h1, h2⟩ := s.slot i e q; ⟨v, h1, h2.anc⟩, s.live, h, s.sep⟩
/-- a slot takes frozen data -/
theorem SR.set (s : SR K B F0 H0 F H σ env) (i : Nat) {v : V} {d : D} (r : Rep K F v d) : SR K B F0 H0 F H (σ.set i (some v)) (env.set i (some (.fz d))) := by
  refine ⟨s.ext, by simp [s.len], fun j e h => ?_, s.live, s.anc, fun j k e e' p hjk h1 m1 h2 h3 m3 => ?_⟩
  · by_cases hij : i = j
    · subst hij
      by_cases hi : i < env.length
      · rw [List.getElem?_set_self hi] at h
        cases h
        exact ⟨v, by rw [List.getElem?_set_self (by rw [s.len]; exact hi)], r⟩
      · rw [List.getElem?_eq_none (by simp; omega)] at h
        cases h
    · rw [List.getElem?_set_ne hij] at h
      obtain ⟨w, h1, h2⟩ := s.slot j e h
      exact ⟨w, by rw [List.getElem?_set_ne hij]; exact h1, h2⟩
  · have nij : ∀ {l : Nat} {e : EV}, (env.set i (some (.fz d)))[l]? = some (some e) → mutE e = true → i ≠ l := fun {l e} h m z => by
      subst z
      by_cases hi : i < env.length
      · rw [List.getElem?_set_self hi] at h
        cases h
        cases m
      · rw [List.getElem?_eq_none (by simp; omega)] at h
        cases h
    have n1 := nij h1 m1
    have n3 := nij h3 m3
    rw [List.getElem?_set_ne n1] at h1 h2
    rw [List.getElem?_set_ne n3] at h3 ⊢
    exact s.sep j k e e' p hjk h1 m1 h2 h3 m3
/-- a slot takes a new mutable thing at p -/
theorem SR.setNew (s : SR K B F0 H0 F H σ env) (i : Nat) {p : Addr} {o : HO} {e : EV} (hp : H p = none) (me : mutE e = true) (r : EvOk K B H0 F (upd H p o) (.ref p) e) : SR K B F0 H0 F (upd H p o) (σ.set i (some (.ref p))) (env.set i (some e)) := by
  have hF : F p = none := free_of s.ext.sup hp
  have x1 : Same F (upd H p o) := fun b u q => by
    rw [upd_ne (ne_of_none q hF)]
    exact s.ext.sup _ _ q
  have x2 : Same H (upd H p o) := fun b u q => by
    rw [upd_ne (ne_of_none q hp)]
    exact q
  have x : Ext No F H F (upd H p o) := ⟨Same.refl F, x1, fun b u _ q => x2 b u q, fun b u q q' => (by rw [q] at q'; cases q'), fun _ h => h.elim⟩
  have s1 := s.go x
  have live : ∀ {l : Nat} {e' : EV} {q : Addr}, env[l]? = some (some e') → mutE e' = true → σ[l]? = some (some (.ref q)) → ∃ u, H q = some u := fun {l e' q} h m hq => by
    obtain ⟨v, h1, h2⟩ := s.slot l e' h
    rw [hq] at h1
    cases h1
    cases e' with
    | fz d => cases m
    | own ds => obtain ⟨p, xs, e, h3, _⟩ := h2; cases e; exact ⟨_, h3⟩
    | dct b m => obtain ⟨p, e, h3, _⟩ := h2; cases e; exact ⟨_, h3⟩
    | slf b S => obtain ⟨y, dx, dd, C, e, _, _, h3, _⟩ := h2; cases e; exact ⟨_, h3⟩
  refine ⟨s1.ext, by simp [s.len], fun j e' h => ?_, s.live, s.anc, fun j k e1 e2 q hjk h1 m1 h2 h3 m3 => ?_⟩
  · by_cases hij : i = j
    · subst hij
      by_cases hi : i < env.length
      · rw [List.getElem?_set_self hi] at h
        cases h
        exact ⟨.ref p, by rw [List.getElem?_set_self (by rw [s.len]; exact hi)], r⟩
      · rw [List.getElem?_eq_none (by simp; omega)] at h
        cases h
    · rw [List.getElem?_set_ne hij] at h
      obtain ⟨w, h1, h2⟩ := s1.slot j e' h
      exact ⟨w, by rw [List.getElem?_set_ne hij]; exact h1, h2⟩
  · by_cases z1 : i = j
    · have n2 : i ≠ k := fun z => hjk (z1.symm.trans z)
      rw [List.getElem?_set_ne n2] at h3 ⊢
      intro hq
      obtain ⟨u, hu⟩ := live h3 m3 hq
      subst z1
      have hi : i < σ.length := by
        rcases Nat.lt_or_ge i σ.length with h | h
        · exact h
        · rw [List.getElem?_eq_none (by simp; omega)] at h2
          cases h2
      rw [List.getElem?_set_self hi] at h2
      cases h2
      rw [hp] at hu
      cases hu
    · rw [List.getElem?_set_ne z1] at h1 h2
      by_cases z2 : i = k
      · subst z2
        intro hq
        have hi : i < σ.length := by
          rcases Nat.lt_or_ge i σ.length with h | h
          · exact h
          · rw [List.getElem?_eq_none (by simp; omega)] at hq
            cases hq
        rw [List.getElem?_set_self hi] at hq
        cases hq
        obtain ⟨u, hu⟩ := live h1 m1 h2
        rw [hp] at hu
        cases hu
      · rw [List.getElem?_set_ne z2] at h3 ⊢
        exact s.sep j k e1 e2 q hjk h1 m1 h2 h3 m3
/-- the thing of a mutable slot is written -/
theorem SR.write (s : SR K B F0 H0 F H σ env) {i : Nat} {p : Addr} {o : HO} {e e1 : EV} (he : env[i]? = some (some e)) (me : mutE e = true) (hv : σ[i]? = some (some (.ref p))) (m1 : mutE e1 = true)
    (hF : F p = none) (hm : H0 p = none ∨ MB B p) (nx : ∀ (j : Nat) (b : Md) (S : SS), i ≠ j → env[j]? = some (some (.slf b S)) → ∃ xs, H p = some (.lst xs)) (r : EvOk K B H0 F (upd H p o) (.ref p) e1) : SR K B F0 H0 F (upd H p o) σ (env.set i (some e1)) := by
  have x1 : Same F (upd H p o) := fun b u q => by
    rw [upd_ne (ne_of_none q hF)]
    exact s.ext.sup _ _ q
  refine ⟨⟨s.ext.sub, x1, fun b u hb q => ?_, s.ext.new, fun b hb => ⟨(s.ext.mu b hb).1, ?_⟩⟩, by simp [s.len], fun j e' h => ?_, s.live, s.anc, fun j k ea eb q hjk h1 ma h2 h3 mb => ?_⟩
  · have ne : b ≠ p := fun z => by
      subst z
      rcases hm with h | h
      · rw [q] at h
        cases h
      · exact hb h
    rw [upd_ne ne]
    exact s.ext.keep b u hb q
  · by_cases hbp : b = p
    · subst hbp
      rw [upd_same]
      exact fun z => nomatch z
    · rw [upd_ne hbp]
      exact (s.ext.mu b hb).2
  · by_cases hij : i = j
    · subst hij
      have hi : i < env.length := (List.getElem?_eq_some_iff.mp he).1
      rw [List.getElem?_set_self hi] at h
      cases h
      exact ⟨.ref p, hv, r⟩
    · rw [List.getElem?_set_ne hij] at h
      obtain ⟨w, h1, h2⟩ := s.slot j e' h
      refine ⟨w, h1, ?_⟩
      have sep : mutE e' = true → w ≠ .ref p := fun m z => s.sep i j e e' p hij he me hv h m (by rw [h1, z])
      cases e' with
      | fz d => exact h2
      | own ds =>
        obtain ⟨q, xs, e, h3, h4⟩ := h2
        have : q ≠ p := fun z => sep rfl (by rw [e, z])
        exact ⟨q, xs, e, by rw [upd_ne this]; exact h3, h4⟩
      | dct b m =>
        obtain ⟨q, e, h3, h4⟩ := h2
        have : q ≠ p := fun z => sep rfl (by rw [e, z])
        exact ⟨q, e, by rw [upd_ne this]; exact h3, h4⟩
      | slf b S =>
        obtain ⟨ys, hy⟩ := nx j b S hij h
        obtain ⟨y, dx, dd, C, e, g1, g2, g3, g4, g5, g6⟩ := h2
        have n1 : y ≠ p := fun z => by rw [z, hy] at g3; cases g3
        have n2 : dd ≠ p := fun z => by rw [z, hy] at g4; cases g4
        exact ⟨y, dx, dd, C, e, g1, g2, by rw [upd_ne n1]; exact g3, by rw [upd_ne n2]; exact g4, g5, g6⟩
  · have mu1 : ∀ {l : Nat} {e' : EV}, (env.set i (some e1))[l]? = some (some e') → mutE e' = true → ∃ e'', env[l]? = some (some e'') ∧ mutE e'' = true := fun {l e'} h m => by
      by_cases hij : i = l
      · subst hij
        exact ⟨e, he, me⟩
      · rw [List.getElem?_set_ne hij] at h
        exact ⟨e', h, m⟩
    obtain ⟨e2, g1, g2⟩ := mu1 h1 ma
    obtain ⟨e3, g3, g4⟩ := mu1 h3 mb
    exact s.sep j k e2 e3 q hjk g1 g2 h2 g3 g4
/-- an own list is frozen -/
theorem SR.freeze (s : SR K B F0 H0 F H σ env) {i : Nat} {ds : List D} (he : env[i]? = some (some (.own ds))) : ∃ F', SR K B F0 H0 F' H σ (env.set i (some (.fz (.lst ds)))) := by
  obtain ⟨v, hv, p, xs, e, h1, h2, h3, h4⟩ := s.slot i _ he
  subst e
  have sb : Same F (upd F p (.lst xs)) := fun b u q => by
    rw [upd_ne (ne_of_none q h2)]
    exact q
  have hi : i < env.length := (List.getElem?_eq_some_iff.mp he).1
  have x1 : Same (upd F p (.lst xs)) H := fun b u q => by
    by_cases hb : b = p
    · subst hb
      rw [upd_same] at q
      cases q
      exact h1
    · rw [upd_ne hb] at q
      exact s.ext.sup _ _ q
  have nM : ∀ {b}, MB B b → b ≠ p := fun {b} hb z => by
    subst z
    exact s.live b hb h3
  refine ⟨upd F p (.lst xs), ⟨s.ext.sub.trans sb, x1, s.ext.keep, fun b u q q' => ?_, fun b hb => ⟨?_, (s.ext.mu b hb).2⟩⟩, by simp [s.len], fun j e' h => ?_, s.live, s.anc.trans sb, fun j k ea eb q hjk g1 ma g2 g3 mb => ?_⟩
  · by_cases hb : b = p
    · subst hb
      exact h3
    · rw [upd_ne hb] at q
      exact s.ext.new b u q q'
  · rw [upd_ne (nM hb)]
    exact (s.ext.mu b hb).1
  · by_cases hij : i = j
    · subst hij
      rw [List.getElem?_set_self hi] at h
      cases h
      exact ⟨.ref p, hv, .lst upd_same (h4.up sb)⟩
    · rw [List.getElem?_set_ne hij] at h
      obtain ⟨w, g1, g2⟩ := s.slot j e' h
      refine ⟨w, g1, ?_⟩
      have sep : mutE e' = true → w ≠ .ref p := fun m z => s.sep i j _ e' p hij he rfl hv h m (by rw [g1, z])
      cases e' with
      | fz d => exact Rep.up g2 sb
      | own ds =>
        obtain ⟨q, ys, e, g3, g4, g5, g6⟩ := g2
        have : q ≠ p := fun z => sep rfl (by rw [e, z])
        exact ⟨q, ys, e, g3, by rw [upd_ne this]; exact g4, g5, g6.up sb⟩
      | dct b m =>
        obtain ⟨q, e, g3, g4, g5⟩ := g2
        have : q ≠ p := fun z => sep rfl (by rw [e, z])
        exact ⟨q, e, g3, by rw [upd_ne this]; exact g4, g5⟩
      | slf b S =>
        obtain ⟨y, dx, dd, C, e, g1, g2, g3, g4, g5, g6⟩ := g2
        have n1 : y ≠ p := fun z => by rw [z, h1] at g3; cases g3
        have n2 : dd ≠ p := fun z => by rw [z, h1] at g4; cases g4
        exact ⟨y, dx, dd, C, e, g1, g2, g3, g4, by rw [upd_ne n1]; exact g5, by rw [upd_ne n2]; exact g6⟩
  · have mu1 : ∀ {l : Nat} {e' : EV}, (env.set i (some (.fz (.lst ds))))[l]? = some (some e') → mutE e' = true → env[l]? = some (some e') := fun {l e'} h m => by
      by_cases hij : i = l
      · subst hij
        rw [List.getElem?_set_self hi] at h
        cases h
        cases m
      · rw [List.getElem?_set_ne hij] at h
        exact h
    exact s.sep j k ea eb q hjk (mu1 g1 ma) ma g2 (mu1 g3 mb) mb
end
end EM
set_option maxHeartbeats 2000000
namespace EM
open PySem PySem.Spec PyProof.Rows L2
/-! readings by data -/
def tD (K : PySem.W.Frag) (f : Env → Option D) : TE := fun σ H Q => ∃ B F0 H0 F env d, SR K B F0 H0 F H σ env ∧ f env = some d ∧ ∀ F' H' v, Ext No F H F' H' → Rep K F' v d → Q v H'
/-- a new list, not yet to stand still -/
def tN (K : PySem.W.Frag) (f : Env → Option (List D)) : TE := fun σ H Q => ∃ B F0 H0 F env ds, SR K B F0 H0 F H σ env ∧ f env = some ds ∧ ∀ F' H' p xs, Ext No F H F' H' → H' p = none → RepAll K F' xs ds → Q (.ref p) (upd H' p (.lst xs))
def tT (K : PySem.W.Frag) (f : Env → Option Bool) : TT := fun σ H Q => ∃ B F0 H0 F env b, SR K B F0 H0 F H σ env ∧ f env = some b ∧ ∀ F' H', Ext No F H F' H' → Q b H'
def tA (K : PySem.W.Frag) (f : Env → Option (List D)) : TA := fun σ H Q => ∃ B F0 H0 F env ds, SR K B F0 H0 F H σ env ∧ f env = some ds ∧ ∀ F' H' vs, Ext No F H F' H' → RepAll K F' vs ds → Q vs H'
inductive Res where
  | nx (e : Env) | rt (e : Env) (d : D) | bk (e : Env) | ct (e : Env)
def Post (K : PySem.W.Frag) (B : Bor) (F0 H0 : Hp) (Dn : Ends) : Res → Prop
  | .nx e => ∀ σ' F' H', SR K B F0 H0 F' H' σ' e → Dn.nx σ' H'
  | .rt e d => ∀ σ' F' H' v, SR K B F0 H0 F' H' σ' e → Rep K F' v d → Dn.rt v H'
  | .bk e => ∀ σ' F' H', SR K B F0 H0 F' H' σ' e → Dn.bk σ' H'
  | .ct e => ∀ σ' F' H', SR K B F0 H0 F' H' σ' e → Dn.ct σ' H'
def tS (K : PySem.W.Frag) (f : Env → Option Res) : TS := fun Dn σ H => ∃ B F0 H0 F env r, SR K B F0 H0 F H σ env ∧ f env = some r ∧ Post K B F0 H0 Dn r
section
variable {X : Cx} {e : Expr} {es : List Expr}
theorem PE.imp {t t' : TE} (h : PE X e t) (w : ∀ σ H Q, t' σ H Q → t σ H Q) : PE X e t' := ⟨fun pins s σ H Q I q => h.run pins s σ H Q I (w _ _ _ q)⟩
theorem PT.imp {t t' : TT} (h : PT X e t) (w : ∀ σ H Q, t' σ H Q → t σ H Q) : PT X e t' := ⟨fun pins s σ H Q I q => h.run pins s σ H Q I (w _ _ _ q)⟩
theorem PW.imp {t t' : TT} (h : PW X e t) (w : ∀ σ H Q, t' σ H Q → t σ H Q) : PW X e t' := ⟨fun wh pins s σ H Q I q => h.run wh pins s σ H Q I (w _ _ _ q)⟩
theorem PA.imp {t t' : TA} (h : PA X es t) (w : ∀ σ H Q, t' σ H Q → t σ H Q) : PA X es t' := ⟨fun pos pins s σ H Q I q => h.run pos pins s σ H Q I (w _ _ _ q)⟩
theorem PS.imp {st : Stmt} {t t' : TS} (h : PS X st t) (w : ∀ D σ H, t' D σ H → t D σ H) : PS X st t' := ⟨fun pins s σ H D I q => h.run pins s σ H D I (w _ _ _ q)⟩
theorem PSs.imp {st : List Stmt} {t t' : TS} (h : PSs X st t) (w : ∀ D σ H, t' D σ H → t D σ H) : PSs X st t' := ⟨fun pins s σ H D I q => h.run pins s σ H D I (w _ _ _ q)⟩
end
/-! combinators: no magic, so that the kernel runs them -/
def bnd {α β : Type} (x : Option α) (f : α → Option β) : Option β :=
  match x with
  | none => none
  | some a => f a
theorem bnd_some {α β : Type} {x : Option α} {f : α → Option β} {b : β} (h : bnd x f = some b) : ∃ a, x = some a ∧ f a = some b := by
  cases x with
  | none => cases h
  | some a => exact ⟨a, rfl, h⟩
@[simp] theorem bnd_some' {α β : Type} (a : α) (f : α → Option β) : bnd (some a) f = f a := rfl
@[simp] theorem bnd_none' {α β : Type} (f : α → Option β) : bnd none f = none := rfl
def dVar (i : Nat) : Env → Option D := fun env => match env[i]? with
  | some (some (.fz d)) => some d
  | _ => none
def dC (d : D) : Env → Option D := fun _ => some d
def bop (g : D → D → Option D) (fa fb : Env → Option D) : Env → Option D := fun env => bnd (fa env) fun x => bnd (fb env) fun y => g x y
def uop (g : D → Option D) (fa : Env → Option D) : Env → Option D := fun env => bnd (fa env) g
def aNil : Env → Option (List D) := fun _ => some []
def aCons (fa : Env → Option D) (fr : Env → Option (List D)) : Env → Option (List D) := fun env => bnd (fa env) fun x => bnd (fr env) fun xs => some (x :: xs)
/-- an operation by values does what g says by data -/
def DR2 (K : PySem.W.Frag) (r : R2) (g : D → D → Option D) : Prop := ∀ (F H : Hp) (x y : V) (dx dy d : D) (Q : VK), Same F H → Rep K F x dx → Rep K F y dy → g dx dy = some d → (∀ F' H' v, Ext No F H F' H' → Rep K F' v d → Q v H') → r x y H Q
def DR1 (K : PySem.W.Frag) (r : V → Hp → VK → Prop) (g : D → Option D) : Prop := ∀ (F H : Hp) (x : V) (dx d : D) (Q : VK), Same F H → Rep K F x dx → g dx = some d → (∀ F' H' v, Ext No F H F' H' → Rep K F' v d → Q v H') → r x H Q
/-- a call by values -/
def DRA (K : PySem.W.Frag) (r : List V → Hp → VK → Prop) (g : List D → Option D) : Prop := ∀ (F H : Hp) (xs : List V) (ds : List D) (d : D) (Q : VK), Same F H → RepAll K F xs ds → g ds = some d → (∀ F' H' v, Ext No F H F' H' → Rep K F' v d → Q v H') → r xs H Q
/-- .. that hands back a new list -/
def DRN (K : PySem.W.Frag) (r : List V → Hp → VK → Prop) (g : List D → Option (List D)) : Prop := ∀ (F H : Hp) (xs : List V) (ds : List D) (d : List D) (Q : VK), Same F H → RepAll K F xs ds → g ds = some d → (∀ F' H' p vs, Ext No F H F' H' → H' p = none → RepAll K F' vs d → Q (.ref p) (upd H' p (.lst vs))) → r xs H Q
section
variable {X : Cx} {a b c e : Expr} {es : List Expr} {pos : Pos} {fa fb fc : Env → Option D}
theorem tBop {K : PySem.W.Frag} {r : R2} {g : D → D → Option D} (hg : DR2 K r g) {σ : St} {H : Hp} {Q : VK} (h : tD K (bop g fa fb) σ H Q) : tOp r (tD K fa) (tD K fb) σ H Q := by
  obtain ⟨B, F0, H0, F, env, d, sr, hd, k⟩ := h
  obtain ⟨x, ex, hd⟩ := bnd_some hd
  obtain ⟨y, ey, hd⟩ := bnd_some hd
  refine ⟨B, F0, H0, F, env, x, sr, ex, fun F1 H1 v1 e1 r1 => ?_⟩
  refine ⟨B, F0, H0, F1, env, y, sr.go e1, ey, fun F2 H2 v2 e2 r2 => ?_⟩
  exact hg F2 H2 v1 v2 x y d Q e2.sup (r1.up e2.sub) r2 hd fun F3 H3 v e3 r3 => k F3 H3 v (e1.trans (e2.trans e3)) r3
theorem pd_op {op : Operator} {r : R2} {g : D → D → Option D} (ho : OpR X (binaryOp op) r) (hg : DR2 X.K r g) (ha : PE X a (tD X.K fa)) (hb : PE X b (tD X.K fb)) : PE X (.BinOp a op b pos) (tD X.K (bop g fa fb)) :=
  PE.imp (pe_op ho ha hb) fun _ _ _ h => tBop hg h
theorem pd_cmp {op : CmpOp} {r : R2} {g : D → D → Option D} (ho : OpR X (compareOp op) r) (hg : DR2 X.K r g) (ha : PE X a (tD X.K fa)) (hb : PE X b (tD X.K fb)) (hm : behindInMarks op b = false := by first | exact nomark _ | with_unfolding_all rfl) : PE X (.Compare a [op] [b] pos) (tD X.K (bop g fa fb)) :=
  PE.imp (pe_cmpR ho ha hb hm) fun _ _ _ h => tBop hg h
theorem pd_un {op : UnaryOp} {r : V → Hp → VK → Prop} {g : D → Option D} (ho : UnR X (unaryOp op) r) (hg : DR1 X.K r g) (ha : PE X a (tD X.K fa)) : PE X (.UnaryOp op a pos) (tD X.K (uop g fa)) := by
  refine PE.imp (pe_un ho ha) fun σ H Q h => ?_
  obtain ⟨B, F0, H0, F, env, d, sr, hd, k⟩ := h
  obtain ⟨x, ex, hd⟩ := bnd_some hd
  exact ⟨B, F0, H0, F, env, x, sr, ex, fun F1 H1 v1 e1 r1 => hg F1 H1 v1 x d Q e1.sup r1 hd fun F2 H2 v e2 r2 => k F2 H2 v (e1.trans e2) r2⟩
theorem pd_ix {r : R2} {g : D → D → Option D} (ho : IxR X r) (hg : DR2 X.K r g) (ha : PE X a (tD X.K fa)) (hb : PE X b (tD X.K fb)) (hs : PlainIx b := by exact fun _ _ => rfl) : PE X (.Subscript a b pos) (tD X.K (bop g fa fb)) :=
  PE.imp (pe_ix ho ha hb hs) fun _ _ _ h => tBop hg h
theorem pd_var (i : Nat) {x : Str} (hN : X.N[i]? = some x := by rfl) (hv : Vis X.env.scope x := by first | exact Or.inl rfl | exact Or.inr (Or.inl rfl) | exact Or.inr (Or.inr rfl)) (hd : (x == ("__debug__" : Str)) = false := by decide)
    (hcd : (x == ("__classdict__" : Str)) = false := by decide) : PE X (.Name x pos) (tD X.K (dVar i)) := by
  refine PE.imp (pe_var hN hv hd hcd) fun σ H Q h => ?_
  obtain ⟨B, F0, H0, F, env, d, sr, he, k⟩ := h
  unfold dVar at he
  split at he
  · rename_i d' e1
    cases he
    obtain ⟨v, h1, h2⟩ := sr.slot i _ e1
    exact ⟨v, h1, k F H v sr.here h2⟩
  · cases he
theorem pd_c {v : V} {d : D} (h : PE X e (tC v)) (r : ∀ F, Rep X.K F v d) : PE X e (tD X.K (dC d)) := by
  refine PE.imp h fun σ H Q h => ?_
  obtain ⟨B, F0, H0, F, env, d', sr, he, k⟩ := h
  cases he
  exact k F H v sr.here (r F)
theorem pd_int {i : Int} {j} : PE X (.Constant (.int i) j pos) (tD X.K (dC (.int i))) := pd_c pe_int fun _ => .int i
theorem pd_bl {b : Bool} {j} : PE X (.Constant (.bool b) j pos) (tD X.K (dC (.bl b))) := pd_c pe_bl fun _ => .bl b
theorem pd_non {j} : PE X (.Constant .none j pos) (tD X.K (dC .non)) := pd_c pe_non fun _ => .non
theorem pd_str {x : Str} {j} : PE X (.Constant (.str x) j pos) (tD X.K (dC (.str x))) := pd_c pe_str fun _ => .str x
theorem pd_glob {x : Str} {v : V} {u : Value} {d : D} (hg : Gl X x) (hm : X.mg x = some u) (r : RelV v u) (hr : ∀ F, Rep X.K F v d) (hd : (x == ("__debug__" : Str)) = false := by decide) : PE X (.Name x pos) (tD X.K (dC d)) := pd_c (pe_glob hg hm r hd) hr
theorem pda_nil : PA X [] (tA X.K aNil) := by
  refine PA.imp pa_nil fun σ H Q h => ?_
  obtain ⟨B, F0, H0, F, env, d, sr, he, k⟩ := h
  cases he
  exact k F H [] sr.here .nil
theorem pda_cons {fr : Env → Option (List D)} (ha : PE X e (tD X.K fa)) (hr : PA X es (tA X.K fr)) (hs : starEach (e :: es) X.env = (false, eval e X.env) :: starEach es X.env := by rfl) : PA X (e :: es) (tA X.K (aCons fa fr)) := by
  refine PA.imp (pa_cons ha hr hs) fun σ H Q h => ?_
  obtain ⟨B, F0, H0, F, env, d, sr, he, k⟩ := h
  obtain ⟨x, ex, he⟩ := bnd_some he
  obtain ⟨xs, exs, he⟩ := bnd_some he
  cases he
  refine ⟨B, F0, H0, F, env, x, sr, ex, fun F1 H1 v1 e1 r1 => ?_⟩
  refine ⟨B, F0, H0, F1, env, xs, sr.go e1, exs, fun F2 H2 vs e2 r2 => ?_⟩
  exact k F2 H2 (v1 :: vs) (e1.trans e2) (.cons (r1.up e2.sub) r2)
/-- a new list may stand still from now on -/
theorem pd_ofN {f : Env → Option (List D)} (h : PE X e (tN X.K f)) : PE X e (tD X.K fun env => bnd (f env) fun ds => some (.lst ds)) := by
  refine PE.imp h fun σ H Q h => ?_
  obtain ⟨B, F0, H0, F, env, d, sr, he, k⟩ := h
  obtain ⟨ds, ex, he⟩ := bnd_some he
  cases he
  refine ⟨B, F0, H0, F, env, ds, sr, ex, fun F1 H1 p xs e1 hp r1 => ?_⟩
  have l := Ext.lay e1.sup (o := .lst xs) hp
  exact k _ _ _ (e1.trans l) (.lst upd_same (r1.up l.sub))
/-! displays -/
def dTup (f : Env → Option (List D)) : Env → Option D := fun env => bnd (f env) fun ds => if ds.length ≤ 1000 then some (.tup ds) else none
def nLst (f : Env → Option (List D)) : Env → Option (List D) := fun env => bnd (f env) fun ds => if ds.length ≤ 1000 then some ds else none
theorem line_of {n : Nat} (h : n ≤ 1000) : n ≤ sizeLine := Nat.le_of_lt (small1000 h)
theorem pd_tup {f : Env → Option (List D)} {x1} (h : PA X es (tA X.K f)) : PE X (.Tuple es x1 pos) (tD X.K (dTup f)) := by
  refine PE.imp (pe_tup h) fun σ H Q h => ?_
  obtain ⟨B, F0, H0, F, env, d, sr, he, k⟩ := h
  obtain ⟨ds, ex, he⟩ := bnd_some he
  split at he
  · rename_i hl
    cases he
    refine ⟨B, F0, H0, F, env, ds, sr, ex, fun F1 H1 vs e1 r1 => ⟨by rw [r1.length]; exact line_of hl, fun p hp => ?_⟩⟩
    have l := Ext.lay e1.sup (o := .tup vs) hp
    exact k _ _ _ (e1.trans l) (.tup upd_same (r1.up l.sub))
  · cases he
theorem pn_lst {f : Env → Option (List D)} (h : PA X es (tA X.K f)) : PE X (.List es pos) (tN X.K (nLst f)) := by
  refine PE.imp (pe_lst h) fun σ H Q h => ?_
  obtain ⟨B, F0, H0, F, env, d, sr, he, k⟩ := h
  obtain ⟨ds, ex, he⟩ := bnd_some he
  split at he
  · rename_i hl
    cases he
    exact ⟨B, F0, H0, F, env, _, sr, ex, fun F1 H1 vs e1 r1 => ⟨by rw [r1.length]; exact line_of hl, fun p hp => k _ _ _ _ e1 hp r1⟩⟩
  · cases he
/-! tests -/
def tOfD (f : Env → Option D) : Env → Option Bool := fun env => match f env with
  | some (.bl b) => some b
  | _ => none
theorem tOfD_some {f : Env → Option D} {env : Env} {b : Bool} (h : tOfD f env = some b) : f env = some (.bl b) := by
  unfold tOfD at h
  split at h
  · rename_i b' e
    cases h
    exact e
  · cases h
theorem tTest_of {K : PySem.W.Frag} {f : Env → Option D} {t : TE} (ht : ∀ σ H Q, tD K f σ H Q → t σ H Q) {σ : St} {H : Hp} {Q : Bool → Hp → Prop} (h : tT K (tOfD f) σ H Q) : t σ H fun x H' => ∃ k, x = .bl k ∧ Q k H' := by
  obtain ⟨B, F0, H0, F, env, b, sr, he, k⟩ := h
  refine ht _ _ _ ⟨B, F0, H0, F, env, .bl b, sr, tOfD_some he, fun F1 H1 v e1 r1 => ?_⟩
  cases r1
  exact ⟨b, rfl, k F1 H1 e1⟩
theorem pdt_cmp {op : CmpOp} {r : R2} {g : D → D → Option D} (ho : OpR X (compareOp op) r) (hg : DR2 X.K r g) (ha : PE X a (tD X.K fa)) (hb : PE X b (tD X.K fb)) (hm : behindInMarks op b = false := by first | exact nomark _ | with_unfolding_all rfl) : PT X (.Compare a [op] [b] pos) (tT X.K (tOfD (bop g fa fb))) :=
  PT.imp (pt_cmpR ho ha hb hm) fun _ _ _ h => tTest_of (fun _ _ _ h => tBop hg h) h
theorem pdt_val {f : Env → Option D} (h : PE X e (tD X.K f)) (he : ∀ whole, isTrue e X.env whole = (do let v ← whole; standAt e.pos; holding [v] (truthy v)) := by intro _; rfl) : PT X e (tT X.K (tOfD f)) :=
  PT.imp (pt_val h he) fun _ _ _ h => tTest_of (fun _ _ _ h => h) h
def tAndD (f g : Env → Option Bool) : Env → Option Bool := fun env => bnd (f env) fun c => if c then g env else some false
def tOrD (f g : Env → Option Bool) : Env → Option Bool := fun env => bnd (f env) fun c => if c then some true else g env
def tNotD (f : Env → Option Bool) : Env → Option Bool := fun env => bnd (f env) fun c => some (!c)
variable {rest : List Expr} {tf tg : Env → Option Bool}
theorem pdt_not (ha : PT X a (tT X.K tf)) : PT X (.UnaryOp .Not a pos) (tT X.K (tNotD tf)) := by
  refine PT.imp (pt_not ha) fun σ H Q h => ?_
  obtain ⟨B, F0, H0, F, env, b, sr, he, k⟩ := h
  obtain ⟨c, ec, he⟩ := bnd_some he
  cases he
  exact ⟨B, F0, H0, F, env, c, sr, ec, fun F1 H1 e1 => k F1 H1 e1⟩
theorem pdw_and1 (ha : PT X a (tT X.K tf)) : PW X (.BoolOp .And [a] pos) (tT X.K tf) := pw_and1 ha
theorem pdw_or1 (ha : PT X a (tT X.K tf)) : PW X (.BoolOp .Or [a] pos) (tT X.K tf) := pw_or1 ha
theorem pdw_and (ha : PT X a (tT X.K tf)) (hb : PW X (.BoolOp .And (b :: rest) pos) (tT X.K tg)) : PW X (.BoolOp .And (a :: b :: rest) pos) (tT X.K (tAndD tf tg)) := by
  refine PW.imp (pw_and ha hb) fun σ H Q h => ?_
  obtain ⟨B, F0, H0, F, env, b, sr, he, k⟩ := h
  obtain ⟨c, ec, he⟩ := bnd_some he
  refine ⟨B, F0, H0, F, env, c, sr, ec, fun F1 H1 e1 => ?_⟩
  cases c with
  | true => exact iteT ⟨B, F0, H0, F1, env, b, sr.go e1, he, fun F2 H2 e2 => k F2 H2 (e1.trans e2)⟩
  | false =>
    cases he
    exact iteF (k F1 H1 e1)
theorem pdw_or (ha : PT X a (tT X.K tf)) (hb : PW X (.BoolOp .Or (b :: rest) pos) (tT X.K tg)) : PW X (.BoolOp .Or (a :: b :: rest) pos) (tT X.K (tOrD tf tg)) := by
  refine PW.imp (pw_or ha hb) fun σ H Q h => ?_
  obtain ⟨B, F0, H0, F, env, b, sr, he, k⟩ := h
  obtain ⟨c, ec, he⟩ := bnd_some he
  refine ⟨B, F0, H0, F, env, c, sr, ec, fun F1 H1 e1 => ?_⟩
  cases c with
  | false => exact iteF ⟨B, F0, H0, F1, env, b, sr.go e1, he, fun F2 H2 e2 => k F2 H2 (e1.trans e2)⟩
  | true =>
    cases he
    exact iteT (k F1 H1 e1)
theorem pdw_pt (h : PW X e (tT X.K tf)) : PT X e (tT X.K tf) := h.pt
/-! .. as values -/
def dAndV (f g : Env → Option D) : Env → Option D := fun env => match f env with
  | some (.bl true) => g env
  | some (.bl false) => some (.bl false)
  | _ => none
def dOrV (f g : Env → Option D) : Env → Option D := fun env => match f env with
  | some (.bl true) => some (.bl true)
  | some (.bl false) => g env
  | _ => none
def dNotV (f : Env → Option D) : Env → Option D := fun env => match f env with
  | some (.bl b) => some (.bl (!b))
  | _ => none
theorem pd_one {op} (h : PE X a (tD X.K fa)) : PE X (.BoolOp op [a] pos) (tD X.K fa) := pe_one h
theorem pd_and (ha : PE X a (tD X.K fa)) (hb : PE X (.BoolOp .And (b :: rest) pos) (tD X.K fb)) : PE X (.BoolOp .And (a :: b :: rest) pos) (tD X.K (dAndV fa fb)) := by
  refine PE.imp (pe_and ha hb) fun σ H Q h => ?_
  obtain ⟨B, F0, H0, F, env, d, sr, he, k⟩ := h
  unfold dAndV at he
  split at he
  · rename_i e1
    refine ⟨B, F0, H0, F, env, _, sr, e1, fun F1 H1 v e2 r => ?_⟩
    cases r
    exact ⟨true, rfl, iteT ⟨B, F0, H0, F1, env, d, sr.go e2, he, fun F2 H2 v e3 r3 => k F2 H2 v (e2.trans e3) r3⟩⟩
  · rename_i e1
    cases he
    refine ⟨B, F0, H0, F, env, _, sr, e1, fun F1 H1 v e2 r => ?_⟩
    cases r
    exact ⟨false, rfl, iteF (k F1 H1 _ e2 (.bl false))⟩
  · cases he
theorem pd_or (ha : PE X a (tD X.K fa)) (hb : PE X (.BoolOp .Or (b :: rest) pos) (tD X.K fb)) : PE X (.BoolOp .Or (a :: b :: rest) pos) (tD X.K (dOrV fa fb)) := by
  refine PE.imp (pe_or ha hb) fun σ H Q h => ?_
  obtain ⟨B, F0, H0, F, env, d, sr, he, k⟩ := h
  unfold dOrV at he
  split at he
  · rename_i e1
    cases he
    refine ⟨B, F0, H0, F, env, _, sr, e1, fun F1 H1 v e2 r => ?_⟩
    cases r
    exact ⟨true, rfl, iteT (k F1 H1 _ e2 (.bl true))⟩
  · rename_i e1
    refine ⟨B, F0, H0, F, env, _, sr, e1, fun F1 H1 v e2 r => ?_⟩
    cases r
    exact ⟨false, rfl, iteF ⟨B, F0, H0, F1, env, d, sr.go e2, he, fun F2 H2 v e3 r3 => k F2 H2 v (e2.trans e3) r3⟩⟩
  · cases he
theorem pd_not (ha : PE X a (tD X.K fa)) : PE X (.UnaryOp .Not a pos) (tD X.K (dNotV fa)) := by
  refine PE.imp (pe_not ha) fun σ H Q h => ?_
  obtain ⟨B, F0, H0, F, env, d, sr, he, k⟩ := h
  unfold dNotV at he
  split at he
  · rename_i b e1
    cases he
    refine ⟨B, F0, H0, F, env, _, sr, e1, fun F1 H1 v e2 r => ?_⟩
    cases r
    exact ⟨b, rfl, k F1 H1 _ e2 (.bl _)⟩
  · cases he
def dIf (t : Env → Option Bool) (f g : Env → Option D) : Env → Option D := fun env => bnd (t env) fun c => if c then f env else g env
theorem pd_if (hc : PT X c (tT X.K tf)) (ha : PE X a (tD X.K fa)) (hb : PE X b (tD X.K fb)) : PE X (.IfExp c a b pos) (tD X.K (dIf tf fa fb)) := by
  refine PE.imp (pe_ifExp hc ha hb) fun σ H Q h => ?_
  obtain ⟨B, F0, H0, F, env, d, sr, he, k⟩ := h
  obtain ⟨c, ec, he⟩ := bnd_some he
  refine ⟨B, F0, H0, F, env, c, sr, ec, fun F1 H1 e1 => ?_⟩
  cases c with
  | true => exact iteT ⟨B, F0, H0, F1, env, d, sr.go e1, he, fun F2 H2 v e3 r3 => k F2 H2 v (e1.trans e3) r3⟩
  | false => exact iteF ⟨B, F0, H0, F1, env, d, sr.go e1, he, fun F2 H2 v e3 r3 => k F2 H2 v (e1.trans e3) r3⟩
/-! chains of comparisons -/
def dChain (g g' : D → D → Option D) (fa fb fc : Env → Option D) : Env → Option D := fun env => bnd (fa env) fun x => bnd (fb env) fun y => match g x y with
  | some (.bl true) => bnd (fc env) fun z => g' y z
  | some (.bl false) => some (.bl false)
  | _ => none
theorem tChain_of {K : PySem.W.Frag} {r r' : R2} {g g' : D → D → Option D} (hg : DR2 K r g) (hg' : DR2 K r' g') {σ : St} {H : Hp} {Q : VK} (h : tD K (dChain g g' fa fb fc) σ H Q) : tChain r r' (tD K fa) (tD K fb) (tD K fc) σ H Q := by
  obtain ⟨B, F0, H0, F, env, d, sr, hd, k⟩ := h
  obtain ⟨x, ex, hd⟩ := bnd_some hd
  obtain ⟨y, ey, hd⟩ := bnd_some hd
  refine ⟨B, F0, H0, F, env, x, sr, ex, fun F1 H1 v1 e1 r1 => ?_⟩
  refine ⟨B, F0, H0, F1, env, y, sr.go e1, ey, fun F2 H2 v2 e2 r2 => ?_⟩
  split at hd
  · rename_i eg
    obtain ⟨z, ez, hd⟩ := bnd_some hd
    refine hg F2 H2 v1 v2 x y _ _ e2.sup (r1.up e2.sub) r2 eg fun F3 H3 v e3 r3 => ?_
    cases r3
    refine ⟨true, rfl, iteT ⟨B, F0, H0, F3, env, z, (sr.go e1).go (e2.trans e3), ez, fun F4 H4 v4 e4 r4 => ?_⟩⟩
    exact hg' F4 H4 v2 v4 y z d Q e4.sup (r2.up (e3.trans e4).sub) r4 hd fun F5 H5 v5 e5 r5 => k F5 H5 v5 (e1.trans (e2.trans (e3.trans (e4.trans e5)))) r5
  · rename_i eg
    cases hd
    refine hg F2 H2 v1 v2 x y _ _ e2.sup (r1.up e2.sub) r2 eg fun F3 H3 v e3 r3 => ?_
    cases r3
    exact ⟨false, rfl, iteF (k F3 H3 _ (e1.trans (e2.trans e3)) (.bl false))⟩
  · cases hd
theorem pd_chain {op op' : CmpOp} {r r' : R2} {g g' : D → D → Option D} (ho : OpR X (compareOp op) r) (hg : DR2 X.K r g) (ho' : OpR X (compareOp op') r') (hg' : DR2 X.K r' g') (ha : PE X a (tD X.K fa)) (hb : PE X b (tD X.K fb)) (hc : PE X c (tD X.K fc))
    (hm : lastMarks [op, op'] [b, c] = false := by with_unfolding_all rfl) : PE X (.Compare a [op, op'] [b, c] pos) (tD X.K (dChain g g' fa fb fc)) :=
  PE.imp (pe_chain ho ho' ha hb hc hm) fun _ _ _ h => tChain_of hg hg' h
theorem pdt_chain {op op' : CmpOp} {r r' : R2} {g g' : D → D → Option D} (ho : OpR X (compareOp op) r) (hg : DR2 X.K r g) (ho' : OpR X (compareOp op') r') (hg' : DR2 X.K r' g') (ha : PE X a (tD X.K fa)) (hb : PE X b (tD X.K fb)) (hc : PE X c (tD X.K fc))
    (hm : lastMarks [op, op'] [b, c] = false := by with_unfolding_all rfl) : PT X (.Compare a [op, op'] [b, c] pos) (tT X.K (tOfD (dChain g g' fa fb fc))) :=
  PT.imp (pt_chain ho ho' ha hb hc hm) fun _ _ _ h => tTest_of (fun _ _ _ h => tChain_of hg hg' h) h
end
end EM
set_option maxHeartbeats 2000000
namespace EM
open PySem PySem.Spec PyProof.Rows L2
def orR (r r' : R2) : R2 := fun x y H Q => r x y H Q ∨ r' x y H Q
def orD (g g' : D → D → Option D) : D → D → Option D := fun x y => match g x y with
  | some d => some d
  | none => g' x y
section
variable {X : Cx} {K : PySem.W.Frag}
theorem OpR.or {f : Value → Value → Sem Value} {r r' : R2} (h : OpR X f r) (h' : OpR X f r') : OpR X f (orR r r') := fun pins s σ H x y v u Q I rx ry q => q.elim (h pins s σ H x y v u Q I rx ry) (h' pins s σ H x y v u Q I rx ry)
theorem IxR.or' {r r' : R2} (h : IxR X r) (h' : IxR X r') : IxR X (orR r r') := fun a b pins s σ H x y v u Q I rx ry q hs => q.elim (fun q => h a b pins s σ H x y v u Q I rx ry q hs) (fun q => h' a b pins s σ H x y v u Q I rx ry q hs)
theorem DR2.or {r r' : R2} {g g' : D → D → Option D} (h : DR2 K r g) (h' : DR2 K r' g') : DR2 K (orR r r') (orD g g') := by
  intro F H x y dx dy d Q s rx ry e k
  unfold orD at e
  split at e
  · rename_i d' e'
    cases e
    exact .inl (h F H x y dx dy _ Q s rx ry e' k)
  · exact .inr (h' F H x y dx dy _ Q s rx ry e k)
/-! whole numbers -/
def iop (C : Int → Int → Bool) (g : Int → Int → Int) : D → D → Option D
  | .int i, .int j => if C i j then some (.int (g i j)) else none
  | _, _ => none
def iop0 (g : Int → Int → Int) : D → D → Option D
  | .int i, .int j => some (.int (g i j))
  | _, _ => none
def icmp (g : Int → Int → Bool) : D → D → Option D
  | .int i, .int j => some (.bl (g i j))
  | _, _ => none
theorem dr_iop {C : Int → Int → Prop} {c : Int → Int → Bool} {g : Int → Int → Int} (hc : ∀ i j, c i j = true → C i j) : DR2 K (rI C fun i j => .int (g i j)) (iop c g) := by
  intro F H x y dx dy d Q s rx ry e k
  unfold iop at e
  split at e
  · rename_i i j
    split at e
    · rename_i hz
      cases e
      cases rx
      cases ry
      exact ⟨i, j, rfl, rfl, hc i j hz, k F H _ (.refl s) (.int _)⟩
    · cases e
  · cases e
theorem dr_iop0 {g : Int → Int → Int} : DR2 K (rI0 fun i j => .int (g i j)) (iop0 g) := by
  intro F H x y dx dy d Q s rx ry e k
  unfold iop0 at e
  split at e
  · cases e
    cases rx
    cases ry
    exact ⟨_, _, rfl, rfl, k F H _ (.refl s) (.int _)⟩
  · cases e
theorem dr_icmp {g : Int → Int → Bool} : DR2 K (rI0 fun i j => .bl (g i j)) (icmp g) := by
  intro F H x y dx dy d Q s rx ry e k
  unfold icmp at e
  split at e
  · cases e
    cases rx
    cases ry
    exact ⟨_, _, rfl, rfl, k F H _ (.refl s) (.bl _)⟩
  · cases e
/-! + -/
def gCatT : D → D → Option D
  | .tup xs, .tup ys => if xs.length + ys.length ≤ 1000 then some (.tup (xs ++ ys)) else none
  | _, _ => none
theorem dr_catT : DR2 K (rCatA K) gCatT := by
  intro F H x y dx dy d Q s rx ry e k
  unfold gCatT at e
  split at e
  · rename_i xs ys
    split at e
    · rename_i hz
      cases e
      cases rx with
      | tup h1 h2 =>
        cases ry with
        | tup h3 h4 =>
          rename_i a vs b ws
          have l1 := h2.length
          have l2 := h4.length
          refine ⟨a, b, vs, ws, rfl, rfl, .of (s _ _ h1), .of (s _ _ h3), by rw [l1, l2]; exact line_of hz, fun e => ?_, fun ne e => ?_, fun n1 n2 p hp => ?_⟩
          · have e1 : xs = [] := List.length_eq_zero_iff.mp (by rw [← l1, e]; rfl)
            subst e1
            exact k F H _ (.refl s) (.tup h3 h4)
          · have e1 : ys = [] := List.length_eq_zero_iff.mp (by rw [← l2, e]; rfl)
            subst e1
            rw [List.append_nil] at k
            exact k F H _ (.refl s) (.tup h1 h2)
          · have l := Ext.lay s (o := .tup (vs ++ ws)) hp
            exact k _ _ _ l (.tup upd_same ((h2.app h4).up l.sub))
    · cases e
  · cases e
def gCatL : D → D → Option D
  | .lst xs, .lst ys => if xs.length + ys.length ≤ 1000 then some (.lst (xs ++ ys)) else none
  | _, _ => none
theorem dr_catL : DR2 K rCat gCatL := by
  intro F H x y dx dy d Q s rx ry e k
  unfold gCatL at e
  split at e
  · rename_i xs ys
    split at e
    · rename_i hz
      cases e
      cases rx with
      | lst h1 h2 =>
        cases ry with
        | lst h3 h4 =>
          rename_i a vs b ws
          have l1 := h2.length
          have l2 := h4.length
          refine ⟨a, b, vs, ws, rfl, rfl, s _ _ h1, s _ _ h3, by rw [l1, l2]; exact line_of hz, fun p hp => ?_⟩
          have l := Ext.lay s (o := .lst (vs ++ ws)) hp
          exact k _ _ _ l (.lst upd_same ((h2.app h4).up l.sub))
    · cases e
  · cases e
def gAdd : D → D → Option D := orD (iop0 fun i j => i + j) (orD gCatT gCatL)
theorem or_add : OpR X (binaryOp .Add) (orR (rI0 fun i j => .int (i + j)) (orR (rCatA X.K) rCat)) := OpR.or op_add (OpR.or op_catA op_cat)
theorem dr_add : DR2 K (orR (rI0 fun i j => .int (i + j)) (orR (rCatA K) rCat)) gAdd := DR2.or dr_iop0 (DR2.or dr_catT dr_catL)
def gSub : D → D → Option D := iop0 fun i j => i - j
theorem dr_sub : DR2 K (rI0 fun i j => .int (i - j)) gSub := dr_iop0
/-! * -/
def cMul (i j : Int) : Bool := i.natAbs < 2 ^ 64 || j.natAbs < 2 ^ 64
theorem cMul_ok (i j : Int) (h : cMul i j = true) : CMul i j := by
  unfold cMul at h
  simp only [Bool.or_eq_true, decide_eq_true_eq] at h
  rcases h with h | h
  · exact .inl ⟨by omega, by omega⟩
  · exact .inr ⟨by omega, by omega⟩
def gRepL : D → D → Option D
  | .lst xs, .int k => if xs.length * k.toNat ≤ 1000 ∧ -1000 ≤ k ∧ k ≤ 1000 then some (.lst (List.replicate k.toNat xs).flatten) else none
  | _, _ => none
theorem dr_repL : DR2 K rRep gRepL := by
  intro F H x y dx dy d Q s rx ry e k
  unfold gRepL at e
  split at e
  · rename_i xs j
    split at e
    · rename_i hz
      cases e
      cases rx with
      | lst h1 h2 =>
        cases ry
        rename_i a vs
        have l1 := h2.length
        refine ⟨a, j, vs, rfl, rfl, s _ _ h1, by omega, by omega, by rw [l1]; exact line_of hz.1, fun p hp => ?_⟩
        have l := Ext.lay s (o := .lst (List.replicate j.toNat vs).flatten) hp
        exact k _ _ _ l (.lst upd_same ((h2.rep _).up l.sub))
    · cases e
  · cases e
def gRepT : D → D → Option D
  | .tup xs, .int k => if xs.length ≤ 1000 ∧ xs.length ≠ 0 ∧ 2 ≤ k ∧ k ≤ 1000 then some (.tup (List.replicate k.toNat xs).flatten) else none
  | _, _ => none
theorem dr_repT : DR2 K (rRepT K) gRepT := by
  intro F H x y dx dy d Q s rx ry e k
  unfold gRepT at e
  split at e
  · rename_i xs j
    split at e
    · rename_i hz
      cases e
      cases rx with
      | tup h1 h2 =>
        cases ry
        rename_i a vs
        have l1 := h2.length
        refine ⟨a, j, vs, rfl, rfl, .of (s _ _ h1), fun e => hz.2.1 (by rw [← l1, e]; rfl), hz.2.2.1, hz.2.2.2, by rw [l1]; exact hz.1, fun p hp => ?_⟩
        have l := Ext.lay s (o := .tup (List.replicate j.toNat vs).flatten) hp
        exact k _ _ _ l (.tup upd_same ((h2.rep _).up l.sub))
    · cases e
  · cases e
def gMul : D → D → Option D := orD (iop cMul fun i j => i * j) (orD gRepL gRepT)
theorem or_mul : OpR X (binaryOp .Mult) (orR (rI CMul fun i j => .int (i * j)) (orR rRep (rRepT X.K))) := OpR.or op_mul (OpR.or op_rep op_repT)
theorem dr_mul : DR2 K (orR (rI CMul fun i j => .int (i * j)) (orR rRep (rRepT K))) gMul := DR2.or (dr_iop cMul_ok) (DR2.or dr_repL dr_repT)
/-! // % ** -/
def cDiv (_ j : Int) : Bool := decide (j ≠ 0) && decide (j.natAbs < 1073741824)
def cMod (_ j : Int) : Bool := decide (j ≠ 0)
def cPow (i j : Int) : Bool := decide (0 ≤ j) && decide (j ≤ 1000) && decide (i.natAbs < 2 ^ 64)
def gDiv : D → D → Option D := iop cDiv fun i j => i.fdiv j
def gMod : D → D → Option D := iop cMod fun i j => i.fmod j
def gPow : D → D → Option D := iop cPow fun i j => i ^ j.toNat
theorem dr_div : DR2 K (rI CDivN fun i j => .int (i.fdiv j)) gDiv := dr_iop fun i j h => by
  simp only [cDiv, Bool.and_eq_true, decide_eq_true_eq] at h
  exact h
theorem dr_mod : DR2 K (rI (fun _ j => j ≠ 0) fun i j => .int (i.fmod j)) gMod := dr_iop fun i j h => of_decide_eq_true h
theorem dr_pow : DR2 K (rI CPow fun i j => .int (i ^ j.toNat)) gPow := dr_iop fun i j h => by
  simp only [cPow, Bool.and_eq_true, decide_eq_true_eq] at h
  exact ⟨h.1.1, by omega, h.2⟩
/-! comparisons -/
def gLt : D → D → Option D := icmp fun i j => decide (i < j)
def gLe : D → D → Option D := icmp fun i j => decide (i ≤ j)
def gGt : D → D → Option D := icmp fun i j => decide (j < i)
def gGe : D → D → Option D := icmp fun i j => decide (j ≤ i)
theorem dr_lt : DR2 K (rI0 fun i j => .bl (decide (i < j))) gLt := dr_icmp
theorem dr_le : DR2 K (rI0 fun i j => .bl (decide (i ≤ j))) gLe := dr_icmp
theorem dr_gt : DR2 K (rI0 fun i j => .bl (decide (j < i))) gGt := dr_icmp
theorem dr_ge : DR2 K (rI0 fun i j => .bl (decide (j ≤ i))) gGe := dr_icmp
/-! == -/
mutual
def pyOf : D → Option PyData
  | .non => some .none
  | .bl b => some (.bool b)
  | .int i => some (.int i)
  | .str x => some (.str x)
  | .tup ds => bnd (pyAll ds) fun ps => some (.tuple ps)
  | .kt ds => bnd (pyAll ds) fun ps => some (.tuple ps)
  | .lst ds => bnd (pyAll ds) fun ps => some (.list ps)
  | .fld _ _ => none
  | .scr _ => none
def pyAll : List D → Option (List PyData)
  | [] => some []
  | d :: ds => bnd (pyOf d) fun p => bnd (pyAll ds) fun ps => some (p :: ps)
end
mutual
theorem Rep.py {F H : Hp} (s : Same F H) : ∀ (d : D) (v : V) (p : PyData), Rep K F v d → pyOf d = some p → Dp K H v p
  | .non, _, _, h, e => by cases h; cases e; exact .non
  | .bl b, _, _, h, e => by cases h; cases e; exact .bl b
  | .int i, _, _, h, e => by cases h; cases e; exact .int i
  | .str x, _, _, h, e => by cases h; cases e; exact .str x
  | .tup ds, _, _, h, e => by
    simp only [pyOf] at e
    obtain ⟨ps, e1, e2⟩ := bnd_some e
    cases e2
    cases h with
    | tup h1 h2 => exact .tup (.of (s _ _ h1)) (RepAll.py s ds _ ps h2 e1)
  | .kt ds, _, _, h, e => by
    simp only [pyOf] at e
    obtain ⟨ps, e1, e2⟩ := bnd_some e
    cases e2
    cases h with
    | kt h1 h2 => exact .tup (Same.tup s h1) (RepAll.py s ds _ ps h2 e1)
  | .lst ds, _, _, h, e => by
    simp only [pyOf] at e
    obtain ⟨ps, e1, e2⟩ := bnd_some e
    cases e2
    cases h with
    | lst h1 h2 => exact .lst (.of (s _ _ h1)) (RepAll.py s ds _ ps h2 e1)
  | .fld _ _, _, _, _, e => by simp [pyOf] at e
  | .scr _, _, _, _, e => by simp [pyOf] at e
theorem RepAll.py {F H : Hp} (s : Same F H) : ∀ (ds : List D) (vs : List V) (ps : List PyData), RepAll K F vs ds → pyAll ds = some ps → DpAll K H vs ps
  | [], _, _, h, e => by cases h; cases e; exact .nil
  | d :: ds, _, _, h, e => by
    simp only [pyAll] at e
    obtain ⟨p, e1, e⟩ := bnd_some e
    obtain ⟨ps, e2, e3⟩ := bnd_some e
    cases e3
    cases h with
    | cons h1 h2 => exact .cons (Rep.py s d _ p h1 e1) (RepAll.py s ds _ ps h2 e2)
end
def rEqM (K : PySem.W.Frag) (neg : Bool) : R2 := fun x y H Q => ∃ d e, Dp K H x d ∧ Dp K H y e ∧ d.canLay0 = true ∧ e.canLay0 = true ∧ min d.depth e.depth ≤ 64 ∧ Q (.bl (if neg then !PyData.eqv d e else PyData.eqv d e)) H
theorem op_eqM (hu : X.A.units + 64 < cLine) : OpR X (compareOp .Eq) (rEqM X.K false) := by
  intro pins s σ H x y v u Q I rx ry h
  obtain ⟨d, e, hd, he, sd, se, hm, q⟩ := h
  obtain ⟨as, r1⟩ := Dp.reads I d x v hd rx
  obtain ⟨bs, r2⟩ := Dp.reads I e y u he ry
  exact SeqAt.compareEq_reads r1 r2 sd se (by omega) ⟨.bl _, H, I, rfl, q⟩
theorem op_neM (hu : X.A.units + 64 < cLine) : OpR X (compareOp .NotEq) (rEqM X.K true) := by
  intro pins s σ H x y v u Q I rx ry h
  obtain ⟨d, e, hd, he, sd, se, hm, q⟩ := h
  obtain ⟨as, r1⟩ := Dp.reads I d x v hd rx
  obtain ⟨bs, r2⟩ := Dp.reads I e y u he ry
  exact SeqAt.compareNe_reads r1 r2 sd se (by omega) ⟨.bl _, H, I, rfl, q⟩
def eqD (x y : D) : Option Bool := bnd (pyOf x) fun p => bnd (pyOf y) fun q => if p.canLay0 && q.canLay0 && decide (min p.depth q.depth ≤ 64) then some (PyData.eqv p q) else none
def gEq : D → D → Option D
  | .int i, .int j => some (.bl (i == j))
  | x, y => bnd (eqD x y) fun b => some (.bl b)
def gNe : D → D → Option D
  | .int i, .int j => some (.bl (!(i == j)))
  | x, y => bnd (eqD x y) fun b => some (.bl (!b))
theorem eqD_int (i j : Int) : eqD (.int i) (.int j) = some (i == j) := rfl
theorem gEq_eq (x y : D) : gEq x y = bnd (eqD x y) fun b => some (.bl b) := by
  unfold gEq
  split
  · rfl
  · rfl
theorem gNe_eq (x y : D) : gNe x y = bnd (eqD x y) fun b => some (.bl (!b)) := by
  unfold gNe
  split
  · rfl
  · rfl
theorem dr_eqM (neg : Bool) : DR2 K (rEqM K neg) (fun x y => bnd (eqD x y) fun b => some (.bl (if neg then !b else b))) := by
  intro F H x y dx dy d Q s rx ry e k
  obtain ⟨b, e1, e2⟩ := bnd_some e
  cases e2
  unfold eqD at e1
  obtain ⟨p, ep, e1⟩ := bnd_some e1
  obtain ⟨q, eq, e1⟩ := bnd_some e1
  split at e1
  · rename_i hz
    cases e1
    simp only [Bool.and_eq_true, decide_eq_true_eq] at hz
    exact ⟨p, q, Rep.py s dx x p rx ep, Rep.py s dy y q ry eq, hz.1.1, hz.1.2, hz.2, k F H _ (.refl s) (.bl _)⟩
  · cases e1
theorem dr_eq : DR2 K (rEqM K false) gEq := by
  have e : gEq = fun x y => bnd (eqD x y) fun b => some (.bl (if false = true then !b else b)) := by
    funext x y
    rw [gEq_eq]
    rfl
  rw [e]
  exact dr_eqM false
theorem dr_ne : DR2 K (rEqM K true) gNe := by
  have e : gNe = fun x y => bnd (eqD x y) fun b => some (.bl (if true = true then !b else b)) := by
    funext x y
    rw [gNe_eq]
    rfl
  rw [e]
  exact dr_eqM true
/-! is None -/
def isNon : D → Bool
  | .non => true
  | _ => false
theorem isNon_rep {F : Hp} {v : V} {d : D} (h : Rep K F v d) : decide (v = .non) = isNon d := by
  cases h <;> simp [isNon]
def gIsN : D → D → Option D := fun x y => if isNon y then some (.bl (isNon x)) else none
def gNotN : D → D → Option D := fun x y => if isNon y then some (.bl (!isNon x)) else none
theorem dr_isN : DR2 K (fun x y H Q => y = .non ∧ Q (.bl (decide (x = .non))) H) gIsN := by
  intro F H x y dx dy d Q s rx ry e k
  unfold gIsN at e
  split at e
  · rename_i hz
    cases e
    have e1 := isNon_rep ry
    rw [hz] at e1
    refine ⟨of_decide_eq_true e1, ?_⟩
    rw [isNon_rep rx]
    exact k F H _ (.refl s) (.bl _)
  · cases e
theorem dr_notN : DR2 K (fun x y H Q => y = .non ∧ Q (.bl (!decide (x = .non))) H) gNotN := by
  intro F H x y dx dy d Q s rx ry e k
  unfold gNotN at e
  split at e
  · rename_i hz
    cases e
    have e1 := isNon_rep ry
    rw [hz] at e1
    refine ⟨of_decide_eq_true e1, ?_⟩
    rw [isNon_rep rx]
    exact k F H _ (.refl s) (.bl _)
  · cases e
/-! in, of whole numbers -/
def intsOf : List D → Option (List Int)
  | [] => some []
  | .int i :: ds => bnd (intsOf ds) fun is => some (i :: is)
  | _ => none
theorem intsOf_map : ∀ ns : List Int, intsOf (ns.map D.int) = some ns
  | [] => rfl
  | n :: ns => by
    show bnd (intsOf (ns.map D.int)) _ = _
    rw [intsOf_map ns]
    rfl
theorem of_intsOf : ∀ {ds : List D} {ns : List Int}, intsOf ds = some ns → ds = ns.map D.int
  | [], ns, h => by cases h; rfl
  | .int i :: ds, ns, h => by
    obtain ⟨is, e1, e2⟩ := bnd_some (show bnd (intsOf ds) (fun is => some (i :: is)) = some ns from h)
    cases e2
    rw [of_intsOf e1]
    rfl
  | .non :: _, _, h => by cases h
  | .bl _ :: _, _, h => by cases h
  | .str _ :: _, _, h => by cases h
  | .tup _ :: _, _, h => by cases h
  | .lst _ :: _, _, h => by cases h
  | .fld _ _ :: _, _, h => by cases h
  | .scr _ :: _, _, h => by cases h
  | .kt _ :: _, _, h => by cases h
def seqOf (d : D) : Option (List D) := match lstOf d with
  | some ds => some ds
  | none => tupOf d
theorem Rep.seqOf {F : Hp} {v : V} {d : D} {ds : List D} (h : Rep K F v d) (e : seqOf d = some ds) : ∃ a xs, v = .ref a ∧ (SqL K F a xs ∨ SqT K F a xs) ∧ RepAll K F xs ds := by
  unfold EM.seqOf at e
  split at e
  · rename_i ds' e'
    cases e
    obtain ⟨a, xs, h1, h2, h3⟩ := h.lstOf e'
    exact ⟨a, xs, h1, .inl h2, h3⟩
  · obtain ⟨a, xs, h1, h2, h3⟩ := h.tupOf e
    exact ⟨a, xs, h1, .inr h2, h3⟩
def memI (i : Int) : List Int → Bool
  | [] => false
  | j :: js => i == j || memI i js
def gInN (neg : Bool) : D → D → Option D := fun x y => match x with
  | .int i => bnd (seqOf y) fun ds => bnd (intsOf ds) fun ns => some (.bl (if neg then !memI i ns else memI i ns))
  | _ => none
theorem memI_eq (i : Int) : ∀ ns : List Int, inV (.int i) (ns.map V.int) = memI i ns
  | [] => rfl
  | n :: ns => by
    show (eqV (.int n) (.int i) || inV (.int i) (ns.map V.int)) = (i == n || memI i ns)
    rw [memI_eq i ns]
    congr 1
    show (n == i) = (i == n)
    rw [Bool.eq_iff_iff]
    simp only [beq_iff_eq]
    exact ⟨Eq.symm, Eq.symm⟩
theorem memI_mem {i : Int} : ∀ {ns : List Int}, memI i ns = true ↔ i ∈ ns
  | [] => by simp [memI]
  | n :: ns => by simp [memI, memI_mem (i := i) (ns := ns)]
theorem flat_ints : ∀ ns : List Int, (ns.map V.int).all flatV = true
  | [] => rfl
  | n :: ns => by
    show (true && (ns.map V.int).all flatV) = true
    rw [flat_ints ns]
    rfl
theorem dr_in (neg : Bool) : DR2 K (rIn K neg) (gInN neg) := by
  intro F H x y dx dy d Q s rx ry e k
  unfold gInN at e
  split at e
  · rename_i i
    obtain ⟨ds, e1, e⟩ := bnd_some e
    obtain ⟨ns, e2, e⟩ := bnd_some e
    cases e
    cases rx
    obtain ⟨a, xs, rfl, h1, h2⟩ := ry.seqOf e1
    rw [of_intsOf e2] at h2
    have e3 := RepAll.intsOf h2
    subst e3
    refine ⟨a, _, rfl, ?_, rfl, flat_ints ns, ?_⟩
    · rcases h1 with h1 | h1
      · exact .inl (Same.seq s h1)
      · exact .inr (Same.tup s h1)
    · rw [memI_eq]
      exact k F H _ (.refl s) (.bl _)
  · cases e
/-! subscripts -/
def gIx : D → D → Option D := fun x y => match y with
  | .int i => bnd (seqOf x) fun ds => atI ds i
  | _ => none
theorem RepAll.atI {F : Hp} {vs : List V} {ds : List D} {i : Int} {d : D} (h : RepAll K F vs ds) (e : L2.atI ds i = some d) : ∃ v, L2.atI vs i = some v ∧ Rep K F v d := by
  unfold L2.atI at e ⊢
  rw [← h.length] at e
  cases q : ixN vs.length i with
  | none =>
    rw [q] at e
    cases e
  | some j =>
    rw [q] at e
    exact h.get (i := j) e
theorem dr_ix : DR2 K (orR (rIxL K) (rIxT K)) gIx := by
  intro F H x y dx dy d Q s rx ry e k
  unfold gIx at e
  split at e
  · rename_i i
    obtain ⟨ds, e1, e⟩ := bnd_some e
    cases ry
    obtain ⟨a, xs, rfl, h1, h2⟩ := rx.seqOf e1
    obtain ⟨v, h3, h4⟩ := h2.atI e
    rcases h1 with h1 | h1
    · exact .inl ⟨a, xs, i, v, rfl, rfl, Same.seq s h1, h3, k F H _ (.refl s) h4⟩
    · exact .inr ⟨a, xs, i, v, rfl, rfl, Same.tup s h1, h3, k F H _ (.refl s) h4⟩
  · cases e
theorem ix_or : IxR X (orR (rIxL X.K) (rIxT X.K)) := IxR.or' ix_list ix_tup
end
end EM
set_option maxHeartbeats 2000000
namespace EM
open PySem PySem.Spec PyProof.Rows L2
def cll (fa : Env → Option (List D)) (g : List D → Option D) : Env → Option D := fun env => bnd (fa env) g
def clN (fa : Env → Option (List D)) (g : List D → Option (List D)) : Env → Option (List D) := fun env => bnd (fa env) g
section
variable {X : Cx} {K : PySem.W.Frag} {e a b : Expr} {es : List Expr} {p pos : Pos} {x : Str} {id T : String} {fa : Env → Option (List D)} {f fb : Env → Option D}
theorem tCB_of {r : List V → Hp → VK → Prop} {g : List D → Option D} (hg : DRA K r g) {σ : St} {H : Hp} {Q : VK} (h : tD K (cll fa g) σ H Q) : tCB r (tA K fa) σ H Q := by
  obtain ⟨B, F0, H0, F, env, d, sr, he, k⟩ := h
  obtain ⟨ds, e1, e2⟩ := bnd_some he
  exact ⟨B, F0, H0, F, env, ds, sr, e1, fun F1 H1 vs x1 r1 => hg F1 H1 vs ds d Q x1.sup r1 e2 fun F2 H2 v x2 r2 => k F2 H2 v (x1.trans x2) r2⟩
theorem tCBN_of {r : List V → Hp → VK → Prop} {g : List D → Option (List D)} (hg : DRN K r g) {σ : St} {H : Hp} {Q : VK} (h : tN K (clN fa g) σ H Q) : tCB r (tA K fa) σ H Q := by
  obtain ⟨B, F0, H0, F, env, d, sr, he, k⟩ := h
  obtain ⟨ds, e1, e2⟩ := bnd_some he
  exact ⟨B, F0, H0, F, env, ds, sr, e1, fun F1 H1 vs x1 r1 => hg F1 H1 vs ds d Q x1.sup r1 e2 fun F2 H2 p v x2 hp r2 => k F2 H2 p v (x1.trans x2) hp r2⟩
theorem pd_callB {r : List V → Hp → VK → Prop} {g : List D → Option D} (hc : CallR X (.builtin id) r) (hg : DRA X.K r g) (gl : Gl X x) (hm : X.mg x = none) (hv : bootBuiltins x = some (.builtin id)) (ha : PA X (e :: es) (tA X.K fa)) (hn : x ≠ "__name__" := by decide) (hdb : (x == ("__debug__" : Str)) = false := by decide)
    (he : starEach (e :: es) X.env = (false, eval e X.env) :: starEach es X.env := by rfl) (hpl : (backTo pos (starEach es X.env)).any (·.1) = false := by rfl) : PE X (.Call (.Name x p) (e :: es) [] pos) (tD X.K (cll fa g)) :=
  PE.imp (pe_callB hc gl hm hv ha hn hdb he hpl) fun _ _ _ h => tCB_of hg h
theorem pd_callTy {r : List V → Hp → VK → Prop} {g : List D → Option D} (hc : CallR X (.type T) r) (hg : DRA X.K r g) (gl : Gl X x) (hm : X.mg x = none) (hv : bootBuiltins x = some (.type T)) (ha : PA X (e :: es) (tA X.K fa)) (hn : x ≠ "__name__" := by decide) (hdb : (x == ("__debug__" : Str)) = false := by decide)
    (he : starEach (e :: es) X.env = (false, eval e X.env) :: starEach es X.env := by rfl) (hpl : (backTo pos (starEach es X.env)).any (·.1) = false := by rfl) : PE X (.Call (.Name x p) (e :: es) [] pos) (tD X.K (cll fa g)) :=
  PE.imp (pe_callTy hc gl hm hv ha hn hdb he hpl) fun _ _ _ h => tCB_of hg h
theorem pn_callB {r : List V → Hp → VK → Prop} {g : List D → Option (List D)} (hc : CallR X (.builtin id) r) (hg : DRN X.K r g) (gl : Gl X x) (hm : X.mg x = none) (hv : bootBuiltins x = some (.builtin id)) (ha : PA X (e :: es) (tA X.K fa)) (hn : x ≠ "__name__" := by decide) (hdb : (x == ("__debug__" : Str)) = false := by decide)
    (he : starEach (e :: es) X.env = (false, eval e X.env) :: starEach es X.env := by rfl) (hpl : (backTo pos (starEach es X.env)).any (·.1) = false := by rfl) : PE X (.Call (.Name x p) (e :: es) [] pos) (tN X.K (clN fa g)) :=
  PE.imp (pe_callB hc gl hm hv ha hn hdb he hpl) fun _ _ _ h => tCBN_of hg h
theorem pn_callTy {r : List V → Hp → VK → Prop} {g : List D → Option (List D)} (hc : CallR X (.type T) r) (hg : DRN X.K r g) (gl : Gl X x) (hm : X.mg x = none) (hv : bootBuiltins x = some (.type T)) (ha : PA X (e :: es) (tA X.K fa)) (hn : x ≠ "__name__" := by decide) (hdb : (x == ("__debug__" : Str)) = false := by decide)
    (he : starEach (e :: es) X.env = (false, eval e X.env) :: starEach es X.env := by rfl) (hpl : (backTo pos (starEach es X.env)).any (·.1) = false := by rfl) : PE X (.Call (.Name x p) (e :: es) [] pos) (tN X.K (clN fa g)) :=
  PE.imp (pe_callTy hc gl hm hv ha hn hdb he hpl) fun _ _ _ h => tCBN_of hg h
/-! the built-ins -/
theorem rep1 {F : Hp} {vs : List V} {d : D} (h : RepAll K F vs [d]) : ∃ v, vs = [v] ∧ Rep K F v d := by
  cases h with
  | cons h1 h2 => cases h2; exact ⟨_, rfl, h1⟩
theorem rep2 {F : Hp} {vs : List V} {d d' : D} (h : RepAll K F vs [d, d']) : ∃ v w, vs = [v, w] ∧ Rep K F v d ∧ Rep K F w d' := by
  cases h with
  | cons h1 h2 =>
    obtain ⟨w, rfl, h3⟩ := rep1 h2
    exact ⟨_, w, rfl, h1, h3⟩
def gLen : List D → Option D
  | [d] => bnd (seqOf d) fun ds => some (.int ds.length)
  | _ => none
theorem dr_len : DRA K (fun xs H Q => ∃ x n, xs = [x] ∧ LenV K x H n ∧ Q (.int n) H) gLen := by
  intro F H xs ds d Q s r e k
  unfold gLen at e
  split at e
  · obtain ⟨es, e1, e2⟩ := bnd_some e
    cases e2
    obtain ⟨v, rfl, r1⟩ := rep1 r
    obtain ⟨a, ys, rfl, h1, h2⟩ := r1.seqOf e1
    refine ⟨_, ys.length, rfl, ?_, ?_⟩
    · rcases h1 with h1 | h1
      · exact .inl ⟨ys, Same.seq s h1, rfl⟩
      · exact .inr ⟨ys, Same.tup s h1, rfl⟩
    · rw [h2.length]
      exact k F H _ (.refl s) (.int _)
  · cases e
def gList : List D → Option (List D)
  | [d] => seqOf d
  | _ => none
theorem dr_list : DRN K (fun xs H Q => ∃ p ys, xs = [.ref p] ∧ (SqL K H p ys ∨ SqT K H p ys) ∧ ∀ l, H l = none → Q (.ref l) (upd H l (.lst ys))) gList := by
  intro F H xs ds d Q s r e k
  unfold gList at e
  split at e
  · obtain ⟨v, rfl, r1⟩ := rep1 r
    obtain ⟨a, ys, rfl, h1, h2⟩ := r1.seqOf e
    refine ⟨a, ys, rfl, ?_, fun l hl => k F H l ys (.refl s) hl h2⟩
    rcases h1 with h1 | h1
    · exact .inl (Same.seq s h1)
    · exact .inr (Same.tup s h1)
  · cases e
def gTuple : List D → Option D
  | [.tup ds] => some (.tup ds)
  | [.lst ds] => some (.tup ds)
  | _ => none
theorem dr_tuple : DRA K (fun xs H Q => ∃ p ys, xs = [.ref p] ∧ ((SqL K H p ys ∧ ∀ l, H l = none → Q (.ref l) (upd H l (.tup ys))) ∨ (SqT K H p ys ∧ Q (.ref p) H))) gTuple := by
  intro F H xs ds d Q s r e k
  unfold gTuple at e
  split at e
  · cases e
    obtain ⟨v, rfl, r1⟩ := rep1 r
    cases r1 with
    | tup h1 h2 => exact ⟨_, _, rfl, .inr ⟨.of (s _ _ h1), k F H _ (.refl s) (.tup h1 h2)⟩⟩
  · cases e
    obtain ⟨v, rfl, r1⟩ := rep1 r
    cases r1 with
    | lst h1 h2 =>
      refine ⟨_, _, rfl, .inl ⟨.of (s _ _ h1), fun l hl => ?_⟩⟩
      rename_i q xs
      have z := Ext.lay s (o := .tup xs) hl
      exact k _ _ _ z (.tup upd_same (h2.up z.sub))
  · cases e
def gAbs : List D → Option D
  | [.int i] => some (.int (if i < 0 then -i else i))
  | _ => none
theorem dr_abs : DRA K (fun xs H Q => ∃ i, xs = [.int i] ∧ Q (.int (if i < 0 then -i else i)) H) gAbs := by
  intro F H xs ds d Q s r e k
  unfold gAbs at e
  split at e
  · cases e
    obtain ⟨v, rfl, r1⟩ := rep1 r
    cases r1
    exact ⟨_, rfl, k F H _ (.refl s) (.int _)⟩
  · cases e
def gMax2 : List D → Option D
  | [.int i, .int j] => some (.int (if j > i then j else i))
  | _ => none
def gMin2 : List D → Option D
  | [.int i, .int j] => some (.int (if j < i then j else i))
  | _ => none
theorem dr_max2 : DRA K (fun xs H Q => ∃ i j, xs = [.int i, .int j] ∧ Q (.int (if j > i then j else i)) H) gMax2 := by
  intro F H xs ds d Q s r e k
  unfold gMax2 at e
  split at e
  · cases e
    obtain ⟨v, w, rfl, r1, r2⟩ := rep2 r
    cases r1
    cases r2
    exact ⟨_, _, rfl, k F H _ (.refl s) (.int _)⟩
  · cases e
theorem dr_min2 : DRA K (fun xs H Q => ∃ i j, xs = [.int i, .int j] ∧ Q (.int (if j < i then j else i)) H) gMin2 := by
  intro F H xs ds d Q s r e k
  unfold gMin2 at e
  split at e
  · cases e
    obtain ⟨v, w, rfl, r1, r2⟩ := rep2 r
    cases r1
    cases r2
    exact ⟨_, _, rfl, k F H _ (.refl s) (.int _)⟩
  · cases e
def gInt : List D → Option D
  | [.int i] => some (.int i)
  | [.bl b] => some (.int (if b then 1 else 0))
  | _ => none
theorem dr_int : DRA K (fun xs H Q => (∃ i, xs = [.int i] ∧ Q (.int i) H) ∨ ∃ k, xs = [.bl k] ∧ Q (.int (if k then 1 else 0)) H) gInt := by
  intro F H xs ds d Q s r e k
  unfold gInt at e
  split at e
  · cases e
    obtain ⟨v, rfl, r1⟩ := rep1 r
    cases r1
    exact .inl ⟨_, rfl, k F H _ (.refl s) (.int _)⟩
  · cases e
    obtain ⟨v, rfl, r1⟩ := rep1 r
    cases r1
    exact .inr ⟨_, rfl, k F H _ (.refl s) (.int _)⟩
  · cases e
def blsOf : List D → Option (List Bool)
  | [] => some []
  | .bl b :: ds => bnd (blsOf ds) fun bs => some (b :: bs)
  | _ => none
theorem blsOf_map : ∀ ns : List Bool, blsOf (ns.map D.bl) = some ns
  | [] => rfl
  | n :: ns => by
    show bnd (blsOf (ns.map D.bl)) _ = _
    rw [blsOf_map ns]
    rfl
theorem of_blsOf : ∀ {ds : List D} {ns : List Bool}, blsOf ds = some ns → ds = ns.map D.bl
  | [], ns, h => by cases h; rfl
  | .bl i :: ds, ns, h => by
    obtain ⟨is, e1, e2⟩ := bnd_some (show bnd (blsOf ds) (fun is => some (i :: is)) = some ns from h)
    cases e2
    rw [of_blsOf e1]
    rfl
  | .non :: _, _, h => by cases h
  | .int _ :: _, _, h => by cases h
  | .str _ :: _, _, h => by cases h
  | .tup _ :: _, _, h => by cases h
  | .lst _ :: _, _, h => by cases h
  | .fld _ _ :: _, _, h => by cases h
  | .scr _ :: _, _, h => by cases h
  | .kt _ :: _, _, h => by cases h
def gAll : List D → Option D
  | [.lst ds] => bnd (blsOf ds) fun bs => some (.bl (bs.all _root_.id))
  | _ => none
theorem dr_all : DRA K (rAll K) gAll := by
  intro F H xs ds d Q s r e k
  unfold gAll at e
  split at e
  · obtain ⟨bs, e1, e2⟩ := bnd_some e
    cases e2
    obtain ⟨v, rfl, r1⟩ := rep1 r
    rw [of_blsOf e1] at r1
    cases r1 with
    | lst h1 h2 =>
      have e3 := RepAll.blsOf h2
      subst e3
      exact ⟨_, bs, rfl, .of (s _ _ h1), k F H _ (.refl s) (.bl _)⟩
  · cases e
def maxI : Int → List Int → Int
  | m, [] => m
  | m, n :: ns => maxI (if m < n then n else m) ns
def minI : Int → List Int → Int
  | m, [] => m
  | m, n :: ns => minI (if n < m then n else m) ns
theorem maxI_ge : ∀ (m : Int) (ns : List Int), m ≤ maxI m ns ∧ (∀ y ∈ ns, y ≤ maxI m ns) ∧ (maxI m ns = m ∨ maxI m ns ∈ ns)
  | m, [] => ⟨Int.le_refl _, fun _ h => (by cases h), .inl rfl⟩
  | m, n :: ns => by
    obtain ⟨h1, h2, h3⟩ := maxI_ge (if m < n then n else m) ns
    have hm : m ≤ (if m < n then n else m) := by split <;> omega
    have hn : n ≤ (if m < n then n else m) := by split <;> omega
    refine ⟨Int.le_trans hm h1, fun y hy => ?_, ?_⟩
    · rcases List.mem_cons.mp hy with e | e
      · rw [e]; exact Int.le_trans hn h1
      · exact h2 y e
    · show maxI (if m < n then n else m) ns = m ∨ maxI (if m < n then n else m) ns ∈ n :: ns
      rcases h3 with h3 | h3
      · rw [h3]
        split
        · exact .inr List.mem_cons_self
        · exact .inl rfl
      · exact .inr (List.mem_cons_of_mem _ h3)
theorem minI_le : ∀ (m : Int) (ns : List Int), minI m ns ≤ m ∧ (∀ y ∈ ns, minI m ns ≤ y) ∧ (minI m ns = m ∨ minI m ns ∈ ns)
  | m, [] => ⟨Int.le_refl _, fun _ h => (by cases h), .inl rfl⟩
  | m, n :: ns => by
    obtain ⟨h1, h2, h3⟩ := minI_le (if n < m then n else m) ns
    have hm : (if n < m then n else m) ≤ m := by split <;> omega
    have hn : (if n < m then n else m) ≤ n := by split <;> omega
    refine ⟨Int.le_trans h1 hm, fun y hy => ?_, ?_⟩
    · rcases List.mem_cons.mp hy with e | e
      · rw [e]; exact Int.le_trans h1 hn
      · exact h2 y e
    · show minI (if n < m then n else m) ns = m ∨ minI (if n < m then n else m) ns ∈ n :: ns
      rcases h3 with h3 | h3
      · rw [h3]
        split
        · exact .inr List.mem_cons_self
        · exact .inl rfl
      · exact .inr (List.mem_cons_of_mem _ h3)
def gMaxL : List D → Option D
  | [.lst ds] => match intsOf ds with
    | some (n :: ns) => some (.int (maxI n ns))
    | _ => none
  | _ => none
def gMinL : List D → Option D
  | [.lst ds] => match intsOf ds with
    | some (n :: ns) => some (.int (minI n ns))
    | _ => none
  | _ => none
theorem dr_maxL : DRA K (rMax K) gMaxL := by
  intro F H xs ds d Q s r e k
  unfold gMaxL at e
  split at e
  · split at e
    · rename_i n ns e1
      cases e
      obtain ⟨v, rfl, r1⟩ := rep1 r
      rw [of_intsOf e1] at r1
      cases r1 with
      | lst h1 h2 =>
        have e3 := RepAll.intsOf h2
        subst e3
        refine ⟨_, n :: ns, rfl, .of (s _ _ h1), by simp, fun m hm hy => ?_⟩
        obtain ⟨g1, g2, g3⟩ := maxI_ge n ns
        have e4 : m = maxI n ns := by
          have a1 : maxI n ns ≤ m := by
            rcases g3 with g3 | g3
            · rw [g3]; exact hy n List.mem_cons_self
            · exact hy _ (List.mem_cons_of_mem _ g3)
          have a2 : m ≤ maxI n ns := by
            rcases List.mem_cons.mp hm with q | q
            · rw [q]; exact g1
            · exact g2 m q
          omega
        rw [e4]
        exact k F H _ (.refl s) (.int _)
    · cases e
  · cases e
theorem dr_minL : DRA K (rMin K) gMinL := by
  intro F H xs ds d Q s r e k
  unfold gMinL at e
  split at e
  · split at e
    · rename_i n ns e1
      cases e
      obtain ⟨v, rfl, r1⟩ := rep1 r
      rw [of_intsOf e1] at r1
      cases r1 with
      | lst h1 h2 =>
        have e3 := RepAll.intsOf h2
        subst e3
        refine ⟨_, n :: ns, rfl, .of (s _ _ h1), by simp, fun m hm hy => ?_⟩
        obtain ⟨g1, g2, g3⟩ := minI_le n ns
        have e4 : m = minI n ns := by
          have a1 : m ≤ minI n ns := by
            rcases g3 with g3 | g3
            · rw [g3]; exact hy n List.mem_cons_self
            · exact hy _ (List.mem_cons_of_mem _ g3)
          have a2 : minI n ns ≤ m := by
            rcases List.mem_cons.mp hm with q | q
            · rw [q]; exact g1
            · exact g2 m q
          omega
        rw [e4]
        exact k F H _ (.refl s) (.int _)
    · cases e
  · cases e
/-! isinstance -/
inductive Ty where
  | int | bool | tuple | str
def Ty.nm : Ty → String
  | .int => "int"
  | .bool => "bool"
  | .tuple => "tuple"
  | .str => "str"
def isTy (t : Ty) : D → Bool
  | .non => false
  | .bl _ => match t with | .int => true | .bool => true | _ => false
  | .int _ => match t with | .int => true | _ => false
  | .str _ => match t with | .str => true | _ => false
  | .tup _ => match t with | .tuple => true | _ => false
  | .kt _ => match t with | .tuple => true | _ => false
  | .lst _ => false
  | .scr _ => false
  | .fld _ _ => false
def noFld : D → Bool
  | .fld _ _ => false
  | .scr _ => false
  | _ => true
def gIsi (t : Ty) : List D → Option D
  | [d] => if noFld d then some (.bl (isTy t d)) else none
  | _ => none
theorem sqT_ty {H : Hp} {a : Addr} {xs : List V} (h : SqT K H a xs) : TyX K H (.ref a) (.type "tuple") := by
  rcases h with (h | ⟨o, h⟩) | ⟨o, its, n, h1, h2, _⟩
  · exact .base (.tup h)
  · exact .fTuple h
  · exact .kTuple h1 h2
theorem dr_isi (t : Ty) : DRA K (fun xs H Q => rIsi K (xs ++ [.ty t.nm]) H Q) (gIsi t) := by
  intro F H xs ds d Q s r e k
  unfold gIsi at e
  split at e
  · rename_i d1
    split at e
    · rename_i hf
      cases e
      obtain ⟨v, rfl, r1⟩ := rep1 r
      have kk := k F H _ (.refl s) (.bl (isTy t d1))
      cases r1 with
      | non => exact ⟨_, _, _, _, isTy t .non, rfl, .ty _, .base .non, kit_ty (by cases t <;> decide +kernel), kk⟩
      | bl b => exact ⟨_, _, _, _, isTy t (.bl true), rfl, .ty _, .base (.bl b), kit_ty (by cases t <;> decide +kernel), kk⟩
      | int i => exact ⟨_, _, _, _, isTy t (.int 0), rfl, .ty _, .base (.int i), kit_ty (by cases t <;> decide +kernel), kk⟩
      | str x => exact ⟨_, _, _, _, isTy t (.str ⟨#[]⟩), rfl, .ty _, .base (.str x), kit_ty (by cases t <;> decide +kernel), kk⟩
      | tup h1 h2 => exact ⟨_, _, _, _, isTy t (.tup []), rfl, .ty _, .base (.tup (s _ _ h1)), kit_ty (by cases t <;> decide +kernel), kk⟩
      | kt h1 h2 => exact ⟨_, _, _, _, isTy t (.kt []), rfl, .ty _, sqT_ty (Same.tup s h1), kit_ty (by cases t <;> decide +kernel), kk⟩
      | lst h1 h2 => exact ⟨_, _, _, _, isTy t (.lst []), rfl, .ty _, .base (.lst (s _ _ h1)), kit_ty (by cases t <;> decide +kernel), kk⟩
      | fld _ _ _ _ => cases hf
      | scr _ => cases hf
    · cases e
  · cases e
end
end EM
set_option maxHeartbeats 2000000
namespace EM
open PySem PySem.Spec PyProof.Rows L2
/-! slices -/
def tOp' (K : PySem.W.Frag) (f : Env → Option (Option Int)) : TO := fun σ H Q => ∃ B F0 H0 F env o, SR K B F0 H0 F H σ env ∧ f env = some o ∧ ∀ F' H', Ext No F H F' H' → Q o H'
def oNone : Env → Option (Option Int) := fun _ => some none
def oSome (f : Env → Option D) : Env → Option (Option Int) := fun env => match f env with
  | some (.int i) => some (some i)
  | _ => none
section
variable {X : Cx} {K : PySem.W.Frag} {e a b : Expr} {es : List Expr} {p pos p2 : Pos} {x : Str} {fa : Env → Option (List D)} {f fb : Env → Option D} {lo hi : Option Expr} {fl fh : Env → Option (Option Int)}
theorem pdo_none : PO X none (tOp' X.K oNone) := ⟨fun pins s σ H Q I h => by
  obtain ⟨B, F0, H0, F, env, o, sr, he, k⟩ := h
  cases he
  exact po_none.run pins s σ H Q I (k F H sr.here)⟩
theorem pdo_some (h : PE X e (tD X.K f)) : PO X (some e) (tOp' X.K (oSome f)) := ⟨fun pins s σ H Q I q => by
  obtain ⟨B, F0, H0, F, env, o, sr, he, k⟩ := q
  unfold oSome at he
  split at he
  · rename_i i e1
    cases he
    refine (po_some h).run pins s σ H Q I ⟨B, F0, H0, F, env, .int i, sr, e1, fun F1 H1 v x1 r1 => ?_⟩
    cases r1
    exact ⟨i, rfl, k F1 H1 x1⟩
  · cases he⟩
def cutD (ds : List D) (lo hi : Option Int) : List D := (ds.drop (HT.sIx ds.length 0 lo)).take (HT.sIx ds.length ds.length hi - HT.sIx ds.length 0 lo)
def slL (fe : Env → Option D) (fl fh : Env → Option (Option Int)) : Env → Option (List D) := fun env => bnd (fe env) fun d => bnd (fl env) fun l => bnd (fh env) fun h => bnd (lstOf d) fun ds => some (cutD ds l h)
def slT (fe : Env → Option D) (fl fh : Env → Option (Option Int)) : Env → Option D := fun env => bnd (fe env) fun d => bnd (fl env) fun l => bnd (fh env) fun h => match d with
  | .tup ds => some (.tup (cutD ds l h))
  | _ => none
theorem cut_rep {F : Hp} {xs : List V} {ds : List D} (h : RepAll K F xs ds) (lo hi : Option Int) : RepAll K F (cutV xs lo hi) (cutD ds lo hi) := by
  unfold cutV cutD
  rw [h.length]
  exact (h.drop _).take _
theorem pn_slL (he : PE X e (tD X.K f)) (hl : PO X lo (tOp' X.K fl)) (hh : PO X hi (tOp' X.K fh)) : PE X (.Subscript e (.Slice lo hi none p2) pos) (tN X.K (slL f fl fh)) := by
  refine PE.imp (pe_slice sl_list he hl hh) fun σ H Q h => ?_
  obtain ⟨B, F0, H0, F, env, ds', sr, he, k⟩ := h
  obtain ⟨d, e1, he⟩ := bnd_some he
  obtain ⟨l, e2, he⟩ := bnd_some he
  obtain ⟨u, e3, he⟩ := bnd_some he
  obtain ⟨ds, e4, he⟩ := bnd_some he
  cases he
  refine ⟨B, F0, H0, F, env, d, sr, e1, fun F1 H1 v x1 r1 => ⟨B, F0, H0, F1, env, l, sr.go x1, e2, fun F2 H2 x2 => ⟨B, F0, H0, F2, env, u, (sr.go x1).go x2, e3, fun F3 H3 x3 => ?_⟩⟩⟩
  obtain ⟨a, xs, rfl, h1, h2⟩ := r1.lstOf e4
  have y := x2.trans x3
  exact ⟨a, xs, rfl, Same.seq (y.sub.trans y.sup) h1, fun p hp => k F3 H3 p _ (x1.trans y) hp (cut_rep (h2.up y.sub) l u)⟩
theorem cut_all {xs : List V} {lo hi : Option Int} (h : HT.sIx xs.length 0 lo = 0 ∧ HT.sIx xs.length xs.length hi = xs.length) : cutV xs lo hi = xs := by
  unfold cutV
  rw [h.1, h.2]
  simp
theorem pd_slT (he : PE X e (tD X.K f)) (hl : PO X lo (tOp' X.K fl)) (hh : PO X hi (tOp' X.K fh)) : PE X (.Subscript e (.Slice lo hi none p2) pos) (tD X.K (slT f fl fh)) := by
  refine PE.imp (pe_slice sl_tupA he hl hh) fun σ H Q h => ?_
  obtain ⟨B, F0, H0, F, env, d', sr, he, k⟩ := h
  obtain ⟨d, e1, he⟩ := bnd_some he
  obtain ⟨l, e2, he⟩ := bnd_some he
  obtain ⟨u, e3, he⟩ := bnd_some he
  refine ⟨B, F0, H0, F, env, d, sr, e1, fun F1 H1 v x1 r1 => ⟨B, F0, H0, F1, env, l, sr.go x1, e2, fun F2 H2 x2 => ⟨B, F0, H0, F2, env, u, (sr.go x1).go x2, e3, fun F3 H3 x3 => ?_⟩⟩⟩
  split at he
  · rename_i ds
    cases he
    cases r1 with
    | tup h1 h2 =>
      rename_i a xs
      have y := x2.trans x3
      refine ⟨a, xs, rfl, .of (y.sup _ _ (y.sub _ _ h1)), fun c => ?_, fun c p hp => ?_⟩
      · have q := cut_rep h2 l u
        rw [cut_all c] at q
        exact k F3 H3 _ (x1.trans y) (.tup (y.sub _ _ h1) (q.up y.sub))
      · have z := Ext.lay y.sup (o := .tup (cutV xs l u)) hp
        exact k _ _ _ (x1.trans (y.trans z)) (.tup upd_same ((cut_rep h2 l u).up (y.sub.trans z.sub)))
  · cases he
def revL (fe : Env → Option D) : Env → Option (List D) := fun env => bnd (fe env) fun d => bnd (lstOf d) fun ds => some ds.reverse
theorem pn_revL {k : Nat} {p1 p2 p3 : Pos} (he : PE X e (tD X.K f)) : PE X (.Subscript e (.Slice none none (some (.UnaryOp .USub (.Constant (.int 1) k p1) p2)) p3) pos) (tN X.K (revL f)) := by
  refine PE.imp (pe_revL he) fun σ H Q h => ?_
  obtain ⟨B, F0, H0, F, env, d', sr, he, k⟩ := h
  obtain ⟨d, e1, he⟩ := bnd_some he
  obtain ⟨ds, e2, he⟩ := bnd_some he
  cases he
  refine ⟨B, F0, H0, F, env, d, sr, e1, fun F1 H1 v x1 r1 => ?_⟩
  obtain ⟨a, xs, rfl, h1, h2⟩ := r1.lstOf e2
  exact ⟨a, xs, rfl, Same.seq x1.sup h1, fun p hp => k F1 H1 p _ x1 hp h2.rev⟩
/-! own lists read -/
def ownAt (i : Nat) (env : Env) : Option (List D) := match env[i]? with
  | some (some (.own ds)) => some ds
  | _ => none
theorem ownAt_some {i : Nat} {env : Env} {ds : List D} (h : ownAt i env = some ds) : env[i]? = some (some (.own ds)) := by
  unfold ownAt at h
  split at h
  · rename_i d e
    cases h
    exact e
  · cases h
def dLenOwn (i : Nat) : Env → Option D := fun env => bnd (ownAt i env) fun ds => some (.int ds.length)
theorem pd_lenOwn (i : Nat) {x : Str} {px : Pos} (hN : X.N[i]? = some x := by rfl) (hv : Vis X.env.scope x := by first | exact Or.inl rfl | exact Or.inr (Or.inl rfl) | exact Or.inr (Or.inr rfl)) (hd : (x == ("__debug__" : Str)) = false := by decide)
    (hcd : (x == ("__classdict__" : Str)) = false := by decide) (gl : Gl X "len" := by rfl) (hm : X.mg "len" = none) (he : starEach [Expr.Name x px] X.env = (false, eval (.Name x px) X.env) :: starEach [] X.env := by rfl) (hpl : (backTo pos (starEach [] X.env)).any (·.1) = false := by rfl) :
    PE X (.Call (.Name "len" p) [.Name x px] [] pos) (tD X.K (dLenOwn i)) := by
  refine PE.imp (pe_callB call_len gl hm boot_len (pa_cons (pe_var hN hv hd hcd) pa_nil he) (by decide) (by decide) he hpl) fun σ H Q h => ?_
  obtain ⟨B, F0, H0, F, env, d, sr, he, k⟩ := h
  obtain ⟨ds, e1, e2⟩ := bnd_some he
  cases e2
  obtain ⟨v, h1, q, xs, rfl, h3, h4, h5, h6⟩ := sr.slot i _ (ownAt_some e1)
  refine ⟨_, h1, _, xs.length, rfl, .inl ⟨xs, .of h3, rfl⟩, ?_⟩
  rw [h6.length]
  exact k F H _ sr.here (.int _)
def dIxOwn (i : Nat) (f : Env → Option D) : Env → Option D := fun env => match f env with
  | some (.int j) => bnd (ownAt i env) fun ds => atI ds j
  | _ => none
theorem pd_ixOwn (i : Nat) {x : Str} {px : Pos} (hb : PE X b (tD X.K f)) (hN : X.N[i]? = some x := by rfl) (hv : Vis X.env.scope x := by first | exact Or.inl rfl | exact Or.inr (Or.inl rfl) | exact Or.inr (Or.inr rfl)) (hd : (x == ("__debug__" : Str)) = false := by decide)
    (hcd : (x == ("__classdict__" : Str)) = false := by decide) (hs : PlainIx b := by exact fun _ _ => rfl) : PE X (.Subscript (.Name x px) b pos) (tD X.K (dIxOwn i f)) := by
  refine PE.imp (pe_ix ix_list (pe_var hN hv hd hcd) hb hs) fun σ H Q h => ?_
  obtain ⟨B, F0, H0, F, env, d, sr, he, k⟩ := h
  unfold dIxOwn at he
  split at he
  · rename_i j e1
    obtain ⟨ds, e2, e3⟩ := bnd_some he
    obtain ⟨v, h1, q, xs, rfl, h3, h4, h5, h6⟩ := sr.slot i _ (ownAt_some e2)
    refine ⟨_, h1, B, F0, H0, F, env, .int j, sr, e1, fun F1 H1 w x1 r1 => ?_⟩
    cases r1
    obtain ⟨u, g1, g2⟩ := h6.atI e3
    exact ⟨q, xs, j, u, rfl, rfl, .of (x1.keep _ _ (fun z => z) h3), g1, k F1 H1 u x1 (g2.up x1.sub)⟩
  · cases he
/-! dicts read -/
def mget : Mp → Int × Int → Option Int
  | [], _ => none
  | (k, c) :: r, q => if k.1 == q.1 && k.2 == q.2 then some c else mget r q
def mhas : Mp → Int × Int → Bool
  | [], _ => false
  | (k, c) :: r, q => (k.1 == q.1 && k.2 == q.2) || mhas r q
def mset : Mp → Int × Int → Int → Mp
  | [], _, _ => []
  | (k, c) :: r, q, v => if k.1 == q.1 && k.2 == q.2 then (k, v) :: mset r q v else (k, c) :: mset r q v
def mput (m : Mp) (q : Int × Int) (v : Int) : Mp := if mhas m q then mset m q v else m ++ [(q, v)]
def key2 (q : Int × Int) : List Key := [Sum.inl q.1, Sum.inl q.2]
theorem key2_inj {k q : Int × Int} : key2 k = key2 q ↔ (k.1 == q.1 && k.2 == q.2) = true := by
  unfold key2
  simp
theorem valV_kvs : ∀ (m : Mp) (q : Int × Int), valV (kvs m) (key2 q) = (mget m q).map V.int
  | [], _ => rfl
  | (k, c) :: r, q => by
    have ih := valV_kvs r q
    show valV ((key2 k, V.int c) :: kvs r) (key2 q) = (if k.1 == q.1 && k.2 == q.2 then some c else mget r q).map V.int
    by_cases h : (k.1 == q.1 && k.2 == q.2) = true
    · rw [if_pos h, valV_pos (p := (key2 k, V.int c)) (key2_inj.mpr h)]
      rfl
    · rw [if_neg h, valV_neg (p := (key2 k, V.int c)) (fun z => h (key2_inj.mp z)), ih]
theorem any_kvs : ∀ (m : Mp) (q : Int × Int), ((kvs m).any fun kv => decide (kv.1 = key2 q)) = mhas m q
  | [], _ => rfl
  | (k, c) :: r, q => by
    have ih := any_kvs r q
    show (decide (key2 k = key2 q) || (kvs r).any fun kv => decide (kv.1 = key2 q)) = ((k.1 == q.1 && k.2 == q.2) || mhas r q)
    rw [ih]
    congr 1
    by_cases h : (k.1 == q.1 && k.2 == q.2) = true
    · rw [h, decide_eq_true (key2_inj.mpr h)]
    · rw [decide_eq_false fun z => h (key2_inj.mp z)]
      exact (Bool.eq_false_iff.mpr h).symm
theorem map_kvs : ∀ (m : Mp) (q : Int × Int) (v : Int), (kvs m).map (fun kv => if kv.1 = key2 q then (kv.1, V.int v) else kv) = kvs (mset m q v)
  | [], _, _ => rfl
  | (k, c) :: r, q, v => by
    have ih := map_kvs r q v
    show (if key2 k = key2 q then (key2 k, V.int v) else (key2 k, V.int c)) :: (kvs r).map _ = kvs (if k.1 == q.1 && k.2 == q.2 then (k, v) :: mset r q v else (k, c) :: mset r q v)
    rw [ih]
    by_cases h : (k.1 == q.1 && k.2 == q.2) = true
    · rw [if_pos h, if_pos (key2_inj.mpr h)]
      rfl
    · rw [if_neg h, if_neg fun z => h (key2_inj.mp z)]
      rfl
theorem putK_kvs (m : Mp) (q : Int × Int) (v : Int) : putK (kvs m) (key2 q) (.int v) = kvs (mput m q v) := by
  unfold putK mput
  rw [any_kvs]
  by_cases h : mhas m q = true
  · rw [if_pos h, if_pos h, map_kvs]
  · rw [if_neg h, if_neg h]
    unfold kvs
    rw [List.map_append]
    rfl
theorem kvs_length (m : Mp) : (kvs m).length = m.length := List.length_map _
def pairOf : D → Option (Int × Int)
  | .tup [.int a, .int b] => some (a, b)
  | _ => none
theorem Rep.pair {F : Hp} {v : V} {d : D} {q : Int × Int} (h : Rep K F v d) (e : pairOf d = some q) : ∃ b, v = .ref b ∧ F b = some (.tup ((key2 q).map kV)) := by
  unfold pairOf at e
  split at e
  · cases e
    cases h with
    | tup h1 h2 =>
      have e1 := RepAll.intsOf (ns := [_, _]) h2
      subst e1
      exact ⟨_, rfl, h1⟩
  · cases e
def dctAt (i : Nat) (env : Env) : Option Mp := match env[i]? with
  | some (some (.dct _ m)) => some m
  | _ => none
theorem dctAt_some {i : Nat} {env : Env} {m : Mp} (h : dctAt i env = some m) : ∃ b, env[i]? = some (some (.dct b m)) := by
  unfold dctAt at h
  split at h
  · rename_i b d e
    cases h
    exact ⟨b, e⟩
  · cases h
/-- d.get(pair, n) -/
def dGetOr (i : Nat) (f g : Env → Option D) : Env → Option D := fun env => bnd (f env) fun k => bnd (pairOf k) fun q => match g env with
  | some (.int c) => bnd (dctAt i env) fun m => some (.int ((mget m q).getD c))
  | _ => none
theorem pd_get (i : Nat) {x : Str} {px apos cpos : Pos} {u : Expr} (hu : X.A.units + 1 < cLine) (ha : PE X a (tD X.K f)) (hb : PE X u (tD X.K fb)) (m : M2 X (.Name x px) "get" apos a u cpos := by exact ⟨rfl, rfl, rfl, rfl⟩) (hN : X.N[i]? = some x := by rfl) (hv : Vis X.env.scope x := by first | exact Or.inl rfl | exact Or.inr (Or.inl rfl) | exact Or.inr (Or.inr rfl)) (hd : (x == ("__debug__" : Str)) = false := by decide)
    (hcd : (x == ("__classdict__" : Str)) = false := by decide) : PE X (.Call (.Attribute (.Name x px) "get" apos) [a, u] [] cpos) (tD X.K (dGetOr i f fb)) := by
  refine PE.imp (pe_dget2 hu (pe_var hN hv hd hcd) ha hb m) fun σ H Q h => ?_
  obtain ⟨B, F0, H0, F, env, d, sr, he, k⟩ := h
  obtain ⟨kd, e1, he⟩ := bnd_some he
  obtain ⟨q, e2, he⟩ := bnd_some he
  split at he
  · rename_i c e3
    obtain ⟨m, e4, he⟩ := bnd_some he
    cases he
    obtain ⟨bb, e5⟩ := dctAt_some e4
    obtain ⟨v, h1, p, rfl, h3, h4, h5⟩ := sr.slot i _ e5
    refine ⟨_, h1, p, rfl, .inr ⟨_, .inl h3⟩, B, F0, H0, F, env, kd, sr, e1, fun F1 H1 w x1 r1 => ?_⟩
    obtain ⟨b, rfl, g1⟩ := r1.pair e2
    refine ⟨B, F0, H0, F1, env, .int c, sr.go x1, e3, fun F2 H2 w2 x2 r2 => ?_⟩
    cases r2
    have y := x1.trans x2
    refine ⟨_, DGet.t (k := key2 q) (y.keep _ _ (fun z => z) h3) (x2.sup _ _ (x2.sub _ _ g1)), ?_⟩
    rw [valV_kvs]
    cases e5 : mget m q with
    | none =>
      rw [e5] at k
      exact k F2 H2 _ y (.int _)
    | some c' =>
      rw [e5] at k
      exact k F2 H2 _ y (.int _)
  · cases he
/-! calls of defs -/
def spD (K : PySem.W.Frag) (g : List D → Option D) : Sp := fun vs H Q _ => ∃ F ds d, Same F H ∧ RepAll K F vs ds ∧ g ds = some d ∧ ∀ F' H' v, Ext No F H F' H' → Rep K F' v d → Q v H'
theorem pd_call {CX : CXT} {k : Nat} {fn : Addr} {fd : FuncData} {ps : List Str} {g : List D → Option D} {E : XK} (G : FnOk X.prog X.w X.K X.mg X.base CX k fn fd ps (spD X.K g)) (hr : Room k X.A) (hm : X.mg x = some (.ref fn)) (hk : PySem.W.keepIn X.K (.ref fn) = true) (hb : Binds X.K fd ps [])
    (hx : Passes CX X E) (ha : PA X (e :: es) (tA X.K fa)) (hg : Gl X x := by rfl) (hdb : (x == ("__debug__" : Str)) = false := by decide) (he : starEach (e :: es) X.env = (false, eval e X.env) :: starEach es X.env := by rfl) (hpl : (backTo pos (starEach es X.env)).any (·.1) = false := by rfl) :
    PE X (.Call (.Name x p) (e :: es) [] pos) (tD X.K (cll fa g)) := by
  refine PE.imp (pe_call G hr hg hm hk hb .nil hx ha hdb he hpl) fun σ H Q h => ?_
  obtain ⟨B, F0, H0, F, env, d, sr, he, k⟩ := h
  obtain ⟨ds, e1, e2⟩ := bnd_some he
  refine ⟨B, F0, H0, F, env, ds, sr, e1, fun F1 H1 vs x1 r1 => ?_⟩
  show spD X.K g (vs ++ []) H1 Q E
  rw [List.append_nil]
  exact ⟨F1, ds, d, x1.sup, r1, e2, fun F2 H2 v x2 r2 => k F2 H2 v (x1.trans x2) r2⟩
/-! fields of a Field, its methods -/
structure ClF (K : PySem.W.Frag) (nm : Str) (C : Addr) : Prop where
  at_ : PySem.W.nsIn K mainGlobals nm = some (some (.ref C))
  cl : Cls K C
def gP : D → Option D
  | .fld p _ => some p
  | _ => none
def gRow : D → Option D
  | .fld _ r => some r
  | _ => none
theorem pd_fldP {C : Addr} (c : ClF X.K "Field" C) (n : NoAttr X.K C "p") (he : PE X e (tD X.K f)) (hb : attributeBase e "p" X.env (eval e X.env) = eval e X.env := by rfl) : PE X (.Attribute e "p" pos) (tD X.K (uop gP f)) := by
  refine PE.imp (pe_fld he hb) fun σ H Q h => ?_
  obtain ⟨B, F0, H0, F, env, d, sr, he, k⟩ := h
  obtain ⟨x, ex, hd⟩ := bnd_some he
  refine ⟨B, F0, H0, F, env, x, sr, ex, fun F1 H1 v1 x1 r1 => ?_⟩
  unfold gP at hd
  split at hd
  · cases hd
    cases r1 with
    | fld h1 h2 h3 h4 =>
      rw [c.at_] at h1
      cases h1
      exact ⟨_, C, _, _, _, rfl, x1.sup _ _ h2, c.cl, n, rfl, k F1 H1 _ x1 h3⟩
  · cases hd
theorem pd_fldRow {C : Addr} (c : ClF X.K "Field" C) (n : NoAttr X.K C "row") (he : PE X e (tD X.K f)) (hb : attributeBase e "row" X.env (eval e X.env) = eval e X.env := by rfl) : PE X (.Attribute e "row" pos) (tD X.K (uop gRow f)) := by
  refine PE.imp (pe_fld he hb) fun σ H Q h => ?_
  obtain ⟨B, F0, H0, F, env, d, sr, he, k⟩ := h
  obtain ⟨x, ex, hd⟩ := bnd_some he
  refine ⟨B, F0, H0, F, env, x, sr, ex, fun F1 H1 v1 x1 r1 => ?_⟩
  unfold gRow at hd
  split at hd
  · cases hd
    cases r1 with
    | fld h1 h2 h3 h4 =>
      rw [c.at_] at h1
      cases h1
      exact ⟨_, C, _, _, _, rfl, x1.sup _ _ h2, c.cl, n, by rfl, k F1 H1 _ x1 h4⟩
  · cases hd
def isFld : D → Bool
  | .fld _ _ => true
  | _ => false
def mll (fo : Env → Option D) (fa : Env → Option (List D)) (g : List D → Option D) : Env → Option D := fun env => bnd (fo env) fun o => bnd (fa env) fun ds => if isFld o then g (o :: ds) else none
theorem pd_fmeth {C : Addr} {CX : CXT} {k : Nat} {fn : Addr} {fd : FuncData} {ps : List Str} {g : List D → Option D} {E : XK} {m : Str} {apos : Pos} {pl : Sem Bool} (c : ClF X.K "Field" C) (hme : Meth X.K C m fn) (np : (m == ("p" : Str)) = false) (nr : (m == ("row" : Str)) = false)
    (G : FnOk X.prog X.w X.K X.mg X.base CX k fn fd ps (spD X.K g)) (hr : Room k X.A) (hb : Binds X.K fd ps []) (hx : Passes CX X E) (ho : PE X a (tD X.K f)) (ha : PA X (e :: es) (tA X.K fa))
    (hst : starEach (e :: es) X.env = (false, eval e X.env) :: starEach es X.env := by rfl) (hpl : (backTo pos (starEach es X.env)).any (·.1) = false := by rfl)
    (ht : eval (.Call (.Attribute a m apos) (e :: es) [] pos) X.env = (do
      let ov ← eval a X.env
      standAt apos.atName
      let (f, first) ← holding [ov] (getMethod ov m pl)
      callWith pos f first (backTo pos (starEach (e :: es) X.env)) (backToKw pos (keywordEach [] X.env))) := by rfl) :
    PE X (.Call (.Attribute a m apos) (e :: es) [] pos) (tD X.K (mll f fa g)) := by
  refine PE.imp (pe_meth ho c.cl hme G hr hb .nil hx ha hst hpl ht) fun σ H Q h => ?_
  obtain ⟨B, F0, H0, F, env, d, sr, he, k⟩ := h
  obtain ⟨o, e1, he⟩ := bnd_some he
  obtain ⟨ds, e2, he⟩ := bnd_some he
  split at he
  · refine ⟨B, F0, H0, F, env, o, sr, e1, fun F1 H1 v1 x1 r1 => ?_⟩
    cases r1 with
    | fld h1 h2 h3 h4 =>
      rw [c.at_] at h1
      cases h1
      refine ⟨_, _, _, rfl, x1.sup _ _ h2, by simp [List.lookup, np, nr], B, F0, H0, F1, env, ds, sr.go x1, e2, fun F2 H2 vs x2 r2 => ?_⟩
      show spD X.K g (_ :: (vs ++ [])) H2 Q E
      rw [List.append_nil]
      exact ⟨F2, _ :: ds, d, x2.sup, .cons (Rep.up (.fld c.at_ h2 h3 h4) x2.sub) r2, he, fun F3 H3 v x3 r3 => k F3 H3 v (x1.trans (x2.trans x3)) r3⟩
    | _ => rename_i z; cases z
  · cases he
theorem pd_fmeth0 {C : Addr} {CX : CXT} {k : Nat} {fn : Addr} {fd : FuncData} {ps : List Str} {g : List D → Option D} {E : XK} {m : Str} {apos : Pos} {pl : Sem Bool} (c : ClF X.K "Field" C) (hme : Meth X.K C m fn) (np : (m == ("p" : Str)) = false) (nr : (m == ("row" : Str)) = false)
    (G : FnOk X.prog X.w X.K X.mg X.base CX k fn fd ps (spD X.K g)) (hr : Room k X.A) (hb : Binds X.K fd ps []) (hx : Passes CX X E) (ho : PE X a (tD X.K f))
    (ht : eval (.Call (.Attribute a m apos) [] [] pos) X.env = (do
      let ov ← eval a X.env
      standAt apos.atName
      let (f, first) ← holding [ov] (getMethod ov m pl)
      callWith pos f first (backTo pos (starEach [] X.env)) (backToKw pos (keywordEach [] X.env))) := by rfl) :
    PE X (.Call (.Attribute a m apos) [] [] pos) (tD X.K (mll f aNil g)) := by
  refine PE.imp (pe_meth0 ho c.cl hme G hr hb .nil hx ht) fun σ H Q h => ?_
  obtain ⟨B, F0, H0, F, env, d, sr, he, k⟩ := h
  obtain ⟨o, e1, he⟩ := bnd_some he
  obtain ⟨ds, e2, he⟩ := bnd_some he
  cases e2
  split at he
  · refine ⟨B, F0, H0, F, env, o, sr, e1, fun F1 H1 v1 x1 r1 => ?_⟩
    cases r1 with
    | fld h1 h2 h3 h4 =>
      rw [c.at_] at h1
      cases h1
      refine ⟨_, _, _, rfl, x1.sup _ _ h2, by simp [List.lookup, np, nr], ?_⟩
      exact ⟨F1, [_], d, x1.sup, .cons (.fld c.at_ h2 h3 h4) .nil, he, fun F3 H3 v x3 r3 => k F3 H3 v (x1.trans x3) r3⟩
    | _ => rename_i z; cases z
  · cases he
end
end EM
set_option maxHeartbeats 2000000
namespace EM
open PySem PySem.Spec PyProof.Rows L2
/-! statements -/
def sSeq (f g : Env → Option Res) : Env → Option Res := fun env => bnd (f env) fun r => match r with
  | .nx e => g e
  | r => some r
def sNil : Env → Option Res := fun env => some (.nx env)
def sSet (i : Nat) (f : Env → Option D) : Env → Option Res := fun env => bnd (f env) fun d => some (.nx (env.set i (some (.fz d))))
def sSetN (i : Nat) (f : Env → Option (List D)) : Env → Option Res := fun env => bnd (f env) fun ds => some (.nx (env.set i (some (.own ds))))
def sFrz (i : Nat) (g : Env → Option Res) : Env → Option Res := fun env => bnd (ownAt i env) fun ds => g (env.set i (some (.fz (.lst ds))))
def sRet (f : Env → Option D) : Env → Option Res := fun env => bnd (f env) fun d => some (.rt env d)
def sIf (t : Env → Option Bool) (f g : Env → Option Res) : Env → Option Res := fun env => bnd (t env) fun c => if c then f env else g env
def sDrop (f : Env → Option D) : Env → Option Res := fun env => bnd (f env) fun _ => some (.nx env)
def sAug (i : Nat) (g : D → D → Option D) (f : Env → Option D) : Env → Option Res := fun env => bnd (dVar i env) fun x => bnd (f env) fun y => bnd (g x y) fun z => some (.nx (env.set i (some (.fz z))))
def sNever : Env → Option Res := fun _ => none
def sCt : Env → Option Res := fun env => some (.ct env)
def sApp (i : Nat) (f : Env → Option D) : Env → Option Res := fun env => bnd (f env) fun d => bnd (ownAt i env) fun ds => if ds.length < 100000 then some (.nx (env.set i (some (.own (ds ++ [d]))))) else none
def sExt (i : Nat) (f : Env → Option D) : Env → Option Res := fun env => match f env with
  | some (.lst ys) => bnd (ownAt i env) fun ds => if ds.length + ys.length ≤ 100000 then some (.nx (env.set i (some (.own (ds ++ ys))))) else none
  | _ => none
def sPut (i : Nat) (fj fv : Env → Option D) : Env → Option Res := fun env => bnd (fv env) fun v => match fj env with
  | some (.int j) => bnd (ownAt i env) fun ds => bnd (ixN ds.length j) fun k => some (.nx (env.set i (some (.own (ds.set k v)))))
  | _ => none
def sPopAt (i : Nat) (fj : Env → Option D) : Env → Option Res := fun env => match fj env with
  | some (.int j) => bnd (ownAt i env) fun ds => if 0 ≤ j ∧ j < ds.length ∧ ds.length ≤ 100000 then some (.nx (env.set i (some (.own (ds.eraseIdx j.toNat))))) else none
  | _ => none
/-! targets -/
def gD (K : PySem.W.Frag) (set : D → Env → Option Env) : TG := fun v σ H Q => ∃ B F0 H0 F env d env', SR K B F0 H0 F H σ env ∧ Rep K F v d ∧ set d env = some env' ∧ ∀ σ', SR K B F0 H0 F H σ' env' → Q σ' H
def setN (i : Nat) : D → Env → Option Env := fun d env => some (env.set i (some (.fz d)))
def setL : List Nat → List D → Env → Option Env
  | [], [], env => some env
  | i :: is, d :: ds, env => setL is ds (env.set i (some (.fz d)))
  | _, _, _ => none
def setT (is : List Nat) : D → Env → Option Env := fun d env => bnd (tupOf d) fun ds => setL is ds env
def gDs (K : PySem.W.Frag) (is : List Nat) : TGs := fun vs σ H Q => ∃ B F0 H0 F env ds env', SR K B F0 H0 F H σ env ∧ RepAll K F vs ds ∧ setL is ds env = some env' ∧ ∀ σ', SR K B F0 H0 F H σ' env' → Q σ' H
section
variable {X : Cx} {K : PySem.W.Frag} {st : Stmt} {rest : List Stmt} {e a b : Expr} {es : List Expr} {p pos p2 : Pos} {x : Str} {fa : Env → Option (List D)} {f fb : Env → Option D} {u v : Env → Option Res} {tf : Env → Option Bool}
theorem PG.imp {tg : Expr} {t t' : TG} (h : PG X tg t) (w : ∀ v σ H Q, t' v σ H Q → t v σ H Q) : PG X tg t' := ⟨fun pins s σ H v u Q I r q => h.run pins s σ H v u Q I r (w _ _ _ _ q)⟩
theorem PGs.imp {tg : List Expr} {t t' : TGs} (h : PGs X tg t) (w : ∀ v σ H Q, t' v σ H Q → t v σ H Q) : PGs X tg t' := ⟨fun pins s σ H v u Q I r q => h.run pins s σ H v u Q I r (w _ _ _ _ q)⟩
theorem dg_name (i : Nat) (hN : X.N.Nodup) (hi : X.N[i]? = some x := by rfl) (hx : Loc X.env.scope x := by first | exact .inl rfl | exact .inr rfl) (hf : X.fn x = true ∨ X.env.scope.names.lookup x = some .local := by first | exact .inl rfl | exact .inr rfl) : PG X (.Name x pos) (gD X.K (setN i)) := by
  refine PG.imp (pg_name hN hi hx hf) fun v σ H Q h => ?_
  obtain ⟨B, F0, H0, F, env, d, env', sr, r, he, k⟩ := h
  cases he
  exact k _ (sr.set i r)
theorem dgs_nil : PGs X [] (gDs X.K []) := by
  refine PGs.imp pgs_nil fun v σ H Q h => ?_
  obtain ⟨B, F0, H0, F, env, ds, env', sr, r, he, k⟩ := h
  cases ds with
  | nil =>
    cases he
    cases r
    exact ⟨rfl, k _ sr⟩
  | cons d ds => cases he
theorem dgs_cons {is : List Nat} (i : Nat) (hN : X.N.Nodup) (h2 : PGs X es (gDs X.K is)) (hi : X.N[i]? = some x := by rfl) (hx : Loc X.env.scope x := by first | exact .inl rfl | exact .inr rfl) (hf : X.fn x = true ∨ X.env.scope.names.lookup x = some .local := by first | exact .inl rfl | exact .inr rfl)
    (hs : (assignEach (Expr.Name x pos :: es) X.env).map (·.2) = assign (.Name x pos) X.env :: (assignEach es X.env).map (·.2) := by rfl) : PGs X (.Name x pos :: es) (gDs X.K (i :: is)) := by
  refine PGs.imp (pgs_cons (pg_name hN hi hx hf) h2 hs) fun v σ H Q h => ?_
  obtain ⟨B, F0, H0, F, env, ds, env', sr, r, he, k⟩ := h
  cases ds with
  | nil => cases he
  | cons d ds =>
    cases r with
    | cons r1 r2 => exact ⟨_, _, rfl, B, F0, H0, F, _, ds, env', sr.set i r1, r2, he, k⟩
theorem dg_tup {is : List Nat} {k : Nat} (h : PGs X es (gDs X.K is)) (hc : X.calm = true := by rfl) (hn : (assignEach es X.env).length = is.length := by rfl) (hst : (assignEach es X.env).findIdx? (·.1) = none := by rfl) : PG X (.Tuple es k pos) (gD X.K (setT is)) := by
  refine PG.imp (pg_tup hc h hn hst) fun v σ H Q h => ?_
  obtain ⟨B, F0, H0, F, env, d, env', sr, r, he, kk⟩ := h
  obtain ⟨ds, e1, e2⟩ := bnd_some he
  obtain ⟨a, xs, rfl, h1, h2⟩ := r.tupOf e1
  have len : ∀ (is : List Nat) (ds : List D) (env env' : Env), setL is ds env = some env' → ds.length = is.length := by
    intro is
    induction is with
    | nil =>
      intro ds env env' h
      cases ds with
      | nil => rfl
      | cons _ _ => cases h
    | cons i is ih =>
      intro ds env env' h
      cases ds with
      | nil => cases h
      | cons d ds => exact congrArg (· + 1) (ih ds _ env' h)
  exact ⟨a, xs, rfl, Same.tup sr.sup h1, by rw [h2.length]; exact len _ _ _ _ e2, B, F0, H0, F, env, ds, env', sr, h2, e2, kk⟩
/-! blocks -/
theorem pds_nil : PSs X [] (tS X.K sNil) := by
  refine PSs.imp pss_nil fun Dn σ H h => ?_
  obtain ⟨B, F0, H0, F, env, r, sr, he, k⟩ := h
  cases he
  exact k σ F H sr
theorem pds_cons (h1 : PS X st (tS X.K u)) (h2 : PSs X rest (tS X.K v)) : PSs X (st :: rest) (tS X.K (sSeq u v)) := by
  refine PSs.imp (pss_cons h1 h2) fun Dn σ H h => ?_
  obtain ⟨B, F0, H0, F, env, r, sr, he, k⟩ := h
  obtain ⟨r1, e1, e2⟩ := bnd_some he
  refine ⟨B, F0, H0, F, env, r1, sr, e1, ?_⟩
  cases r1 with
  | nx e => exact fun σ' F' H' sr' => ⟨B, F0, H0, F', e, r, sr', e2, k⟩
  | rt e d => cases e2; exact k
  | bk e => cases e2; exact k
  | ct e => cases e2; exact k
theorem pds_one (h1 : PS X st (tS X.K u)) : PSs X [st] (tS X.K u) := pss_one h1
theorem ds_frz (i : Nat) (h : PS X st (tS X.K u)) : PS X st (tS X.K (sFrz i u)) := by
  refine PS.imp h fun Dn σ H h => ?_
  obtain ⟨B, F0, H0, F, env, r, sr, he, k⟩ := h
  obtain ⟨ds, e1, e2⟩ := bnd_some he
  obtain ⟨F', sr'⟩ := sr.freeze (ownAt_some e1)
  exact ⟨B, F0, H0, F', _, r, sr', e2, k⟩
theorem ds_asg {tg : Expr} {set : D → Env → Option Env} (he : PE X e (tD X.K f)) (hg : PG X tg (gD X.K set)) (hs : swapsWithSole [tg] e pos.line X.env = pure false := by rfl) (hw : swappedStores [tg] e X.env = pure none := by rfl)
    (h1 : (assignEach [tg] X.env).map (·.2) = [assign tg X.env] := by rfl) : PS X (.Assign [tg] e pos) (tS X.K fun env => bnd (f env) fun d => bnd (set d env) fun e => some (.nx e)) := by
  refine PS.imp (ps_asg he hg hs hw h1) fun Dn σ H h => ?_
  obtain ⟨B, F0, H0, F, env, r, sr, he, k⟩ := h
  obtain ⟨d, e1, he⟩ := bnd_some he
  obtain ⟨env', e2, he⟩ := bnd_some he
  cases he
  exact ⟨B, F0, H0, F, env, d, sr, e1, fun F1 H1 v x1 r1 => ⟨B, F0, H0, F1, env, d, env', sr.go x1, r1, e2, fun σ' sr' => k σ' F1 H1 sr'⟩⟩
theorem ds_set (i : Nat) {pos' : Pos} (hN : X.N.Nodup) (he : PE X e (tD X.K f)) (hi : X.N[i]? = some x := by rfl) (hx : Loc X.env.scope x := by first | exact .inl rfl | exact .inr rfl) (hs : swapsWith e (some (.Name x pos')) pos.line X.env = pure false := by rfl) (hf : X.fn x = true ∨ X.env.scope.names.lookup x = some .local := by first | exact .inl rfl | exact .inr rfl) :
    PS X (.Assign [.Name x pos'] e pos) (tS X.K (sSet i f)) := by
  refine PS.imp (ps_set hN hi hx he hs hf) fun Dn σ H h => ?_
  obtain ⟨B, F0, H0, F, env, r, sr, he, k⟩ := h
  obtain ⟨d, e1, he⟩ := bnd_some he
  cases he
  exact ⟨B, F0, H0, F, env, d, sr, e1, fun F1 H1 v x1 r1 => k _ F1 H1 ((sr.go x1).set i r1)⟩
theorem own_new {B : Bor} {F0 H0 F H F1 H1 : Hp} {σ : St} {env : Env} {q : Addr} {xs : List V} {ds : List D} (sr : SR K B F0 H0 F H σ env) (x1 : Ext No F H F1 H1) (hp : H1 q = none) (r : RepAll K F1 xs ds) (i : Nat) : SR K B F0 H0 F1 (upd H1 q (.lst xs)) (σ.set i (some (.ref q))) (env.set i (some (.own ds))) := by
  have s1 := sr.go x1
  refine s1.setNew i hp rfl ⟨q, xs, rfl, upd_same, free_of s1.ext.sup hp, ?_, r⟩
  cases e : H0 q with
  | none => rfl
  | some o =>
    by_cases hm : MB B q
    · exact absurd hp (s1.ext.mu q hm).2
    · rw [s1.ext.keep q o hm e] at hp
      cases hp
theorem ds_setN (i : Nat) {pos' : Pos} (hN : X.N.Nodup) (he : PE X e (tN X.K fa)) (hi : X.N[i]? = some x := by rfl) (hx : Loc X.env.scope x := by first | exact .inl rfl | exact .inr rfl) (hs : swapsWith e (some (.Name x pos')) pos.line X.env = pure false := by rfl) (hf : X.fn x = true ∨ X.env.scope.names.lookup x = some .local := by first | exact .inl rfl | exact .inr rfl) :
    PS X (.Assign [.Name x pos'] e pos) (tS X.K (sSetN i fa)) := by
  refine PS.imp (ps_set hN hi hx he hs hf) fun Dn σ H h => ?_
  obtain ⟨B, F0, H0, F, env, r, sr, he, k⟩ := h
  obtain ⟨ds, e1, he⟩ := bnd_some he
  cases he
  exact ⟨B, F0, H0, F, env, ds, sr, e1, fun F1 H1 q xs x1 hp r1 => k _ F1 _ (own_new sr x1 hp r1 i)⟩
theorem ds_ret (he : PE X e (tD X.K f)) : PS X (.Return (some e) pos) (tS X.K (sRet f)) := by
  refine PS.imp (ps_ret he) fun Dn σ H h => ?_
  obtain ⟨B, F0, H0, F, env, r, sr, he, k⟩ := h
  obtain ⟨d, e1, he⟩ := bnd_some he
  cases he
  exact ⟨B, F0, H0, F, env, d, sr, e1, fun F1 H1 v x1 r1 => k σ F1 H1 v (sr.go x1) r1⟩
theorem ds_if {c : Expr} {as bs : List Stmt} (hc : PT X c (tT X.K tf)) (ha : PSs X as (tS X.K u)) (hb : PSs X bs (tS X.K v)) : PS X (.If c as bs pos) (tS X.K (sIf tf u v)) := by
  refine PS.imp (ps_if hc ha hb) fun Dn σ H h => ?_
  obtain ⟨B, F0, H0, F, env, r, sr, he, k⟩ := h
  obtain ⟨c, e1, he⟩ := bnd_some he
  refine ⟨B, F0, H0, F, env, c, sr, e1, fun F1 H1 x1 => ?_⟩
  cases c with
  | true => exact iteT ⟨B, F0, H0, F1, env, r, sr.go x1, he, k⟩
  | false => exact iteF ⟨B, F0, H0, F1, env, r, sr.go x1, he, k⟩
theorem ds_drop (he : PE X e (tD X.K f)) (hs : swapsWith e none pos.line X.env = pure false := by rfl) : PS X (.Expr e pos) (tS X.K (sDrop f)) := by
  refine PS.imp (ps_expr he hs) fun Dn σ H h => ?_
  obtain ⟨B, F0, H0, F, env, r, sr, he, k⟩ := h
  obtain ⟨d, e1, he⟩ := bnd_some he
  cases he
  exact ⟨B, F0, H0, F, env, d, sr, e1, fun F1 H1 v x1 r1 => k σ F1 H1 (sr.go x1)⟩
theorem ds_never : PS X st (tS X.K sNever) := by
  refine PS.imp ps_never fun Dn σ H h => ?_
  obtain ⟨B, F0, H0, F, env, r, sr, he, k⟩ := h
  cases he
theorem pds_never : PSs X rest (tS X.K sNever) := by
  refine PSs.imp pss_never fun Dn σ H h => ?_
  obtain ⟨B, F0, H0, F, env, r, sr, he, k⟩ := h
  cases he
theorem ds_continue : PS X (.Continue pos) (tS X.K sCt) := by
  refine PS.imp ps_continue fun Dn σ H h => ?_
  obtain ⟨B, F0, H0, F, env, r, sr, he, k⟩ := h
  cases he
  exact k σ F H sr
theorem ds_pass : PS X (.Pass pos) (tS X.K sNil) := by
  refine PS.imp ps_pass fun Dn σ H h => ?_
  obtain ⟨B, F0, H0, F, env, r, sr, he, k⟩ := h
  cases he
  exact k σ F H sr
theorem pip_of {op : Operator} {r : R2} (h : OpR X (inplaceOp op) r) : PIp X op r := h
theorem ds_aug (i : Nat) {op : Operator} {r : R2} {g : D → D → Option D} {pos' : Pos} (hN : X.N.Nodup) (ho : PIp X op r) (hg : DR2 X.K r g) (he : PE X e (tD X.K f)) (hi : X.N[i]? = some x := by rfl) (hx : Loc X.env.scope x := by first | exact .inl rfl | exact .inr rfl) (hf : X.fn x = true ∨ X.env.scope.names.lookup x = some .local := by first | exact .inl rfl | exact .inr rfl) :
    PS X (.AugAssign (.Name x pos') op e pos) (tS X.K (sAug i g f)) := by
  refine PS.imp (ps_aug hN hi hx he ho hf) fun Dn σ H h => ?_
  obtain ⟨B, F0, H0, F, env, r, sr, he, k⟩ := h
  obtain ⟨d, e1, he⟩ := bnd_some he
  obtain ⟨d2, e2, he⟩ := bnd_some he
  obtain ⟨d3, e3, he⟩ := bnd_some he
  cases he
  unfold dVar at e1
  split at e1
  · rename_i d' e0
    cases e1
    obtain ⟨v, h1, h2⟩ := sr.slot i _ e0
    refine ⟨v, h1, B, F0, H0, F, env, d2, sr, e2, fun F1 H1 w x1 r1 => ?_⟩
    exact hg F1 H1 v w _ d2 d3 _ x1.sup (Rep.up h2 x1.sub) r1 e3 fun F2 H2 z x2 r2 => k _ F2 H2 ((sr.go (x1.trans x2)).set i r2)
  · cases e1
/-! own lists changed -/
theorem own_write {B : Bor} {F0 H0 F H : Hp} {σ : St} {env : Env} (sr : SR K B F0 H0 F H σ env) {i : Nat} {ds ds' : List D} {q : Addr} {xs xs' : List V} (h1 : env[i]? = some (some (.own ds))) (h2 : σ[i]? = some (some (.ref q))) (hq : H q = some (.lst xs)) (h3 : F q = none) (h4 : H0 q = none) (r : RepAll K F xs' ds') : SR K B F0 H0 F (upd H q (.lst xs')) σ (env.set i (some (.own ds'))) :=
  sr.write h1 rfl h2 rfl h3 (.inl h4) (fun _ _ _ _ _ => ⟨xs, hq⟩) ⟨q, xs', rfl, upd_same, h3, h4, r⟩
theorem big_line {n : Nat} (h : n ≤ 100000) : n ≤ sizeLine := by
  rw [sizeLine_eq]
  omega
theorem ds_app (i : Nat) {px apos cpos : Pos} (he : PE X e (tD X.K f)) (hN : X.N[i]? = some x := by rfl) (hv : Vis X.env.scope x := by first | exact Or.inl rfl | exact Or.inr (Or.inl rfl) | exact Or.inr (Or.inr rfl)) (hd : (x == ("__debug__" : Str)) = false := by decide) (hcd : (x == ("__classdict__" : Str)) = false := by decide)
    (hbase : attributeBase (.Name x px) "append" X.env (eval (.Name x px) X.env) = eval (.Name x px) X.env := by rfl)
    (hfew : ((backTo cpos (starEach [e] X.env)).all (fun x => !x.1) && (backToKw cpos (keywordEach [] X.env)).all (fun x => x.1.isSome)
      && decide ([e].length + ([] : List Keyword).length + (if ([] : List Keyword).isEmpty then 0 else 1) < 30)) = true := by rfl)
    (hline : (apos.endLine == cpos.line) = true := by rfl) (hs : starEach [e] X.env = (false, eval e X.env) :: starEach [] X.env := by rfl) (hplain : (backTo cpos (starEach [] X.env)).any (·.1) = false := by rfl)
    (hsw : swapsWith (.Call (.Attribute (.Name x px) "append" apos) [e] [] cpos) none pos.line X.env = pure false := by rfl) :
    PS X (.Expr (.Call (.Attribute (.Name x px) "append" apos) [e] [] cpos) pos) (tS X.K (sApp i f)) := by
  refine PS.imp (ps_expr (pe_bm PySem.F.plainAttrs_list PySem.F.slot_list_append PySem.F.type_list_append mt_append (pe_var hN hv hd hcd) (pa_cons he pa_nil hs) hbase hfew hline hs hplain) hsw) fun Dn σ H h => ?_
  obtain ⟨B, F0, H0, F, env, r, sr, he, k⟩ := h
  obtain ⟨d, e1, he⟩ := bnd_some he
  obtain ⟨ds, e2, he⟩ := bnd_some he
  split at he
  · rename_i hl
    cases he
    obtain ⟨v, h1, q, xs, rfl, h3, h4, h5, h6⟩ := sr.slot i _ (ownAt_some e2)
    refine ⟨_, h1, .inl ⟨rfl, _, .of h3⟩, B, F0, H0, F, env, d, sr, e1, fun F1 H1 w x1 r1 => ?_⟩
    have g3 := x1.keep _ _ (fun z => z) h3
    refine ⟨q, xs, w, rfl, rfl, g3, Nat.lt_of_lt_of_le (by rw [h6.length]; exact hl) (big_line (Nat.le_refl _)), ?_⟩
    exact k σ F1 _ (own_write (sr.go x1) (ownAt_some e2) h1 g3 (x1.free h3 h4) h5 ((h6.up x1.sub).app (.one r1)))
  · cases he
theorem ds_ext (i : Nat) {px apos cpos : Pos} (he : PE X e (tD X.K f)) (hN : X.N[i]? = some x := by rfl) (hv : Vis X.env.scope x := by first | exact Or.inl rfl | exact Or.inr (Or.inl rfl) | exact Or.inr (Or.inr rfl)) (hd : (x == ("__debug__" : Str)) = false := by decide) (hcd : (x == ("__classdict__" : Str)) = false := by decide)
    (hbase : attributeBase (.Name x px) "extend" X.env (eval (.Name x px) X.env) = eval (.Name x px) X.env := by rfl)
    (hfew : ((backTo cpos (starEach [e] X.env)).all (fun x => !x.1) && (backToKw cpos (keywordEach [] X.env)).all (fun x => x.1.isSome)
      && decide ([e].length + ([] : List Keyword).length + (if ([] : List Keyword).isEmpty then 0 else 1) < 30)) = true := by rfl)
    (hline : (apos.endLine == cpos.line) = true := by rfl) (hs : starEach [e] X.env = (false, eval e X.env) :: starEach [] X.env := by rfl) (hplain : (backTo cpos (starEach [] X.env)).any (·.1) = false := by rfl)
    (hsw : swapsWith (.Call (.Attribute (.Name x px) "extend" apos) [e] [] cpos) none pos.line X.env = pure false := by rfl) :
    PS X (.Expr (.Call (.Attribute (.Name x px) "extend" apos) [e] [] cpos) pos) (tS X.K (sExt i f)) := by
  refine PS.imp (ps_expr (pe_bm PySem.F.plainAttrs_list PySem.F.slot_list_extend PySem.F.type_list_extend mt_extend (pe_var hN hv hd hcd) (pa_cons he pa_nil hs) hbase hfew hline hs hplain) hsw) fun Dn σ H h => ?_
  obtain ⟨B, F0, H0, F, env, r, sr, he, k⟩ := h
  unfold sExt at he
  split at he
  · rename_i ys e1
    obtain ⟨ds, e2, he⟩ := bnd_some he
    split at he
    · rename_i hl
      cases he
      obtain ⟨v, h1, q, xs, rfl, h3, h4, h5, h6⟩ := sr.slot i _ (ownAt_some e2)
      refine ⟨_, h1, .inl ⟨rfl, _, .of h3⟩, B, F0, H0, F, env, .lst ys, sr, e1, fun F1 H1 w x1 r1 => ?_⟩
      have g3 := x1.keep _ _ (fun z => z) h3
      cases r1 with
      | lst g1 g2 =>
        refine ⟨q, _, xs, _, rfl, rfl, g3, x1.sup _ _ g1, by rw [h6.length, g2.length]; exact big_line hl, ?_⟩
        exact k σ F1 _ (own_write (sr.go x1) (ownAt_some e2) h1 g3 (x1.free h3 h4) h5 ((h6.up x1.sub).app g2))
    · cases he
  · cases he
theorem ds_popAt (i : Nat) {px apos cpos : Pos} (he : PE X e (tD X.K f)) (hN : X.N[i]? = some x := by rfl) (hv : Vis X.env.scope x := by first | exact Or.inl rfl | exact Or.inr (Or.inl rfl) | exact Or.inr (Or.inr rfl)) (hd : (x == ("__debug__" : Str)) = false := by decide) (hcd : (x == ("__classdict__" : Str)) = false := by decide)
    (hbase : attributeBase (.Name x px) "pop" X.env (eval (.Name x px) X.env) = eval (.Name x px) X.env := by rfl)
    (hfew : ((backTo cpos (starEach [e] X.env)).all (fun x => !x.1) && (backToKw cpos (keywordEach [] X.env)).all (fun x => x.1.isSome)
      && decide ([e].length + ([] : List Keyword).length + (if ([] : List Keyword).isEmpty then 0 else 1) < 30)) = true := by rfl)
    (hline : (apos.endLine == cpos.line) = true := by rfl) (hs : starEach [e] X.env = (false, eval e X.env) :: starEach [] X.env := by rfl) (hplain : (backTo cpos (starEach [] X.env)).any (·.1) = false := by rfl)
    (hsw : swapsWith (.Call (.Attribute (.Name x px) "pop" apos) [e] [] cpos) none pos.line X.env = pure false := by rfl) :
    PS X (.Expr (.Call (.Attribute (.Name x px) "pop" apos) [e] [] cpos) pos) (tS X.K (sPopAt i f)) := by
  refine PS.imp (ps_expr (pe_bm PySem.F.plainAttrs_list PySem.F.slot_list_pop PySem.F.type_list_pop mt_popAt (pe_var hN hv hd hcd) (pa_cons he pa_nil hs) hbase hfew hline hs hplain) hsw) fun Dn σ H h => ?_
  obtain ⟨B, F0, H0, F, env, r, sr, he, k⟩ := h
  unfold sPopAt at he
  split at he
  · rename_i j e1
    obtain ⟨ds, e2, he⟩ := bnd_some he
    split at he
    · rename_i hl
      cases he
      obtain ⟨v, h1, q, xs, rfl, h3, h4, h5, h6⟩ := sr.slot i _ (ownAt_some e2)
      refine ⟨_, h1, .inl ⟨rfl, _, .of h3⟩, B, F0, H0, F, env, .int j, sr, e1, fun F1 H1 w x1 r1 => ?_⟩
      have g3 := x1.keep _ _ (fun z => z) h3
      cases r1
      have l6 := h6.length
      have hj : j.toNat < xs.length := by omega
      have ej : j = ((j.toNat : Nat) : Int) := by omega
      have hix : ixN xs.length j = some j.toNat := by
        unfold ixN
        rw [if_pos hl.1, if_pos (by omega)]
      refine ⟨q, xs, j, j.toNat, xs[j.toNat], rfl, rfl, g3, by omega, by omega, (ixN_seq hix).1, List.getElem?_eq_getElem hj, ?_⟩
      exact k σ F1 _ (own_write (sr.go x1) (ownAt_some e2) h1 g3 (x1.free h3 h4) h5 ((h6.up x1.sub).erase _))
    · cases he
  · cases he
theorem ds_put (i : Nat) {px tpos : Pos} {fj : Env → Option D} (hj : PE X b (tD X.K fj)) (he : PE X e (tD X.K f)) (hN : X.N[i]? = some x := by rfl) (hv : Vis X.env.scope x := by first | exact Or.inl rfl | exact Or.inr (Or.inl rfl) | exact Or.inr (Or.inr rfl)) (hd : (x == ("__debug__" : Str)) = false := by decide) (hcd : (x == ("__classdict__" : Str)) = false := by decide)
    (ha : ∀ v, assign (.Subscript (.Name x px) b tpos) X.env v = (do
      let ov ← holding [v] (eval (.Name x px) X.env)
      let iv ← holding [v, ov] (eval b X.env)
      standAt tpos
      holding [v, ov, iv] (setItem ov iv v)
      release [v, ov, iv] []) := by intro _; rfl)
    (hs : swapsWithSole [.Subscript (.Name x px) b tpos] e pos.line X.env = pure false := by rfl) (hw : swappedStores [.Subscript (.Name x px) b tpos] e X.env = pure none := by rfl)
    (h1 : (assignEach [.Subscript (.Name x px) b tpos] X.env).map (·.2) = [assign (.Subscript (.Name x px) b tpos) X.env] := by rfl) :
    PS X (.Assign [.Subscript (.Name x px) b tpos] e pos) (tS X.K (sPut i fj f)) := by
  refine PS.imp (ps_asg he (pg_sub (pe_var hN hv hd hcd) hj set_list ha) hs hw h1) fun Dn σ H h => ?_
  obtain ⟨B, F0, H0, F, env, r, sr, he, k⟩ := h
  obtain ⟨d, e1, he⟩ := bnd_some he
  split at he
  · rename_i j e3
    obtain ⟨ds, e2, he⟩ := bnd_some he
    obtain ⟨kk, e4, he⟩ := bnd_some he
    cases he
    obtain ⟨v, h1, q, xs, rfl, h3, h4, h5, h6⟩ := sr.slot i _ (ownAt_some e2)
    refine ⟨B, F0, H0, F, env, d, sr, e1, fun F1 H1 w x1 r1 => ?_⟩
    refine ⟨_, h1, B, F0, H0, F1, env, .int j, sr.go x1, e3, fun F2 H2 w2 x2 r2 => ?_⟩
    have y := x1.trans x2
    have g3 := y.keep _ _ (fun z => z) h3
    cases r2
    refine ⟨q, xs, j, kk, rfl, rfl, g3, by rw [h6.length]; exact e4, ?_⟩
    exact k σ F2 _ (own_write (sr.go y) (ownAt_some e2) h1 g3 (y.free h3 h4) h5 ((h6.up y.sub).set _ (r1.up x2.sub)))
  · cases he
end
end EM
set_option maxHeartbeats 2000000
namespace EM
open PySem PySem.Spec PyProof.Rows L2
/-! what is walked -/
structure ItD (K : PySem.W.Frag) (F : Hp) (J : It) (ds : List D) : Prop where
  go : ∀ i H F1, Same F F1 → Same F1 H → i < ds.length → J.go i H
  stop : ∀ H F1, Same F F1 → Same F1 H → J.stop ds.length H
  yld : ∀ i H F1 x H', Same F F1 → Same F1 H → i < ds.length → J.yld i H x H' → ∃ F2 d, Ext No F1 H F2 H' ∧ ds[i]? = some d ∧ Rep K F2 x d
def iD (K : PySem.W.Frag) (f : Env → Option (List D)) : TI := fun σ H R => ∃ B F0 H0 F env ds, SR K B F0 H0 F H σ env ∧ f env = some ds ∧ ∀ F' H' J, Ext No F H F' H' → ItD K F' J ds → R J H'
def iSeq (f : Env → Option D) : Env → Option (List D) := fun env => bnd (f env) lstOf
def iTupD (f : Env → Option D) : Env → Option (List D) := fun env => bnd (f env) tupOf
def rng (lo : Int) : Nat → List D
  | 0 => []
  | n + 1 => .int lo :: rng (lo + 1) n
theorem rng_length : ∀ (lo : Int) (n : Nat), (rng lo n).length = n
  | _, 0 => rfl
  | lo, n + 1 => congrArg (· + 1) (rng_length (lo + 1) n)
theorem rng_get : ∀ (lo : Int) (n i : Nat), i < n → (rng lo n)[i]? = some (.int (lo + i))
  | lo, 0, i, h => absurd h (Nat.not_lt_zero _)
  | lo, n + 1, 0, _ => by
    show some (D.int lo) = some (D.int (lo + ((0 : Nat) : Int)))
    congr 2
    omega
  | lo, n + 1, i + 1, h => by
    show (rng (lo + 1) n)[i]? = _
    rw [rng_get (lo + 1) n i (by omega)]
    congr 2
    omega
def rngC (lo c : Int) : Nat → List D
  | 0 => []
  | n + 1 => .int lo :: rngC (lo + c) c n
theorem rngC_length : ∀ (lo c : Int) (n : Nat), (rngC lo c n).length = n
  | _, _, 0 => rfl
  | lo, c, n + 1 => congrArg (· + 1) (rngC_length (lo + c) c n)
theorem rngC_get : ∀ (lo c : Int) (n i : Nat), i < n → (rngC lo c n)[i]? = some (.int (lo + i * c))
  | lo, c, 0, i, h => absurd h (Nat.not_lt_zero _)
  | lo, c, n + 1, 0, _ => by
    show some (D.int lo) = some (D.int (lo + ((0 : Nat) : Int) * c))
    congr 2
    simp
  | lo, c, n + 1, i + 1, h => by
    show (rngC (lo + c) c n)[i]? = _
    rw [rngC_get (lo + c) c n i (by omega)]
    congr 2
    have : ((i + 1 : Nat) : Int) * c = c + (i : Int) * c := by
      rw [Int.natCast_add, Int.add_mul]
      simp
      omega
    omega
def smallI (i : Int) : Bool := decide (-1000000000 < i) && decide (i < 1000000000)
def iRg1 (fa : Env → Option (List D)) : Env → Option (List D) := fun env => match fa env with
  | some [.int j] => if smallI j then some (rng 0 j.toNat) else none
  | _ => none
def iRg2 (fa : Env → Option (List D)) : Env → Option (List D) := fun env => match fa env with
  | some [.int i, .int j] => if smallI i && smallI j then some (rng i (j - i).toNat) else none
  | _ => none
/-- range(i, j, -1) -/
def iRgD (fa : Env → Option (List D)) : Env → Option (List D) := fun env => match fa env with
  | some [.int i, .int j, .int c] => if smallI i && smallI j && c == -1 then some (rngC i (-1) (i - j).toNat) else none
  | _ => none
def zipD : List D → List D → List D
  | a :: as, b :: bs => .tup [a, b] :: zipD as bs
  | _, _ => []
theorem zipD_length : ∀ (as bs : List D), (zipD as bs).length = min as.length bs.length
  | [], bs => by simp [zipD]
  | _ :: _, [] => by simp [zipD]
  | a :: as, b :: bs => by
    show (zipD as bs).length + 1 = min (as.length + 1) (bs.length + 1)
    rw [zipD_length as bs]
    omega
theorem zipD_get : ∀ (as bs : List D) (i : Nat) (a b : D), as[i]? = some a → bs[i]? = some b → (zipD as bs)[i]? = some (.tup [a, b])
  | [], _, i, _, _, h, _ => by simp at h
  | _ :: _, [], i, _, _, _, h => by simp at h
  | x :: as, y :: bs, 0, a, b, h, h' => by
    have e1 : x = a := Option.some.inj h
    have e2 : y = b := Option.some.inj h'
    subst e1 e2
    rfl
  | x :: as, y :: bs, i + 1, a, b, h, h' => zipD_get as bs i a b h h'
def iZip (fa : Env → Option (List D)) : Env → Option (List D) := fun env => match fa env with
  | some [.lst as, .lst bs] => some (zipD as bs)
  | _ => none
section
variable {X : Cx} {K : PySem.W.Frag} {st : Stmt} {e a b tg iter : Expr} {es : List Expr} {p pos p2 : Pos} {x : Str} {fa : Env → Option (List D)} {f fb : Env → Option D} {u v : Env → Option Res} {tf : Env → Option Bool}
theorem PI.imp {t t' : TI} (h : PI X tg iter t) (w : ∀ σ H R, t' σ H R → t σ H R) : PI X tg iter t' := ⟨fun pins s σ H R I q => h.run pins s σ H R I (w _ _ _ q)⟩
theorem itd_list {F : Hp} {q : Addr} {xs : List V} {ds : List D} (h : SqL K F q xs) (r : RepAll K F xs ds) : ItD K F (Itl K q) ds where
  go := fun i H F1 s1 s2 hi => (walk_list (K := K) (a := q) (xs := xs)).goes i H (by rw [r.length]; exact hi) (Same.seq (s1.trans s2) h)
  stop := fun H F1 s1 s2 => by
    rw [← r.length]
    exact (walk_list (K := K) (a := q) (xs := xs)).stops H (Same.seq (s1.trans s2) h)
  yld := fun i H F1 x H' s1 s2 hi y => by
    obtain ⟨rfl, e⟩ := (walk_list (K := K) (a := q) (xs := xs)).yields i H x H' (by rw [r.length]; exact hi) (Same.seq (s1.trans s2) h) y
    obtain ⟨d, g1, g2⟩ := r.getV e
    exact ⟨F1, d, .refl s2, g1, g2.up s1⟩
theorem itd_tup {F : Hp} {q : Addr} {xs : List V} {ds : List D} (h : SqT K F q xs) (r : RepAll K F xs ds) : ItD K F (Itt K q) ds where
  go := fun i H F1 s1 s2 hi => (walk_tup (K := K) (a := q) (xs := xs)).goes i H (by rw [r.length]; exact hi) (Same.tup (s1.trans s2) h)
  stop := fun H F1 s1 s2 => by
    rw [← r.length]
    exact (walk_tup (K := K) (a := q) (xs := xs)).stops H (Same.tup (s1.trans s2) h)
  yld := fun i H F1 x H' s1 s2 hi y => by
    obtain ⟨rfl, e⟩ := (walk_tup (K := K) (a := q) (xs := xs)).yields i H x H' (by rw [r.length]; exact hi) (Same.tup (s1.trans s2) h) y
    obtain ⟨d, g1, g2⟩ := r.getV e
    exact ⟨F1, d, .refl s2, g1, g2.up s1⟩
theorem itd_rng {F : Hp} {lo : Int} {n : Nat} : ItD K F (Itr lo n) (rng lo n) where
  go := fun i H F1 s1 s2 hi => by
    rw [rng_length] at hi
    exact hi
  stop := fun H F1 s1 s2 => by
    rw [rng_length]
    exact Nat.le_refl n
  yld := fun i H F1 x H' s1 s2 hi y => by
    obtain ⟨rfl, rfl⟩ := y
    rw [rng_length] at hi
    exact ⟨F1, _, .refl s2, rng_get lo n i hi, .int _⟩
theorem itd_rngC {F : Hp} {lo c : Int} {n : Nat} : ItD K F (Itc lo c n) (rngC lo c n) where
  go := fun i H F1 s1 s2 hi => by
    rw [rngC_length] at hi
    exact hi
  stop := fun H F1 s1 s2 => by
    rw [rngC_length]
    exact Nat.le_refl n
  yld := fun i H F1 x H' s1 s2 hi y => by
    obtain ⟨rfl, rfl⟩ := y
    rw [rngC_length] at hi
    exact ⟨F1, _, .refl s2, rngC_get lo c n i hi, .int _⟩
theorem pdi_list (h : PE X iter (tD X.K f)) : PI X tg iter (iD X.K (iSeq f)) := by
  refine PI.imp (pi_list h) fun σ H R h => ?_
  obtain ⟨B, F0, H0, F, env, ds, sr, he, k⟩ := h
  obtain ⟨d, e1, e2⟩ := bnd_some he
  refine ⟨B, F0, H0, F, env, d, sr, e1, fun F1 H1 v x1 r1 => ?_⟩
  obtain ⟨q, xs, rfl, h1, h2⟩ := r1.lstOf e2
  exact ⟨q, rfl, ⟨xs, Same.seq x1.sup h1⟩, k F1 H1 _ x1 (itd_list h1 h2)⟩
theorem pdi_tup (h : PE X iter (tD X.K f)) : PI X tg iter (iD X.K (iTupD f)) := by
  refine PI.imp (pi_tup h) fun σ H R h => ?_
  obtain ⟨B, F0, H0, F, env, ds, sr, he, k⟩ := h
  obtain ⟨d, e1, e2⟩ := bnd_some he
  refine ⟨B, F0, H0, F, env, d, sr, e1, fun F1 H1 v x1 r1 => ?_⟩
  obtain ⟨q, xs, rfl, h1, h2⟩ := r1.tupOf e2
  exact ⟨q, rfl, ⟨xs, Same.tup x1.sup h1⟩, k F1 H1 _ x1 (itd_tup h1 h2)⟩
theorem smallI_ok {i : Int} (h : smallI i = true) : -(2 ^ 62) ≤ i ∧ i < 2 ^ 62 := by
  unfold smallI at h
  simp only [Bool.and_eq_true, decide_eq_true_eq] at h
  omega
theorem pdi_rg1 (hm : X.mg "range" = none) (ha : PA X [a] (tA X.K fa)) (hg : Gl X "range" := by rfl) (hs : starEach [a] X.env = [(false, eval a X.env)] := by rfl) : PI X tg (.Call (.Name "range" p) [a] [] pos) (iD X.K (iRg1 fa)) := by
  refine PI.imp (pi_range1 hg hm ha hs) fun σ H R h => ?_
  obtain ⟨B, F0, H0, F, env, ds, sr, he, k⟩ := h
  unfold iRg1 at he
  split at he
  · rename_i j e1
    split at he
    · rename_i hj
      cases he
      refine ⟨B, F0, H0, F, env, _, sr, e1, fun F1 H1 vs x1 r1 => ?_⟩
      have e2 := RepAll.intsOf (ns := [j]) r1
      subst e2
      exact ⟨j, rfl, (smallI_ok hj).1, (smallI_ok hj).2, k F1 H1 _ x1 itd_rng⟩
    · cases he
  · cases he
theorem pdi_rg2 (hm : X.mg "range" = none) (ha : PA X [a, b] (tA X.K fa)) (hg : Gl X "range" := by rfl) (hs : starEach [a, b] X.env = [(false, eval a X.env), (false, eval b X.env)] := by rfl) (hs2 : starEach [b] X.env = [(false, eval b X.env)] := by rfl) : PI X tg (.Call (.Name "range" p) [a, b] [] pos) (iD X.K (iRg2 fa)) := by
  refine PI.imp (pi_range2 hg hm ha hs hs2) fun σ H R h => ?_
  obtain ⟨B, F0, H0, F, env, ds, sr, he, k⟩ := h
  unfold iRg2 at he
  split at he
  · rename_i i j e1
    split at he
    · rename_i hj
      cases he
      simp only [Bool.and_eq_true] at hj
      refine ⟨B, F0, H0, F, env, _, sr, e1, fun F1 H1 vs x1 r1 => ?_⟩
      have e2 := RepAll.intsOf (ns := [i, j]) r1
      subst e2
      exact ⟨i, j, rfl, ⟨(smallI_ok hj.1).1, (smallI_ok hj.1).2, (smallI_ok hj.2).1, (smallI_ok hj.2).2⟩, k F1 H1 _ x1 itd_rng⟩
    · cases he
  · cases he
/-! for -/
def forD (set : D → Env → Option Env) (body : Env → Option Res) : List D → Env → Option Res
  | [], env => some (.nx env)
  | d :: ds, env => bnd (set d env) fun e1 => bnd (body e1) fun r => match r with
    | .nx e2 => forD set body ds e2
    | .ct e2 => forD set body ds e2
    | .bk e2 => some (.nx e2)
    | .rt e2 d => some (.rt e2 d)
def sFor (fi : Env → Option (List D)) (set : D → Env → Option Env) (body : Env → Option Res) : Env → Option Res := fun env => bnd (fi env) fun ds => forD set body ds env
theorem post_anc {B : Bor} {F0 H0 F1 : Hp} {Dn : Ends} {r : Res} (sb : Same B.anc F1) (k : Post K B F0 H0 Dn r) : Post K ⟨B.lent, F1⟩ F0 H0 Dn r := by
  cases r with
  | nx e => exact fun σ' F' H' sr => k σ' F' H' (sr.anch (sb.trans sr.anc))
  | rt e d => exact fun σ' F' H' v sr => k σ' F' H' v (sr.anch (sb.trans sr.anc))
  | bk e => exact fun σ' F' H' sr => k σ' F' H' (sr.anch (sb.trans sr.anc))
  | ct e => exact fun σ' F' H' sr => k σ' F' H' (sr.anch (sb.trans sr.anc))
theorem ds_for {body : List Stmt} {fi : Env → Option (List D)} {set : D → Env → Option Env} (hp : PassesOwn (model X.prog X.w) X.A X.env X.xe) (hi : PI X tg iter (iD X.K fi)) (hg : PG X tg (gD X.K set)) (hb : PSs X body (tS X.K u)) (hc : X.calm = true := by rfl)
    (hs : ∀ x, foldedSetIterable iter X.env x = pure x := by intro _; rfl) : PS X (.For tg iter body [] pos) (tS X.K (sFor fi set u)) := by
  refine PS.imp (ps_for hp hc hi hg hb hs) fun Dn σ H h => ?_
  obtain ⟨B, F0, H0, F, env, r, sr, he, k⟩ := h
  obtain ⟨ds, e1, he⟩ := bnd_some he
  refine ⟨B, F0, H0, F, env, ds, sr, e1, fun F1 H1 J x1 it => ?_⟩
  have k1 := post_anc (sr.go x1).anc k
  refine ⟨fun i m σ2 H2 => m = ds.length - i ∧ i ≤ ds.length ∧ ∃ F2 env2, SR X.K ⟨B.lent, F1⟩ F0 H0 F2 H2 σ2 env2 ∧ forD set u (ds.drop i) env2 = some r, ⟨ds.length, by simp, Nat.zero_le _, F1, env, (sr.go x1).anch (Same.refl F1), he⟩, ?_⟩
  rintro i m σ2 H2 ⟨rfl, hi, F2, env2, sr2, e2⟩
  have sm : Same F1 F2 := sr2.anc
  by_cases hlt : i < ds.length
  · refine .inr ⟨it.go i H2 F2 sm sr2.sup hlt, fun σ3 H3 => i + 1 ≤ ds.length ∧ ∃ F3 env3, SR X.K ⟨B.lent, F1⟩ F0 H0 F3 H3 σ3 env3 ∧ forD set u (ds.drop (i + 1)) env3 = some r, fun σ3 H3 ⟨h1, F3, env3, h2, h4⟩ => ⟨ds.length - (i + 1), by omega, rfl, h1, F3, env3, h2, h4⟩, fun x H3 y => ?_⟩
    obtain ⟨F3, d, x3, g1, g2⟩ := it.yld i H2 F2 x H3 sm sr2.sup hlt y
    have ed : ds.drop i = d :: ds.drop (i + 1) := by
      have q := List.getElem?_eq_some_iff.mp g1
      obtain ⟨hq, eq⟩ := q
      rw [List.drop_eq_getElem_cons hq, eq]
    rw [ed] at e2
    obtain ⟨e3, e4, e2⟩ := bnd_some (show bnd (set d env2) _ = some r from e2)
    obtain ⟨r3, e5, e6⟩ := bnd_some e2
    refine ⟨⟨B.lent, F1⟩, F0, H0, F3, env2, d, e3, sr2.go x3, g2, e4, fun σ4 sr4 => ?_⟩
    refine ⟨⟨B.lent, F1⟩, F0, H0, F3, e3, r3, sr4, e5, ?_⟩
    cases r3 with
    | nx e => exact fun σ5 F5 H5 sr5 => ⟨hlt, F5, e, sr5, e6⟩
    | ct e => exact fun σ5 F5 H5 sr5 => ⟨hlt, F5, e, sr5, e6⟩
    | bk e =>
      cases e6
      exact k1
    | rt e d =>
      cases e6
      exact k1
  · have ei : i = ds.length := by omega
    subst ei
    rw [List.drop_length] at e2
    cases e2
    exact .inl ⟨it.stop H2 F2 sm sr2.sup, k1 σ2 F2 H2 sr2⟩
/-! while -/
def whileD (test : Env → Option Bool) (body : Env → Option Res) : Nat → Env → Option Res
  | 0, _ => none
  | n + 1, env => bnd (test env) fun c => if c then bnd (body env) fun r => match r with
    | .nx e2 => whileD test body n e2
    | .ct e2 => whileD test body n e2
    | .bk e2 => some (.nx e2)
    | .rt e2 d => some (.rt e2 d) else some (.nx env)
def sWhile (n : Nat) (test : Env → Option Bool) (body : Env → Option Res) : Env → Option Res := whileD test body n
theorem ds_while (n : Nat) {c : Expr} {body : List Stmt} (hp : PassesOwn (model X.prog X.w) X.A X.env X.xe) (hc : PT X c (tT X.K tf)) (hb : PSs X body (tS X.K u)) : PS X (.While c body [] pos) (tS X.K (sWhile n tf u)) := by
  refine PS.imp (ps_while hp hc hb) fun Dn σ H h => ?_
  obtain ⟨B, F0, H0, F, env, r, sr, he, k⟩ := h
  refine ⟨fun m σ2 H2 => ∃ F2 env2, SR X.K B F0 H0 F2 H2 σ2 env2 ∧ whileD tf u m env2 = some r, ⟨n, F, env, sr, he⟩, ?_⟩
  rintro m σ2 H2 ⟨F2, env2, sr2, e2⟩
  cases m with
  | zero => cases e2
  | succ m =>
    obtain ⟨c, e1, e2⟩ := bnd_some e2
    refine ⟨B, F0, H0, F2, env2, c, sr2, e1, fun F3 H3 x3 => ?_⟩
    cases c with
    | true =>
      obtain ⟨r1, e3, e4⟩ := bnd_some e2
      refine iteT ⟨fun σ4 H4 => ∃ F4 env4, SR X.K B F0 H0 F4 H4 σ4 env4 ∧ whileD tf u m env4 = some r, fun σ4 H4 q => ⟨m, Nat.lt_succ_self m, q⟩, B, F0, H0, F3, env2, r1, sr2.go x3, e3, ?_⟩
      cases r1 with
      | nx e => exact fun σ5 F5 H5 sr5 => ⟨F5, e, sr5, e4⟩
      | ct e => exact fun σ5 F5 H5 sr5 => ⟨F5, e, sr5, e4⟩
      | bk e =>
        cases e4
        exact k
      | rt e d =>
        cases e4
        exact k
    | false =>
      cases e2
      exact iteF (k σ2 F3 H3 (sr2.go x3))
/-! list comprehensions -/
def wipeE (env : Env) : List Nat → Env
  | [] => env
  | v :: vs => (wipeE env vs).set v none
def lcD (set : D → Env → Option Env) (tt : Env → Option Bool) (elt : Env → Option D) (env : Env) : List D → Option (List D)
  | [] => some []
  | d :: ds => bnd (set d env) fun e1 => bnd (tt e1) fun c => if c then bnd (elt e1) fun y => bnd (lcD set tt elt env ds) fun ys => some (y :: ys) else lcD set tt elt env ds
def tYesD : Env → Option Bool := fun _ => some true
def nLc (vs : List Nat) (fi : Env → Option (List D)) (set : D → Env → Option Env) (tt : Env → Option Bool) (elt : Env → Option D) : Env → Option (List D) := fun env => bnd (fi env) fun ds => bnd (lcD set tt elt (wipeE env vs) ds) fun zs => if zs.length ≤ 100000 then some zs else none
theorem SR.clear {B : Bor} {F0 H0 F H : Hp} {σ : St} {env : Env} (s : SR K B F0 H0 F H σ env) (i : Nat) : SR K B F0 H0 F H (σ.set i none) (env.set i none) := by
  have nij : ∀ {l : Nat} {e : EV}, (env.set i none)[l]? = some (some e) → i ≠ l := fun {l e} h z => by
    subst z
    by_cases hi : i < env.length
    · rw [List.getElem?_set_self hi] at h
      cases h
    · rw [List.getElem?_eq_none (by simp; omega)] at h
      cases h
  refine ⟨s.ext, by simp [s.len], fun j e h => ?_, s.live, s.anc, fun j k e e' p hjk h1 m1 h2 h3 m3 => ?_⟩
  · have n := nij h
    rw [List.getElem?_set_ne n] at h
    obtain ⟨w, h1, h2⟩ := s.slot j e h
    exact ⟨w, by rw [List.getElem?_set_ne n]; exact h1, h2⟩
  · have n1 := nij h1
    have n3 := nij h3
    rw [List.getElem?_set_ne n1] at h1 h2
    rw [List.getElem?_set_ne n3] at h3 ⊢
    exact s.sep j k e e' p hjk h1 m1 h2 h3 m3
theorem SR.wipe {B : Bor} {F0 H0 F H : Hp} {σ : St} {env : Env} (s : SR K B F0 H0 F H σ env) : ∀ vs : List Nat, SR K B F0 H0 F H (L2.wipe σ vs) (wipeE env vs)
  | [] => s
  | v :: vs => (s.wipe vs).clear v
/-- a target whose names are the block's own -/
def TgOk (K : PySem.W.Frag) (vs : List Nat) (g : TG) (set : D → Env → Option Env) : Prop := ∀ (B : Bor) (F0 H0 F H : Hp) (σ : St) (env env' : Env) (v : V) (d : D) (k : St → Hp → Prop), SR K B F0 H0 F H (L2.wipe σ vs) env → Rep K F v d → set d env = some env' →
  (∀ σ2, SR K B F0 H0 F H σ2 env' → L2.wipe σ2 vs = L2.wipe σ vs → k σ2 H) → g v (L2.wipe σ vs) H k
theorem tgOk_name (i : Nat) : TgOk K [i] (gName i) (setN i) := by
  intro B F0 H0 F H σ env env' v d k sr r he q
  cases he
  refine q _ (sr.set i r) ?_
  show ((σ.set i none).set i (some v)).set i none = σ.set i none
  rw [List.set_set, List.set_set]
theorem tgOk_pair (i j : Nat) (hij : i ≠ j) : TgOk K [i, j] (gTup K 2 (gCons (gName i) (gCons (gName j) gNil))) (setT [i, j]) := by
  intro B F0 H0 F H σ env env' v d k sr r he q
  obtain ⟨ds, e1, e2⟩ := bnd_some he
  obtain ⟨a, xs, rfl, h1, h2⟩ := r.tupOf e1
  match ds, e2 with
  | [d1, d2], e2 =>
    cases e2
    obtain ⟨v1, v2, rfl, r1, r2⟩ := rep2 h2
    refine ⟨a, _, rfl, Same.tup sr.sup h1, rfl, v1, [v2], rfl, v2, [], rfl, rfl, q _ ((sr.set i r1).set j r2) ?_⟩
    show (((((σ.set j none).set i none).set i (some v1)).set j (some v2)).set j none).set i none = (σ.set j none).set i none
    have e1 : ∀ (τ : St) (u w : Option V), ((τ.set i u).set j w).set i none = (τ.set j w).set i none := fun τ u w => by
      rw [List.set_comm u w hij, List.set_set]
    rw [List.set_set, List.set_set, e1, List.set_set]
  | [], e2 => cases e2
  | [_], e2 => cases e2
  | _ :: _ :: _ :: _, e2 => cases e2
theorem tLc_of {vs : List Nat} {fi : Env → Option (List D)} {g : TG} {set : D → Env → Option Env} {tt : Env → Option Bool} {f : Env → Option D} (hg : TgOk K vs g set) {σ : St} {H : Hp} {Q : VK} (h : tN K (nLc vs fi set tt f) σ H Q) : tLc (iD K fi) g (tT K tt) (tD K f) vs σ H Q := by
  obtain ⟨B, F0, H0, F, env, zs, sr, he, k⟩ := h
  obtain ⟨ds, e1, he⟩ := bnd_some he
  obtain ⟨zs', e2, he⟩ := bnd_some he
  split at he
  · rename_i hz
    cases he
    refine ⟨B, F0, H0, F, env, ds, sr, e1, fun F1 H1 J x1 it D1 hD => ?_⟩
    have s1 := (sr.go x1).wipe vs
    have hFD : F1 D1 = none := free_of x1.sup hD
    -- behind i turns: the list at D1 holds acc, what is left makes ys; D1 does not stand still
    refine ⟨fun i m H2 => m = ds.length - i ∧ i ≤ ds.length ∧ ∃ F2 H3 acc dacc ys, Ext No F1 H1 F2 H3 ∧ H3 D1 = none ∧ H2 = upd H3 D1 (.lst acc) ∧ RepAll K F2 acc dacc ∧ lcD set tt f (wipeE env vs) (ds.drop i) = some ys ∧ dacc ++ ys = zs,
      ⟨ds.length, by simp, Nat.zero_le _, F1, H1, [], [], zs, .refl x1.sup, hD, rfl, .nil, e2, rfl⟩, ?_⟩
    rintro i m H2 ⟨rfl, hi, F2, H3, acc, dacc, ys, x2, hD3, rfl, ra, e3, e4⟩
    have up1 : Same F2 (upd H3 D1 (.lst acc)) := fun b o q => by
      rw [upd_ne (ne_of_none (x2.sup _ _ q) hD3)]
      exact x2.sup _ _ q
    have hF2 : F2 D1 = none := free_of x2.sup hD3
    by_cases hlt : i < ds.length
    · refine .inr ⟨it.go i _ F2 x2.sub up1 hlt, fun H4 => i + 1 ≤ ds.length ∧ ∃ F4 H5 acc dacc ys, Ext No F1 H1 F4 H5 ∧ H5 D1 = none ∧ H4 = upd H5 D1 (.lst acc) ∧ RepAll K F4 acc dacc ∧ lcD set tt f (wipeE env vs) (ds.drop (i + 1)) = some ys ∧ dacc ++ ys = zs,
        fun H4 ⟨h1, q⟩ => ⟨ds.length - (i + 1), by omega, rfl, h1, q⟩, fun x H4 y => ?_⟩
      obtain ⟨F4, d, x4, g1, g2⟩ := it.yld i _ F2 x H4 x2.sub up1 hlt y
      have ed : ds.drop i = d :: ds.drop (i + 1) := by
        obtain ⟨hq, eq⟩ := List.getElem?_eq_some_iff.mp g1
        rw [List.drop_eq_getElem_cons hq, eq]
      rw [ed] at e3
      obtain ⟨en, e5, e3⟩ := bnd_some (show bnd (set d (wipeE env vs)) _ = some ys from e3)
      obtain ⟨c, e6, e3⟩ := bnd_some e3
      -- what any heap that goes on from here is, with D1 taken out
      have cut : ∀ {F5 H5 : Hp}, Ext No F2 (upd H3 D1 (.lst acc)) F5 H5 → H5 D1 = some (.lst acc) ∧ F5 D1 = none ∧ ∃ H6, Ext No F1 H1 F5 H6 ∧ H6 D1 = none ∧ H5 = upd H6 D1 (.lst acc) := fun {F5 H5} z => by
        have h5 : H5 D1 = some (.lst acc) := z.keep _ _ (fun w => w) upd_same
        have f5 : F5 D1 = none := z.free upd_same hF2
        refine ⟨h5, f5, fun b => if b = D1 then none else H5 b, ⟨x2.sub.trans z.sub, fun b o q => ?_, fun b o _ q => ?_, fun b o q q' => ?_, fun _ w => w.elim⟩, by simp, ?_⟩
        · have nb : b ≠ D1 := fun w => by rw [w, f5] at q; cases q
          simp only [nb, if_false]
          exact z.sup _ _ q
        · have nb : b ≠ D1 := fun w => by rw [w, hD] at q; cases q
          simp only [nb, if_false]
          refine z.keep _ _ (fun w => w) ?_
          rw [upd_ne nb]
          exact x2.keep _ _ (fun w => w) q
        · have nb : b ≠ D1 := fun w => by rw [w, f5] at q; cases q
          cases e : F2 b with
          | some u => exact x2.new b u e q'
          | none =>
            have q2 := z.new b o q e
            rw [upd_ne nb] at q2
            cases e7 : H1 b with
            | none => rfl
            | some u =>
              rw [x2.keep b u (fun w => w) e7] at q2
              cases q2
        · funext b
          unfold upd
          by_cases nb : b = D1
          · subst nb
            rw [if_pos rfl]
            exact h5
          · simp [nb]
      have sr4 : SR K B F0 H0 F4 H4 (L2.wipe σ vs) (wipeE env vs) := by
        obtain ⟨h5, f5, H6, z1, z2, z3⟩ := cut x4
        have s6 := s1.go z1
        have t : Ext No F4 H6 F4 H4 := ⟨Same.refl F4, by rw [z3]; exact fun b o q => by rw [upd_ne (ne_of_none (z1.sup _ _ q) z2)]; exact z1.sup _ _ q, fun b o _ q => by rw [z3, upd_ne (ne_of_none q z2)]; exact q, fun b o q q' => (by rw [q] at q'; cases q'), fun _ w => w.elim⟩
        exact s6.go t
      refine hg B F0 H0 F4 H4 σ (wipeE env vs) en x d _ sr4 g2 e5 fun σ2 sr5 hw => ⟨hw, ?_⟩
      refine ⟨B, F0, H0, F4, en, c, sr5, e6, fun F6 H6 x6 => ?_⟩
      cases c with
      | false =>
        obtain ⟨h5, f5, H7, z1, z2, z3⟩ := cut (x4.trans x6)
        exact iteF ⟨hlt, F6, H7, acc, dacc, ys, z1, z2, z3, ra.up (x4.trans x6).sub, e3, e4⟩
      | true =>
        obtain ⟨yv, e7, e3⟩ := bnd_some (show bnd (f en) _ = some ys from e3)
        obtain ⟨ys', e8, e9⟩ := bnd_some e3
        cases e9
        refine iteT ⟨B, F0, H0, F6, en, yv, sr5.go x6, e7, fun F7 H7 w x7 r7 => ?_⟩
        obtain ⟨h5, f5, H8, z1, z2, z3⟩ := cut (x4.trans (x6.trans x7))
        refine ⟨acc, h5, ?_, hlt, F7, H8, acc ++ [w], dacc ++ [yv], ys', z1, z2, ?_, (ra.up (x4.trans (x6.trans x7)).sub).app (.one r7), e8, by rw [List.append_assoc]; exact e4⟩
        · have l1 := ra.length
          have l2 : zs.length = dacc.length + (yv :: ys').length := by rw [← e4, List.length_append]
          rw [List.length_cons] at l2
          rw [sizeLine_eq]
          omega
        · rw [z3, upd_upd]
    · have ei : i = ds.length := by omega
      subst ei
      rw [List.drop_length] at e3
      cases e3
      rw [List.append_nil] at e4
      subst e4
      exact .inl ⟨it.stop _ F2 x2.sub up1, k F2 H3 D1 acc (x1.trans x2) hD3 ra⟩
  · cases he
theorem pts_no : PTs X [] (tT X.K tYesD) := ⟨fun pins s σ H Q I h => by
  obtain ⟨B, F0, H0, F, env, b, sr, he, k⟩ := h
  cases he
  exact pts_nil.run pins s σ H Q I (k F H sr.here)⟩
theorem pts_if {c : Expr} (h : PT X c (tT X.K tf)) : PTs X [c] (tT X.K tf) := pts_one h
theorem pn_lc {elt tg iter : Expr} {ifs : List Expr} {scope : Scope} {fi : Env → Option (List D)} {g : TG} {set : D → Env → Option Env} {tt : Env → Option Bool} (own : List (Str × Nat)) (hN : X.N.Nodup) (hgo : TgOk X.K (own.map (·.2)) g set) (hi : PI X tg iter (iD X.K fi)) (ok : BlkOk X.N X.env.scope scope own)
    (hg : ∀ (s : Shared) (H : Hp) (C : Addr) (cl : List (Str × Addr)) (fp : List Addr), PG (X.blk s H scope (compEnvC scope cl C X.env) fp) tg g) (ht : ∀ (s : Shared) (H : Hp) (C : Addr) (cl : List (Str × Addr)) (fp : List Addr), PTs (X.blk s H scope (compEnvC scope cl C X.env) fp) ifs (tT X.K tt))
    (he : ∀ (s : Shared) (H : Hp) (C : Addr) (cl : List (Str × Addr)) (fp : List Addr), PE (X.blk s H scope (compEnvC scope cl C X.env) fp) elt (tD X.K f)) (hc : X.calm = true := by rfl) (hs : ∀ x, foldedSetIterable iter X.env x = pure x := by intro _; rfl) :
    PE X (.ListComp elt [⟨tg, iter, ifs, 0⟩] scope pos) (tN X.K (nLc (own.map (·.2)) fi set tt f)) :=
  PE.imp (pe_lc hc hN hi ok hg ht he hs) fun _ _ _ h => tLc_of hgo h
theorem ds_setLc {y : Str} {py spos : Pos} {elt tg iter : Expr} {ifs : List Expr} {scope : Scope} {fi : Env → Option (List D)} {g : TG} {set : D → Env → Option Env} {tt : Env → Option Bool} (i : Nat) (own : List (Str × Nat)) (hN : X.N.Nodup) (hgo : TgOk X.K (own.map (·.2)) g set) (hi : PI X tg iter (iD X.K fi)) (ok : BlkOk X.N X.env.scope scope own)
    (hg : ∀ (s : Shared) (H : Hp) (C : Addr) (cl : List (Str × Addr)) (fp : List Addr), PG (X.blk s H scope (compEnvC scope cl C X.env) fp) tg g) (ht : ∀ (s : Shared) (H : Hp) (C : Addr) (cl : List (Str × Addr)) (fp : List Addr), PTs (X.blk s H scope (compEnvC scope cl C X.env) fp) ifs (tT X.K tt))
    (he : ∀ (s : Shared) (H : Hp) (C : Addr) (cl : List (Str × Addr)) (fp : List Addr), PE (X.blk s H scope (compEnvC scope cl C X.env) fp) elt (tD X.K f)) (hsw : swapsWith (.ListComp elt [⟨tg, iter, ifs, 0⟩] scope pos) (some (.Name y py)) spos.line X.env = pure true := by exact sw_true rfl rfl rfl (by decide +kernel))
    (hy : X.N[i]? = some y := by rfl) (hyl : X.env.scope.names.lookup y = some .local := by rfl) (hc : X.calm = true := by rfl) (hs : ∀ x, foldedSetIterable iter X.env x = pure x := by intro _; rfl) :
    PS X (.Assign [.Name y py] (.ListComp elt [⟨tg, iter, ifs, 0⟩] scope pos) spos) (tS X.K (sSetN i (nLc (own.map (·.2)) fi set tt f))) := by
  refine PS.imp (ps_setLc hc hN hy hyl hsw hi ok hg ht he hs) fun Dn σ H h => ?_
  obtain ⟨B, F0, H0, F, env, r, sr, he, k⟩ := h
  obtain ⟨ds, e1, he⟩ := bnd_some he
  cases he
  refine tLc_of hgo ⟨B, F0, H0, F, env, ds, sr, e1, fun F1 H1 q xs x1 hp r1 => ?_⟩
  exact k _ F1 _ (own_new sr x1 hp r1 i)
end
end EM
set_option maxHeartbeats 2000000
namespace EM
open PySem PySem.Spec PyProof.Rows L2
/-! a def, by data -/
def env0 (n : Nat) (ds : List D) : Env := ds.map (fun d => some (.fz d)) ++ List.replicate (n - ds.length) none
def outD : Option Res → Option D
  | some (.rt _ d) => some d
  | some (.nx _) => some .non
  | _ => none
def runD (np nn : Nat) (g : Env → Option Res) : List D → Option D := fun ds => if ds.length = np then outD (g (env0 nn ds)) else none
theorem slot_start {K : PySem.W.Frag} {F : Hp} : ∀ {vs : List V} {ds : List D} (i : Nat) (e : EV), RepAll K F vs ds → (ds.map fun d => some (EV.fz d))[i]? = some (some e) → ∃ d, ds[i]? = some d ∧ e = .fz d := by
  intro vs ds i e h q
  rw [List.getElem?_map] at q
  cases z : ds[i]? with
  | none => rw [z] at q; cases q
  | some d =>
    rw [z] at q
    exact ⟨d, rfl, (Option.some.inj (Option.some.inj q)).symm⟩
theorem SR.start {K : PySem.W.Frag} {F H : Hp} {vs : List V} {ds : List D} (s : Same F H) (r : RepAll K F vs ds) (N : List Str) : SR K ⟨none, F⟩ F H F H (L2.start N vs) (env0 N.length ds) := by
  have key : ∀ (i : Nat) (e : EV), (env0 N.length ds)[i]? = some (some e) → ∃ d, ds[i]? = some d ∧ e = .fz d := fun i e h => by
    unfold env0 at h
    rw [List.getElem?_append] at h
    split at h
    · exact slot_start i e r h
    · rw [List.getElem?_replicate] at h
      split at h <;> cases h
  refine ⟨⟨Same.refl F, s, fun _ _ _ h => h, fun a o h h' => (by rw [h] at h'; cases h'), fun _ h => h.elim⟩, ?_, fun i e h => ?_, fun _ h => h.elim, Same.refl F, fun i j e e' p hij h1 m1 _ _ _ => ?_⟩
  · unfold L2.start env0
    simp [r.length]
  · obtain ⟨d, h1, rfl⟩ := key i e h
    obtain ⟨v, h2, h3⟩ := r.get h1
    have hi : i < vs.length := (List.getElem?_eq_some_iff.mp h2).1
    refine ⟨v, ?_, h3⟩
    unfold L2.start
    rw [List.getElem?_append_left (by simp [hi]), List.getElem?_map, h2]
    rfl
  · obtain ⟨d, _, rfl⟩ := key i e h1
    cases m1
section
variable {P : Program} {w : World} {K : PySem.W.Frag} {mg : Str → Option Value} {base : Heap} {x qual : Str} {params : Arguments} {body : List Stmt} {scope : Scope} {dvs : List V} {kws : List (Str × V)} {f : Addr} {fd : FuncData}
theorem runD_some {np nn : Nat} {g : Env → Option Res} {ds : List D} {d : D} (h : runD np nn g ds = some d) : ds.length = np ∧ ∃ r, g (env0 nn ds) = some r ∧ outD (some r) = some d := by
  unfold runD at h
  split at h
  · rename_i hl
    refine ⟨hl, ?_⟩
    cases e : g (env0 nn ds) with
    | none => rw [e] at h; cases h
    | some r => rw [e] at h; exact ⟨r, rfl, h⟩
  · cases h
theorem fn_den {N ps : List Str} {k : Nat} (F : FunD K x qual params body scope dvs kws f fd) (S : FnScope N ps scope) (g : Env → Option Res)
    (hb : ∀ (cdv : Value) (A : Around) (outer : List PySem.Env) (s : Shared) (H : Hp) (E : XK), Room k (A.deeper (envOfC qual scope s.heap.objs.size f cdv)) → PSs (cxOf CX0 P w K mg base N qual scope f cdv A outer s H E).nox body (tS K g)) :
    FnOk P w K mg base CX0 (k + 1) f fd ps (spD K (runD ps.length N.length g)) := by
  refine F.ok S (fun vs H Q E h => ?_) (fun cdv A outer s H vs Q E hr h => ?_)
  · obtain ⟨F1, ds, d, s1, r, e, _⟩ := h
    rw [r.length]
    exact (runD_some e).1
  · obtain ⟨F1, ds, d, s1, r, e, q⟩ := h
    obtain ⟨hl, res, e1, e2⟩ := runD_some e
    refine ⟨_, PSs.nox (hb cdv A outer s H E hr), ⟨none, F1⟩, F1, H, F1, env0 N.length ds, res, SR.start s1 r N, e1, ?_⟩
    cases res with
    | nx e =>
      cases e2
      exact fun σ' F' H' sr => q F' H' _ ⟨sr.ext.sub, sr.ext.sup, fun a o _ h => sr.ext.keep a o (fun z => z) h, sr.ext.new, fun _ z => z.elim⟩ .non
    | rt e d' =>
      cases e2
      exact fun σ' F' H' v sr r' => q F' H' v ⟨sr.ext.sub, sr.ext.sup, fun a o _ h => sr.ext.keep a o (fun z => z) h, sr.ext.new, fun _ z => z.elim⟩ r'
    | bk e => cases e2
    | ct e => cases e2
end
end EM
set_option maxHeartbeats 2000000
namespace EM
open PySem PySem.Spec PyProof.Rows L2
/-! a def that stands -/
def OkD (P : Program) (w : World) (K : PySem.W.Frag) (mg : Str → Option Value) (base : Heap) (k : Nat) (f : Addr) (ps : List Str) (sp : Sp) : Prop := ∃ fd, FnOk P w K mg base CX0 k f fd ps sp ∧ Binds K fd ps [] ∧ PySem.W.keepIn K (.ref f) = true
section
variable {X : Cx} {K : PySem.W.Frag} {st : Stmt} {rest : List Stmt} {e a b c d tg iter : Expr} {es : List Expr} {p pos p2 : Pos} {x : Str} {fa : Env → Option (List D)} {f fb fc fd : Env → Option D} {u v : Env → Option Res} {tf : Env → Option Bool}
theorem OkD.mono {P : Program} {w : World} {mg : Str → Option Value} {base : Heap} {j k : Nat} {q : Addr} {ps : List Str} {sp : Sp} (h : OkD P w K mg base j q ps sp) (hjk : j ≤ k) : OkD P w K mg base k q ps sp := by
  obtain ⟨fd, G, b, kp⟩ := h
  exact ⟨fd, G.mono hjk, b, kp⟩
theorem pd_callO {k : Nat} {fn : Addr} {ps : List Str} {g : List D → Option D} (O : OkD X.prog X.w X.K X.mg X.base k fn ps (spD X.K g)) (hr : Room k X.A) (hm : X.mg x = some (.ref fn)) (ha : PA X (e :: es) (tA X.K fa))
    (hg : Gl X x := by rfl) (hdb : (x == ("__debug__" : Str)) = false := by decide) (he : starEach (e :: es) X.env = (false, eval e X.env) :: starEach es X.env := by rfl) (hpl : (backTo pos (starEach es X.env)).any (·.1) = false := by rfl) :
    PE X (.Call (.Name x p) (e :: es) [] pos) (tD X.K (cll fa g)) := by
  obtain ⟨fd, G, b, kp⟩ := O
  exact pd_call G hr hm kp b pass0 ha hg hdb he hpl
theorem pd_fmethO {C : Addr} {k : Nat} {fn : Addr} {ps : List Str} {g : List D → Option D} {m : Str} {apos : Pos} {pl : Sem Bool} (cf : ClF X.K "Field" C) (hme : Meth X.K C m fn) (O : OkD X.prog X.w X.K X.mg X.base k fn ps (spD X.K g)) (hr : Room k X.A) (ho : PE X a (tD X.K f)) (ha : PA X (e :: es) (tA X.K fa)) (np : (m == ("p" : Str)) = false := by decide) (nr : (m == ("row" : Str)) = false := by decide)
    (hst : starEach (e :: es) X.env = (false, eval e X.env) :: starEach es X.env := by rfl) (hpl : (backTo pos (starEach es X.env)).any (·.1) = false := by rfl)
    (ht : eval (.Call (.Attribute a m apos) (e :: es) [] pos) X.env = (do
      let ov ← eval a X.env
      standAt apos.atName
      let (f, first) ← holding [ov] (getMethod ov m pl)
      callWith pos f first (backTo pos (starEach (e :: es) X.env)) (backToKw pos (keywordEach [] X.env))) := by rfl) :
    PE X (.Call (.Attribute a m apos) (e :: es) [] pos) (tD X.K (mll f fa g)) := by
  obtain ⟨fd, G, b, kp⟩ := O
  exact pd_fmeth cf hme np nr G hr b pass0 ho ha hst hpl ht
theorem pd_fmethO0 {C : Addr} {k : Nat} {fn : Addr} {ps : List Str} {g : List D → Option D} {m : Str} {apos : Pos} {pl : Sem Bool} (cf : ClF X.K "Field" C) (hme : Meth X.K C m fn) (O : OkD X.prog X.w X.K X.mg X.base k fn ps (spD X.K g)) (hr : Room k X.A) (ho : PE X a (tD X.K f)) (np : (m == ("p" : Str)) = false := by decide) (nr : (m == ("row" : Str)) = false := by decide)
    (ht : eval (.Call (.Attribute a m apos) [] [] pos) X.env = (do
      let ov ← eval a X.env
      standAt apos.atName
      let (f, first) ← holding [ov] (getMethod ov m pl)
      callWith pos f first (backTo pos (starEach [] X.env)) (backToKw pos (keywordEach [] X.env))) := by rfl) :
    PE X (.Call (.Attribute a m apos) [] [] pos) (tD X.K (mll f aNil g)) := by
  obtain ⟨fd, G, b, kp⟩ := O
  exact pd_fmeth0 cf hme np nr G hr b pass0 ho ht
/-! walked: a list or a tuple -/
def iAny (f : Env → Option D) : Env → Option (List D) := fun env => bnd (f env) seqOf
theorem pi_or {wi wi' : TI} (h : PI X tg iter wi) (h' : PI X tg iter wi') : PI X tg iter (fun σ H R => wi σ H R ∨ wi' σ H R) := ⟨fun pins s σ H R I q => q.elim (h.run pins s σ H R I) (h'.run pins s σ H R I)⟩
theorem pdi_any (h : PE X iter (tD X.K f)) : PI X tg iter (iD X.K (iAny f)) := by
  refine PI.imp (pi_or (pdi_list h) (pdi_tup h)) fun σ H R h => ?_
  obtain ⟨B, F0, H0, F, env, ds, sr, he, k⟩ := h
  obtain ⟨d, e1, e2⟩ := bnd_some he
  unfold EM.seqOf at e2
  cases e3 : lstOf d with
  | some ds' =>
    rw [e3] at e2
    cases e2
    exact .inl ⟨B, F0, H0, F, env, _, sr, by unfold iSeq; rw [e1]; exact e3, k⟩
  | none =>
    rw [e3] at e2
    exact .inr ⟨B, F0, H0, F, env, ds, sr, by unfold iTupD; rw [e1]; exact e2, k⟩
/-! zip of two lists -/
theorem itd_zip {F : Hp} {q r : Addr} {xs ys : List V} {ds es : List D} (h1 : SqL K F q xs) (r1 : RepAll K F xs ds) (h2 : SqL K F r ys) (r2 : RepAll K F ys es) : ItD K F (Itz K q r) (zipD ds es) := by
  have hn : (zipD ds es).length = min xs.length ys.length := by rw [zipD_length, r1.length, r2.length]
  have W := walk_zip (K := K) (a := q) (b := r) (xs := xs) (ys := ys) (n := (zipD ds es).length) hn
  refine ⟨fun i H F1 s1 s2 hi => W.goes i H hi ⟨Same.seq (s1.trans s2) h1, Same.seq (s1.trans s2) h2⟩, fun H F1 s1 s2 => W.stops H ⟨Same.seq (s1.trans s2) h1, Same.seq (s1.trans s2) h2⟩, fun i H F1 x H' s1 s2 hi y => ?_⟩
  obtain ⟨T, x, z, rfl, hT, rfl, e1, e2⟩ := W.yields i H x H' hi ⟨Same.seq (s1.trans s2) h1, Same.seq (s1.trans s2) h2⟩ y
  obtain ⟨d1, g1, g2⟩ := r1.getV e1
  obtain ⟨d2, g3, g4⟩ := r2.getV e2
  have l := Ext.lay s2 (o := .tup [x, z]) hT
  exact ⟨_, .tup [d1, d2], l, zipD_get ds es i d1 d2 g1 g3, .tup upd_same (.cons (g2.up (s1.trans l.sub)) (.cons (g4.up (s1.trans l.sub)) .nil))⟩
theorem pdi_zip {tpos : Pos} {elts : List Expr} {kk : Nat} (hm : X.mg "zip" = none) (ha : PA X [a, b] (tA X.K fa)) (hg : Gl X "zip" := by rfl) (hs : starEach [a, b] X.env = (false, eval a X.env) :: starEach [b] X.env := by rfl) (hpl : (backTo pos (starEach [b] X.env)).any (·.1) = false := by rfl) : PI X (.Tuple elts kk tpos) (.Call (.Name "zip" p) [a, b] [] pos) (iD X.K (iZip fa)) := by
  refine PI.imp (pi_zip hg hm ha hs hpl) fun σ H R h => ?_
  obtain ⟨B, F0, H0, F, env, ds, sr, he, k⟩ := h
  unfold iZip at he
  split at he
  · rename_i as bs e1
    cases he
    refine ⟨B, F0, H0, F, env, _, sr, e1, fun F1 H1 vs x1 r1 => ?_⟩
    obtain ⟨v1, v2, rfl, r2, r3⟩ := rep2 r1
    cases r2 with
    | lst g1 g2 =>
      cases r3 with
      | lst g3 g4 => exact ⟨_, _, _, _, rfl, .of (x1.sup _ _ g1), .of (x1.sup _ _ g3), k F1 H1 _ x1 (itd_zip (.of g1) g2 (.of g3) g4)⟩
  · cases he
/-! range(i, j, -1) -/
theorem pdi_rgD (hm : X.mg "range" = none) (ha : PA X [a, b, c] (tA X.K fa)) (hg : Gl X "range" := by rfl) (hs : starEach [a, b, c] X.env = (false, eval a X.env) :: starEach [b, c] X.env := by rfl) (hpl : (backTo pos (starEach [b, c] X.env)).any (·.1) = false := by rfl) : PI X tg (.Call (.Name "range" p) [a, b, c] [] pos) (iD X.K (iRgD fa)) := by
  refine PI.imp (pi_range3 hg hm ha hs hpl) fun σ H R h => ?_
  obtain ⟨B, F0, H0, F, env, ds, sr, he, k⟩ := h
  unfold iRgD at he
  split at he
  · rename_i i j c' e1
    split at he
    · rename_i hj
      cases he
      simp only [Bool.and_eq_true, beq_iff_eq] at hj
      obtain ⟨⟨h1, h2⟩, h3⟩ := hj
      subst h3
      refine ⟨B, F0, H0, F, env, _, sr, e1, fun F1 H1 vs x1 r1 => ?_⟩
      have e2 := RepAll.intsOf (ns := [i, j, -1]) r1
      subst e2
      refine ⟨i, j, -1, (i - j).toNat, rfl, ?_, k F1 H1 _ x1 itd_rngC⟩
      have q1 := smallI_ok h1
      have q2 := smallI_ok h2
      exact RgC.neg (by omega) (by omega) (by omega) (by omega)
    · cases he
  · cases he
/-! slices of lists and tuples -/
def dSl (f : Env → Option D) (fl fh : Env → Option (Option Int)) : Env → Option D := fun env => match slT f fl fh env with
  | some d => some d
  | none => bnd (slL f fl fh env) fun ds => some (.lst ds)
theorem pe_or {t t' : TE} (h : PE X e t) (h' : PE X e t') : PE X e (fun σ H Q => t σ H Q ∨ t' σ H Q) := ⟨fun pins s σ H Q I q => q.elim (h.run pins s σ H Q I) (h'.run pins s σ H Q I)⟩
theorem pd_sl {lo hi : Option Expr} {fl fh : Env → Option (Option Int)} (he : PE X e (tD X.K f)) (hl : PO X lo (tOp' X.K fl)) (hh : PO X hi (tOp' X.K fh)) : PE X (.Subscript e (.Slice lo hi none p2) pos) (tD X.K (dSl f fl fh)) := by
  refine PE.imp (pe_or (pd_slT he hl hh) (pd_ofN (pn_slL he hl hh))) fun σ H Q h => ?_
  obtain ⟨B, F0, H0, F, env, d', sr, he, k⟩ := h
  unfold dSl at he
  split at he
  · rename_i e1
    cases he
    exact .inl ⟨B, F0, H0, F, env, _, sr, e1, k⟩
  · exact .inr ⟨B, F0, H0, F, env, d', sr, he, k⟩
/-! y = [..], to stand still -/
theorem ds_setLcF {y : Str} {py spos : Pos} {elt tg iter : Expr} {ifs : List Expr} {scope : Scope} {fi : Env → Option (List D)} {g : TG} {set : D → Env → Option Env} {tt : Env → Option Bool} (i : Nat) (own : List (Str × Nat)) (hN : X.N.Nodup) (hgo : TgOk X.K (own.map (·.2)) g set) (hi : PI X tg iter (iD X.K fi)) (ok : BlkOk X.N X.env.scope scope own)
    (hg : ∀ (s : Shared) (H : Hp) (C : Addr) (cl : List (Str × Addr)) (fp : List Addr), PG (X.blk s H scope (compEnvC scope cl C X.env) fp) tg g) (ht : ∀ (s : Shared) (H : Hp) (C : Addr) (cl : List (Str × Addr)) (fp : List Addr), PTs (X.blk s H scope (compEnvC scope cl C X.env) fp) ifs (tT X.K tt))
    (he : ∀ (s : Shared) (H : Hp) (C : Addr) (cl : List (Str × Addr)) (fp : List Addr), PE (X.blk s H scope (compEnvC scope cl C X.env) fp) elt (tD X.K f)) (hsw : swapsWith (.ListComp elt [⟨tg, iter, ifs, 0⟩] scope pos) (some (.Name y py)) spos.line X.env = pure true := by exact sw_true rfl rfl rfl (by decide +kernel))
    (hy : X.N[i]? = some y := by rfl) (hyl : X.env.scope.names.lookup y = some .local := by rfl) (hc : X.calm = true := by rfl) (hs : ∀ x, foldedSetIterable iter X.env x = pure x := by intro _; rfl) :
    PS X (.Assign [.Name y py] (.ListComp elt [⟨tg, iter, ifs, 0⟩] scope pos) spos) (tS X.K (sSet i fun env => bnd (nLc (own.map (·.2)) fi set tt f env) fun ds => some (.lst ds))) := by
  refine PS.imp (ps_setLc hc hN hy hyl hsw hi ok hg ht he hs) fun Dn σ H h => ?_
  obtain ⟨B, F0, H0, F, env, r, sr, he, k⟩ := h
  obtain ⟨d, e1, he⟩ := bnd_some he
  obtain ⟨ds, e2, e3⟩ := bnd_some e1
  cases he
  cases e3
  refine tLc_of hgo ⟨B, F0, H0, F, env, ds, sr, e2, fun F1 H1 q xs x1 hp r1 => ?_⟩
  have l := Ext.lay x1.sup (o := .lst xs) hp
  exact k _ _ _ ((sr.go (x1.trans l)).set i (.lst upd_same (r1.up l.sub)))
/-! a < b < c < d -/
def dChain3 (g g' g'' : D → D → Option D) (fa fb fc fd : Env → Option D) : Env → Option D := fun env => bnd (fa env) fun x => bnd (fb env) fun y => match g x y with
  | some (.bl true) => bnd (fc env) fun z => (match g' y z with
    | some (.bl true) => bnd (fd env) fun w => g'' z w
    | some (.bl false) => some (.bl false)
    | _ => none)
  | some (.bl false) => some (.bl false)
  | _ => none
def tChain3 (r r' r'' : R2) (ta tb tc td : TE) : TE := fun σ H Q => ta σ H fun x H1 => tb σ H1 fun y H2 => r x y H2 fun z H3 => ∃ k, z = .bl k ∧
  (if k = true then tc σ H3 fun w' H4 => r' y w' H4 fun z' H5 => ∃ k', z' = .bl k' ∧ (if k' = true then td σ H5 fun w2 H6 => r'' w' w2 H6 Q else Q (.bl false) H5) else Q (.bl false) H3)
theorem pe_chain3 {op op' op'' : CmpOp} {r r' r'' : R2} {ta tb tc td : TE} (ho : OpR X (compareOp op) r) (ho' : OpR X (compareOp op') r') (ho'' : OpR X (compareOp op'') r'') (ha : PE X a ta) (hb : PE X b tb) (hc : PE X c tc) (hd : PE X d td)
    (hm : lastMarks [op, op', op''] [b, c, d] = false := by with_unfolding_all rfl) : PE X (.Compare a [op, op', op''] [b, c, d] pos) (tChain3 r r' r'' ta tb tc td) := by
  refine ⟨fun pins s σ H Q I h => ?_⟩
  refine Compare_chain (thn (ha.run pins s σ H _ I h) fun v s1 ⟨x, H1, I1, r1, q1⟩ => chain_link (thn (hb.run pins s1 σ H1 _ I1 q1) fun u s2 ⟨y, H2, I2, r2, q2⟩ =>
    thn (ho pins s2 σ H2 x y v u _ I2 r1 r2 q2) fun d s3 ⟨z, H3, I3, r3, k, e, q3⟩ => ?_)) hm
  subst e
  cases r3
  refine wpAny_truthy_bool ?_
  cases k with
  | false => exact ite_ff ⟨.bl false, H3, I3, rfl, q3⟩
  | true =>
    refine ite_tt (chain_link (thn (hc.run pins s3 σ H3 _ I3 q3) fun w' s4 ⟨z', H4, I4, r4, q4⟩ => thn (ho' pins s4 σ H4 y z' u w' _ I4 r2 r4 q4) fun d5 s5 ⟨z5, H5, I5, r5, k5, e5, q5⟩ => ?_))
    subst e5
    cases r5
    refine wpAny_truthy_bool ?_
    cases k5 with
    | false => exact ite_ff ⟨.bl false, H5, I5, rfl, q5⟩
    | true => exact ite_tt (chain_last (thn (hd.run pins s5 σ H5 _ I5 q5) fun w6 s6 ⟨z6, H6, I6, r6, q6⟩ => ho'' pins s6 σ H6 z' z6 w' w6 Q I6 r4 r6 q6))
theorem pt_chain3 {op op' op'' : CmpOp} {r r' r'' : R2} {ta tb tc td : TE} (ho : OpR X (compareOp op) r) (ho' : OpR X (compareOp op') r') (ho'' : OpR X (compareOp op'') r'') (ha : PE X a ta) (hb : PE X b tb) (hc : PE X c tc) (hd : PE X d td)
    (hm : lastMarks [op, op', op''] [b, c, d] = false := by with_unfolding_all rfl) : PT X (.Compare a [op, op', op''] [b, c, d] pos) (tTest (tChain3 r r' r'' ta tb tc td)) := by
  refine ⟨fun pins s σ H Q I h => ?_⟩
  refine isTrue_chain (thn (ha.run pins s σ H _ I h) fun v s1 ⟨x, H1, I1, r1, q1⟩ => test_link (thn (hb.run pins s1 σ H1 _ I1 q1) fun u s2 ⟨y, H2, I2, r2, q2⟩ =>
    thn (ho pins s2 σ H2 x y v u _ I2 r1 r2 q2) fun d s3 ⟨z, H3, I3, r3, k, e, q3⟩ => ?_)) hm
  subst e
  cases r3
  refine wpAny_truthy_bool ?_
  cases k with
  | false =>
    obtain ⟨k', e', q'⟩ := q3
    cases e'
    exact ite_ff ⟨H3, I3, q'⟩
  | true =>
    refine ite_tt (test_link (thn (hc.run pins s3 σ H3 _ I3 q3) fun w' s4 ⟨z', H4, I4, r4, q4⟩ => thn (ho' pins s4 σ H4 y z' u w' _ I4 r2 r4 q4) fun d5 s5 ⟨z5, H5, I5, r5, k5, e5, q5⟩ => ?_))
    subst e5
    cases r5
    refine wpAny_truthy_bool ?_
    cases k5 with
    | false =>
      obtain ⟨k', e', q'⟩ := q5
      cases e'
      exact ite_ff ⟨H5, I5, q'⟩
    | true =>
      refine ite_tt (test_last (thn (hd.run pins s5 σ H5 _ I5 q5) fun w6 s6 ⟨z6, H6, I6, r6, q6⟩ => thn (ho'' pins s6 σ H6 z' z6 w' w6 _ I6 r4 r6 q6) fun d7 s7 ⟨z7, H7, I7, r7, k7, e7, q7⟩ => ?_))
      subst e7
      cases r7
      exact wpAny_truthy_bool ⟨H7, I7, q7⟩
theorem tChain3_of {r r' r'' : R2} {fa : Env → Option D} {g g' g'' : D → D → Option D} (hg : DR2 K r g) (hg' : DR2 K r' g') (hg'' : DR2 K r'' g'') {σ : St} {H : Hp} {Q : VK} (h : tD K (dChain3 g g' g'' fa fb fc fd) σ H Q) : tChain3 r r' r'' (tD K fa) (tD K fb) (tD K fc) (tD K fd) σ H Q := by
  obtain ⟨B, F0, H0, F, env, d, sr, hd, k⟩ := h
  obtain ⟨x, ex, hd⟩ := bnd_some hd
  obtain ⟨y, ey, hd⟩ := bnd_some hd
  refine ⟨B, F0, H0, F, env, x, sr, ex, fun F1 H1 v1 e1 r1 => ?_⟩
  refine ⟨B, F0, H0, F1, env, y, sr.go e1, ey, fun F2 H2 v2 e2 r2 => ?_⟩
  split at hd
  · rename_i eg
    obtain ⟨z, ez, hd⟩ := bnd_some hd
    refine hg F2 H2 v1 v2 x y _ _ e2.sup (r1.up e2.sub) r2 eg fun F3 H3 v e3 r3 => ?_
    cases r3
    refine ⟨true, rfl, iteT ⟨B, F0, H0, F3, env, z, (sr.go e1).go (e2.trans e3), ez, fun F4 H4 v4 e4 r4 => ?_⟩⟩
    split at hd
    · rename_i eg2
      obtain ⟨q, eq, hd⟩ := bnd_some hd
      refine hg' F4 H4 v2 v4 y z _ _ e4.sup (r2.up (e3.trans e4).sub) r4 eg2 fun F5 H5 v5 e5 r5 => ?_
      cases r5
      refine ⟨true, rfl, iteT ⟨B, F0, H0, F5, env, q, (sr.go e1).go (e2.trans (e3.trans (e4.trans e5))), eq, fun F6 H6 v6 e6 r6 => ?_⟩⟩
      exact hg'' F6 H6 v4 v6 z q d Q e6.sup (r4.up (e5.trans e6).sub) r6 hd fun F7 H7 v7 e7 r7 => k F7 H7 v7 (e1.trans (e2.trans (e3.trans (e4.trans (e5.trans (e6.trans e7)))))) r7
    · rename_i eg2
      cases hd
      refine hg' F4 H4 v2 v4 y z _ _ e4.sup (r2.up (e3.trans e4).sub) r4 eg2 fun F5 H5 v5 e5 r5 => ?_
      cases r5
      exact ⟨false, rfl, iteF (k F5 H5 _ (e1.trans (e2.trans (e3.trans (e4.trans e5)))) (.bl false))⟩
    · cases hd
  · rename_i eg
    cases hd
    refine hg F2 H2 v1 v2 x y _ _ e2.sup (r1.up e2.sub) r2 eg fun F3 H3 v e3 r3 => ?_
    cases r3
    exact ⟨false, rfl, iteF (k F3 H3 _ (e1.trans (e2.trans e3)) (.bl false))⟩
  · cases hd
theorem pd_chain3 {op op' op'' : CmpOp} {r r' r'' : R2} {fa : Env → Option D} {g g' g'' : D → D → Option D} (ho : OpR X (compareOp op) r) (hg : DR2 X.K r g) (ho' : OpR X (compareOp op') r') (hg' : DR2 X.K r' g') (ho'' : OpR X (compareOp op'') r'') (hg'' : DR2 X.K r'' g'') (ha : PE X a (tD X.K fa)) (hb : PE X b (tD X.K fb)) (hc : PE X c (tD X.K fc)) (hd : PE X d (tD X.K fd))
    (hm : lastMarks [op, op', op''] [b, c, d] = false := by with_unfolding_all rfl) : PE X (.Compare a [op, op', op''] [b, c, d] pos) (tD X.K (dChain3 g g' g'' fa fb fc fd)) :=
  PE.imp (pe_chain3 ho ho' ho'' ha hb hc hd hm) fun _ _ _ h => tChain3_of hg hg' hg'' h
theorem pdt_chain3 {op op' op'' : CmpOp} {r r' r'' : R2} {fa : Env → Option D} {g g' g'' : D → D → Option D} (ho : OpR X (compareOp op) r) (hg : DR2 X.K r g) (ho' : OpR X (compareOp op') r') (hg' : DR2 X.K r' g') (ho'' : OpR X (compareOp op'') r'') (hg'' : DR2 X.K r'' g'') (ha : PE X a (tD X.K fa)) (hb : PE X b (tD X.K fb)) (hc : PE X c (tD X.K fc)) (hd : PE X d (tD X.K fd))
    (hm : lastMarks [op, op', op''] [b, c, d] = false := by with_unfolding_all rfl) : PT X (.Compare a [op, op', op''] [b, c, d] pos) (tT X.K (tOfD (dChain3 g g' g'' fa fb fc fd))) :=
  PT.imp (pt_chain3 ho ho' ho'' ha hb hc hd hm) fun _ _ _ h => tTest_of (fun _ _ _ h => tChain3_of hg hg' hg'' h) h
/-! isinstance -/
theorem pd_isi (t : Ty) {y : Str} {py : Pos} (hm : X.mg "isinstance" = none) (hy : X.mg y = none) (he : PE X e (tD X.K f)) (hv : bootBuiltins y = some (.type t.nm) := by decide +kernel) (hg : Gl X "isinstance" := by rfl) (hgy : Gl X y := by rfl) (hny : y ≠ "__name__" := by decide) (hdy : (y == ("__debug__" : Str)) = false := by decide)
    (h1 : starEach [e, .Name y py] X.env = (false, eval e X.env) :: starEach [.Name y py] X.env := by rfl) (h2 : starEach [Expr.Name y py] X.env = (false, eval (.Name y py) X.env) :: starEach [] X.env := by rfl) (hpl : (backTo pos (starEach [Expr.Name y py] X.env)).any (·.1) = false := by rfl) :
    PE X (.Call (.Name "isinstance" p) [e, .Name y py] [] pos) (tD X.K (cll (aCons f aNil) (gIsi t))) := by
  refine PE.imp (pe_callB call_isi hg hm (by decide +kernel) (pa_cons he (pa_cons (pe_bltn hgy hy hv (v := .ty t.nm) rfl hny hdy) pa_nil h2) h1) (by decide) (by decide) h1 hpl) fun σ H Q h => ?_
  obtain ⟨B, F0, H0, F, env, d, sr, he, k⟩ := h
  obtain ⟨ds, e1, e2⟩ := bnd_some he
  obtain ⟨x, e3, e1⟩ := bnd_some e1
  cases e1
  refine ⟨B, F0, H0, F, env, x, sr, e3, fun F1 H1 v x1 r1 => ?_⟩
  exact dr_isi t F1 H1 [v] [x] d Q x1.sup (.one r1) e2 fun F2 H2 w x2 r2 => k F2 H2 w (x1.trans x2) r2
/-! x is True -/
def gIsB : D → D → Option D
  | .bl a, .bl b => some (.bl (a == b))
  | _, _ => none
theorem dr_isB : DR2 K rIsB gIsB := by
  intro F H x y dx dy d Q s rx ry e k
  unfold gIsB at e
  split at e
  · rename_i a b
    cases e
    cases rx
    cases ry
    refine ⟨a, b, rfl, rfl, ?_⟩
    have e1 : decide (a = b) = (a == b) := by cases a <;> cases b <;> rfl
    rw [e1]
    exact k F H _ (.refl s) (.bl _)
  · cases e
/-! op= -/
def cDivP (_ j : Int) : Bool := decide (0 < j) && decide (j < 1073741824)
def gDivP : D → D → Option D := iop cDivP fun i j => i / j
theorem dr_divP : DR2 K (rI CDiv fun i j => .int (i / j)) gDivP := dr_iop fun i j h => by
  simp only [cDivP, Bool.and_eq_true, decide_eq_true_eq] at h
  exact h
def gMulI : D → D → Option D := iop cMul fun i j => i * j
theorem dr_mulI : DR2 K (rI CMul fun i j => .int (i * j)) gMulI := dr_iop cMul_ok
def gAddI : D → D → Option D := iop0 fun i j => i + j
def gSubI : D → D → Option D := iop0 fun i j => i - j
theorem dr_addI : DR2 K (rI0 fun i j => .int (i + j)) gAddI := dr_iop0
theorem dr_subI : DR2 K (rI0 fun i j => .int (i - j)) gSubI := dr_iop0
def gNeg : D → Option D
  | .int i => some (.int (-i))
  | _ => none
theorem dr_neg : DR1 K (rU fun i => .int (-i)) gNeg := by
  intro F H x dx d Q s rx e k
  unfold gNeg at e
  split at e
  · cases e
    cases rx
    exact ⟨_, rfl, k F H _ (.refl s) (.int _)⟩
  · cases e
/-! x or y, by truth -/
def truD : D → Option Bool
  | .non => some false
  | .tup xs => some (!xs.isEmpty)
  | _ => none
def dOrT (f g : Env → Option D) : Env → Option D := fun env => bnd (f env) fun x => bnd (truD x) fun c => if c then some x else g env
theorem truD_ok {F H : Hp} {v : V} {x : D} {c : Bool} (s : Same F H) (r : Rep K F v x) (e : truD x = some c) : TruV K v H c := by
  unfold truD at e
  split at e
  · cases e
    cases r
    rfl
  · cases e
    cases r with
    | tup h1 h2 =>
      rename_i xs q vs
      refine .inr (.inl ⟨vs, .of (s _ _ h1), ?_⟩)
      have l := h2.length
      cases vs <;> cases xs <;> first | rfl | simp at l
  · cases e
theorem pd_orT {rest : List Expr} (ha : PE X a (tD X.K f)) (hb : PE X (.BoolOp .Or (b :: rest) pos) (tD X.K fb)) : PE X (.BoolOp .Or (a :: b :: rest) pos) (tD X.K (dOrT f fb)) := by
  refine PE.imp (pe_orT ha hb) fun σ H Q h => ?_
  obtain ⟨B, F0, H0, F, env, d, sr, he, k⟩ := h
  obtain ⟨x, e1, he⟩ := bnd_some he
  obtain ⟨c, e2, he⟩ := bnd_some he
  refine ⟨B, F0, H0, F, env, x, sr, e1, fun F1 H1 v x1 r1 => ⟨c, truD_ok x1.sup r1 e2, ?_⟩⟩
  cases c with
  | true =>
    have he := Option.some.inj (show some x = some d from he)
    subst he
    exact iteT (k F1 H1 v x1 r1)
  | false => exact iteF ⟨B, F0, H0, F1, env, d, sr.go x1, he, fun F2 H2 w x2 r2 => k F2 H2 w (x1.trans x2) r2⟩
/-! [x] * n, a new list -/
def nRep (fa fb : Env → Option D) : Env → Option (List D) := fun env => bnd (fa env) fun x => bnd (fb env) fun y => bnd (gRepL x y) fun z => match z with
  | .lst ds => some ds
  | _ => none
theorem pn_rep (ha : PE X a (tD X.K f)) (hb : PE X b (tD X.K fb)) : PE X (.BinOp a .Mult b pos) (tN X.K (nRep f fb)) := by
  refine PE.imp (pe_op op_rep ha hb) fun σ H Q h => ?_
  obtain ⟨B, F0, H0, F, env, d, sr, he, k⟩ := h
  obtain ⟨x, e1, he⟩ := bnd_some he
  obtain ⟨y, e2, he⟩ := bnd_some he
  obtain ⟨z, e3, he⟩ := bnd_some he
  refine ⟨B, F0, H0, F, env, x, sr, e1, fun F1 H1 v x1 r1 => ⟨B, F0, H0, F1, env, y, sr.go x1, e2, fun F2 H2 w x2 r2 => ?_⟩⟩
  unfold gRepL at e3
  split at e3
  · rename_i xs j
    split at e3
    · rename_i hz
      cases e3
      have he := Option.some.inj he
      subst he
      cases r1 with
      | lst h1 h2 =>
        cases r2
        exact ⟨_, _, _, rfl, rfl, x2.sup _ _ (x2.sub _ _ h1), by have := hz.2.1; omega, by have := hz.2.2; omega, by rw [h2.length]; exact line_of hz.1, fun p hp => k F2 H2 p _ (x1.trans x2) hp ((h2.rep _).up x2.sub)⟩
    · cases e3
  · cases e3
/-! list(range(n)) -/
theorem rgV_rep {F : Hp} : ∀ (n : Nat) (lo : Int), RepAll K F ((List.range n).map fun i => V.int (lo + (i : Nat))) (rng lo n)
  | 0, _ => .nil
  | n + 1, lo => by
    rw [List.range_succ_eq_map, List.map_cons, List.map_map]
    refine .cons ?_ ?_
    · have : lo + ((0 : Nat) : Int) = lo := by omega
      rw [this]
      exact .int lo
    · have q := rgV_rep (F := F) n (lo + 1)
      have e : ((fun i : Nat => V.int (lo + (i : Nat))) ∘ Nat.succ) = fun i : Nat => V.int (lo + 1 + (i : Nat)) := by
        funext i
        show V.int (lo + ((i + 1 : Nat) : Int)) = V.int (lo + 1 + (i : Int))
        congr 1
        omega
      rw [e]
      exact q
def nListRg (f : Env → Option D) : Env → Option (List D) := fun env => match f env with
  | some (.int j) => if 0 ≤ j ∧ j ≤ 100000 then some (rng 0 j.toNat) else none
  | _ => none
theorem pn_listRg {p' pos' : Pos} (hm : X.mg "list" = none) (hm2 : X.mg "range" = none) (ha : PE X a (tD X.K f)) (hg : Gl X "list" := by rfl) (hg2 : Gl X "range" := by rfl) (hc : X.calm = true := by rfl)
    (na : starEach [a] X.env = (false, eval a X.env) :: starEach [] X.env := by rfl) (na2 : starEach [Expr.Call (.Name "range" p') [a] [] pos'] X.env = (false, eval (Expr.Call (.Name "range" p') [a] [] pos') X.env) :: starEach [] X.env := by rfl) :
    PE X (.Call (.Name "list" p) [.Call (.Name "range" p') [a] [] pos'] [] pos) (tN X.K (nListRg f)) := by
  refine PE.imp (pe_listRg hc hg hm (prg_1 hg2 hm2 ha na) na2) fun σ H Q h => ?_
  obtain ⟨B, F0, H0, F, env, d, sr, he, k⟩ := h
  unfold nListRg at he
  split at he
  · rename_i j e1
    split at he
    · rename_i hj
      cases he
      refine ⟨B, F0, H0, F, env, .int j, sr, e1, fun F1 H1 v x1 r1 => ?_⟩
      cases r1
      refine ⟨j, rfl, .of_le (Int.le_refl 0) (by omega) (by omega) hj.1, fun q hq => ?_⟩
      have e2 : rgV 0 j = (List.range j.toNat).map fun i => V.int (0 + (i : Nat)) := by
        unfold rgV
        rw [Int.sub_zero]
      rw [e2]
      exact k F1 H1 q _ x1 hq (rgV_rep j.toNat 0)
    · cases he
  · cases he
/-! xs.index(x) of whole numbers -/
def idxI (i : Int) : List Int → Option Nat
  | [] => none
  | j :: js => if j == i then some 0 else bnd (idxI i js) fun k => some (k + 1)
end
end EM
set_option maxHeartbeats 2000000
namespace EM
open PySem PySem.Spec PyProof.Rows L2
def big : Nat := 100000
def dFIELDS : D := .kt [.kt [.int 2, .kt [.int 0, .int 1]], .kt [.int 3, .kt [.int 0, .int 1]], .kt [.int 2, .kt [.int 1, .int 1, .int 1]], .kt [.int 5, .kt [.int 0, .int 1]], .kt [.int 7, .kt [.int 0, .int 1]]]
theorem okD_none {P : Program} {w : World} {K : PySem.W.Frag} {mg : Str → Option Value} {base : Heap} {k : Nat} {f : Addr} {fd : FuncData} {ps : List Str} (kp : PySem.W.keepIn K (.ref f) = true) (b : Binds K fd ps []) : OkD P w K mg base k f ps (spD K fun _ => none) := by
  have no : ∀ vs H Q E, ¬ spD K (fun _ => none) vs H Q E := fun vs H Q E h => by
    obtain ⟨F, ds, d, _, _, e, _⟩ := h
    cases e
  exact ⟨fd, ⟨fun vs H Q E h => absurd h (no vs H Q E), fun A outer s H args us vs Q E _ _ _ _ h => absurd h (no vs H Q E)⟩, b, kp⟩
def sPar (i j : Nat) (fa : Env → Option (List D)) : Env → Option Res := fun env => match fa env with
  | some [x, y] => some (.nx ((env.set i (some (.fz x))).set j (some (.fz y))))
  | _ => none
section
variable {X : Cx} {K : PySem.W.Frag} {e a b c d tg iter : Expr} {es : List Expr} {p pos p2 : Pos} {fa : Env → Option (List D)} {f fb fc fd : Env → Option D}
theorem ds_par (i j : Nat) {x y : Str} {px py pt : Pos} {kt k2 pt2} (hN : X.N.Nodup) (ha : PA X [a, b] (tA X.K fa)) (hc : X.calm = true := by rfl) (hi : X.N[i]? = some x := by rfl) (hj : X.N[j]? = some y := by rfl) (hij : i ≠ j := by decide)
    (hx : X.env.scope.names.lookup x = some .local := by rfl) (hy : X.env.scope.names.lookup y = some .local := by rfl)
    (hw : swappedStores [.Tuple [.Name x px, .Name y py] kt pt] (.Tuple [a, b] k2 pt2) X.env = pure (some [x, y]) := by rfl)
    (hs : swapsWithSole [.Tuple [.Name x px, .Name y py] kt pt] (.Tuple [a, b] k2 pt2) pos.line X.env = pure false := by rfl) :
    PS X (.Assign [.Tuple [.Name x px, .Name y py] kt pt] (.Tuple [a, b] k2 pt2) pos) (tS X.K (sPar i j fa)) := by
  refine PS.imp (ps_par hc hN hi hj hij hx hy ha hw hs) fun Dn σ H h => ?_
  obtain ⟨B, F0, H0, F, env, r, sr, he, k⟩ := h
  unfold sPar at he
  split at he
  · rename_i x y e1
    cases he
    refine ⟨B, F0, H0, F, env, _, sr, e1, fun F1 H1 vs x1 r1 => ?_⟩
    obtain ⟨v, w, rfl, r2, r3⟩ := rep2 r1
    exact ⟨v, w, rfl, k _ F1 H1 (((sr.go x1).set i r2).set j r3)⟩
  · cases he
end
end EM
set_option maxHeartbeats 2000000
namespace EM
open PySem PySem.Spec PyProof.Rows L2
/-! sorting -/
def insI (i : Int) : List Int → List Int
  | [] => [i]
  | j :: js => if i ≤ j then i :: j :: js else j :: insI i js
def sortI : List Int → List Int
  | [] => []
  | i :: is => insI i (sortI is)
theorem insI_perm (i : Int) : ∀ l : List Int, (insI i l).Perm (i :: l)
  | [] => .refl _
  | j :: js => by
    unfold insI
    split
    · exact .refl _
    · exact ((insI_perm i js).cons j).trans (.swap i j js)
theorem sortI_perm : ∀ l : List Int, (sortI l).Perm l
  | [] => .refl _
  | i :: is => (insI_perm i (sortI is)).trans ((sortI_perm is).cons i)
theorem insI_sorted (i : Int) : ∀ l : List Int, l.Pairwise (· ≤ ·) → (insI i l).Pairwise (· ≤ ·)
  | [], _ => List.pairwise_singleton _ _
  | j :: js, h => by
    obtain ⟨h1, h2⟩ := List.pairwise_cons.mp h
    unfold insI
    split
    · rename_i hij
      exact List.pairwise_cons.mpr ⟨fun y hy => (List.mem_cons.mp hy).elim (fun e => by rw [e]; exact hij) fun hy => Int.le_trans hij (h1 y hy), h⟩
    · rename_i hij
      refine List.pairwise_cons.mpr ⟨fun y hy => ?_, insI_sorted i js h2⟩
      rcases List.mem_cons.mp ((insI_perm i js).mem_iff.mp hy) with e | hy
      · omega
      · exact h1 y hy
theorem sortI_sorted : ∀ l : List Int, (sortI l).Pairwise (· ≤ ·)
  | [] => List.Pairwise.nil
  | i :: is => insI_sorted i _ (sortI_sorted is)
theorem sortI_uniq {l m : List Int} (hp : m.Perm l) (hs : m.Pairwise (· ≤ ·)) : m = sortI l := PySem.W.ksm_same (hp.trans (sortI_perm l).symm) hs (sortI_sorted l)
def cd (ns : List Int) : Int := TS.code 100 ns
def insC (i : List Int) : List (List Int) → List (List Int)
  | [] => [i]
  | j :: js => if cd i ≤ cd j then i :: j :: js else j :: insC i js
def sortC : List (List Int) → List (List Int)
  | [] => []
  | i :: is => insC i (sortC is)
theorem insC_perm (i : List Int) : ∀ l : List (List Int), (insC i l).Perm (i :: l)
  | [] => .refl _
  | j :: js => by
    unfold insC
    split
    · exact .refl _
    · exact ((insC_perm i js).cons j).trans (.swap i j js)
theorem sortC_perm : ∀ l : List (List Int), (sortC l).Perm l
  | [] => .refl _
  | i :: is => (insC_perm i (sortC is)).trans ((sortC_perm is).cons i)
theorem insC_sorted (i : List Int) : ∀ l : List (List Int), l.Pairwise (fun a b => cd a ≤ cd b) → (insC i l).Pairwise (fun a b => cd a ≤ cd b)
  | [], _ => List.pairwise_singleton _ _
  | j :: js, h => by
    obtain ⟨h1, h2⟩ := List.pairwise_cons.mp h
    unfold insC
    split
    · rename_i hij
      exact List.pairwise_cons.mpr ⟨fun y hy => (List.mem_cons.mp hy).elim (fun e => by rw [e]; exact hij) fun hy => Int.le_trans hij (h1 y hy), h⟩
    · rename_i hij
      refine List.pairwise_cons.mpr ⟨fun y hy => ?_, insC_sorted i js h2⟩
      rcases List.mem_cons.mp ((insC_perm i js).mem_iff.mp hy) with e | hy
      · rw [e]; omega
      · exact h1 y hy
theorem sortC_sorted : ∀ l : List (List Int), (sortC l).Pairwise (fun a b => cd a ≤ cd b)
  | [] => List.Pairwise.nil
  | i :: is => insC_sorted i _ (sortC_sorted is)
theorem cd_inj : ∀ {a b : List Int}, a.length = b.length → TS.Bd 100 a → TS.Bd 100 b → cd a = cd b → a = b
  | [], [], _, _, _, _ => rfl
  | x :: a, y :: b, hl, ha, hb, h => by
    have hl' : a.length = b.length := Nat.succ.inj hl
    have e : x = y := by
      rcases Int.lt_trichotomy x y with q | q | q
      · have := TS.code_lt hl' ha.tail hb.tail q
        unfold cd at h
        omega
      · exact q
      · have := TS.code_lt hl'.symm hb.tail ha.tail q
        unfold cd at h
        omega
    subst e
    have h2 : cd a = cd b := by
      have h' : x * 100 ^ a.length + TS.code 100 a = x * 100 ^ b.length + TS.code 100 b := h
      rw [hl'] at h'
      unfold cd
      omega
    rw [cd_inj hl' ha.tail hb.tail h2]
theorem sortC_uniq {d : Nat} {l m : List (List Int)} (hd : ∀ a ∈ l, a.length = d ∧ TS.Bd 100 a) (hp : m.Perm l) (hs : m.Pairwise (fun a b => cd a ≤ cd b)) : m = sortC l := by
  refine List.Perm.eq_of_pairwise (le := fun a b => cd a ≤ cd b) (fun x y hx hy h1 h2 => ?_) hs (sortC_sorted l) (hp.trans (sortC_perm l).symm)
  have q1 := hd x (hp.mem_iff.mp hx)
  have q2 := hd y ((sortC_perm l).mem_iff.mp hy)
  exact cd_inj (q1.1.trans q2.1.symm) q1.2 q2.2 (by omega)
def tI (ns : List Int) : D := .tup (ns.map D.int)
def tupsOf : List D → Option (List (List Int))
  | [] => some []
  | .tup ds :: r => bnd (intsOf ds) fun ns => bnd (tupsOf r) fun ms => some (ns :: ms)
  | _ => none
theorem of_tupsOf : ∀ {ds : List D} {ms : List (List Int)}, tupsOf ds = some ms → ds = ms.map tI
  | [], _, h => by cases h; rfl
  | .tup xs :: r, ms, h => by
    obtain ⟨ns, e1, h⟩ := bnd_some (show bnd (intsOf xs) _ = some ms from h)
    obtain ⟨ms', e2, h⟩ := bnd_some h
    cases h
    rw [of_tupsOf e2, of_intsOf e1]
    rfl
  | .non :: _, _, h => by cases h
  | .bl _ :: _, _, h => by cases h
  | .int _ :: _, _, h => by cases h
  | .str _ :: _, _, h => by cases h
  | .lst _ :: _, _, h => by cases h
  | .fld _ _ :: _, _, h => by cases h
  | .scr _ :: _, _, h => by cases h
  | .kt _ :: _, _, h => by cases h
theorem tupsOf_map : ∀ ms : List (List Int), tupsOf (ms.map tI) = some ms
  | [] => rfl
  | m :: ms => by
    show bnd (intsOf (m.map D.int)) _ = _
    rw [intsOf_map]
    show bnd (tupsOf (ms.map tI)) _ = _
    rw [tupsOf_map ms]
    rfl
def gSortedI : List D → Option (List D)
  | [d] => bnd (seqOf d) fun ds => bnd (intsOf ds) fun ns => if ns.length < 64 then some ((sortI ns).map D.int) else none
  | _ => none
def bdB (ns : List Int) : Bool := ns.all fun i => decide (0 ≤ i) && decide (i < 100)
def gSortedT : List D → Option (List D)
  | [.lst ds] => bnd (tupsOf ds) fun ms => if decide (ms.length < 64) && (decide (1 ≤ (ms.headD [0]).length) && ms.all fun m => (m.length == (ms.headD [0]).length) && bdB m) then some ((sortC ms).map tI) else none
  | _ => none
theorem bdB_ok {ns : List Int} (h : bdB ns = true) : TS.Bd 100 ns := fun m hm => by
  have q := List.all_eq_true.mp h m hm
  simp only [Bool.and_eq_true, decide_eq_true_eq] at q
  exact q
section
variable {X : Cx} {K : PySem.W.Frag} {e a b c d tg iter : Expr} {es : List Expr} {p pos p2 : Pos} {fa : Env → Option (List D)} {f fb fc fd : Env → Option D}
/-! a text of the library's own, turned to tuples -/
section
variable {prog : Program} {w : World} {A : Around} {E : Value → Shared → Prop} {s : Shared}
theorem collect_tup {l : Addr} {vs : List Value} {Q : List Value → Shared → Prop} (hl : s.heap.IsTuple l vs.toArray)
    (h : Q vs { s with heap := (s.heap.push (seqObj "list" #[] 0)).update s.heap.objs.size (Obj.mapSeq (· ++ vs.toArray)) }) (hsz : vs.length ≤ sizeLine) :
    wpAny (model prog w) A (collect (.ref l)) Q E s := by
  obtain ⟨o, ho, hc, n, hd⟩ := id hl
  unfold collect
  refine wpAny_bind (wpAny_runValue (codeAny_builtin entry_proto_collect' ?_))
  show wpAny _ _ (do again (.builtin "list.__iadd__" ⟨[← newList [], .ref l], []⟩)) _ _ s
  refine wpAny_bind (wpAny_newList (wpAny_pure ⟨Code.quiet_builtin _ (by decide +kernel), codeAny_builtin entry_list_iadd' ?_⟩))
  show wpAny _ _ (Builtin.List.listExtendWith (.ref s.heap.objs.size) (.ref l) (.ref s.heap.objs.size)) _ _ { s with heap := s.heap.push (seqObj "list" #[] 0) }
  unfold Builtin.List.listExtendWith
  have ho' : (s.heap.push (seqObj "list" #[] 0)).get? l = some o := Heap.get?_push_of_some _ ho
  refine wpAny_bind (wpAny_typeOf (T := "tuple") ⟨o, ho', hc⟩ ?_)
  have ht : (Value.type "tuple" == Value.type "tuple") = true := by rfl
  rw [if_pos (by rw [ht]; simp)]
  refine wpAny_bind (listItems_at ho' hd ?_)
  refine wpAny_bind (listItems_at (xs := #[]) (n := 0) (Heap.get?_push_size _ rfl) rfl ?_)
  rw [if_neg (by simp)]
  refine wpAny_bind (listUpdate_at (xs := #[]) (n := 0) (Heap.get?_push_size _ rfl) rfl ?_ (Nat.zero_le _) (by show (#[] ++ vs.toArray).size ≤ sizeLine + 1; simp only [Array.size_append, List.size_toArray, List.length_nil]; omega))
  refine wpAny_pure ?_
  show wpAny (model prog w) A (do
      let o ← load s.heap.objs.size
      match o.data with
      | .seq xs _ => pure xs.toList
      | _ => unsupported "internal:collect") Q E { s with heap := (s.heap.push (seqObj "list" #[] 0)).update s.heap.objs.size (Obj.mapSeq (· ++ vs.toArray)) }
  refine wpAny_bind (wpAny_load (get?_update_seq (Heap.get?_push_size _ rfl) _) ?_)
  show wpAny _ _ (pure ((#[] : Array Value) ++ vs.toArray).toList) Q E _
  rw [show ((#[] : Array Value) ++ vs.toArray).toList = vs by simp]
  exact wpAny_pure h
theorem sorted_tupI {l : Addr} {vs : List Value} {ns : List Int} {Q : Value → Shared → Prop} (hl : s.heap.IsTuple l vs.toArray) (hI : IntsAre vs ns) (h64 : vs.length < 64)
    (h : ∀ (out : Array Value) (ns' : List Int), IntsAre out.toList ns' → ns'.Perm ns → ns'.Pairwise (· ≤ ·) → Q (.ref (s.heap.objs.size + 1)) { s with heap := sortedAll s.heap vs out }) :
    wpAny (model prog w) A (call (.builtin "sorted") [.ref l]) Q E s := by
  refine Calls.call_function_entry kind_sorted plain_sorted entry_sorted (args_sorted1 _) ?_
  unfold Builtin.«sorted»
  refine wpAny_bind (m := checkCount "sorted" 1 1 _) (wpAny_pure ?_)
  refine wpAny_bind (collect_tup hl ?_ (by rw [sizeLine_eq]; omega))
  refine wpAny_bind (wpAny_newList ?_)
  have hsz : ((s.heap.push (seqObj "list" #[] 0)).update s.heap.objs.size (Obj.mapSeq (· ++ vs.toArray))).objs.size = s.heap.objs.size + 1 := by
    rw [Heap.size_update, size_push']
  have hoL : (((s.heap.push (seqObj "list" #[] 0)).update s.heap.objs.size (Obj.mapSeq (· ++ vs.toArray))).push (seqObj "list" vs.toArray 0)).get? (s.heap.objs.size + 1) = some (seqObj "list" vs.toArray 0) := by
    rw [← hsz]; exact Heap.get?_push_size _ rfl
  show wpAny _ _ _ _ _ { s with heap := ((s.heap.push (seqObj "list" #[] 0)).update s.heap.objs.size (Obj.mapSeq (· ++ vs.toArray))).push (seqObj "list" vs.toArray 0) }
  rw [hsz]
  refine wpAny_bind (wpAny_holding (wpAny_call_entry slot_list_sort ⟨_, hoL, rfl⟩ entry_list_sort (list_sort_tree hoL hI h64 fun out ns' a1 a2 a3 => ⟨_, rfl, ?_⟩) (args_list_sort _)))
  exact wpAny_pure ⟨_, rfl, h out ns' a1 a2 a3⟩
end
def rSortQ (K : PySem.W.Frag) : List V → Hp → VK → Prop := fun vs H Q => ∃ (a : Addr) (ns : List Int), vs = [V.ref a] ∧ (SqL K H a (ns.map V.int) ∨ SqT K H a (ns.map V.int)) ∧ ns.length < 64 ∧
  ∀ (ns' : List Int) (p : Addr), ns'.Perm ns → ns'.Pairwise (· ≤ ·) → H p = none → Q (.ref p) (upd H p (.lst (ns'.map V.int)))
theorem cr_sortQ : CallR X (.builtin "sorted") (rSortQ X.K) := by
  intro pins s σ H vs us Q I r h
  obtain ⟨a, ns, rfl, hs, h64, q⟩ := h
  rcases hs with hs | hs
  · exact cr_sorted pins s σ H _ us Q I r ⟨a, ns, rfl, hs, h64, q⟩
  · obtain ⟨its, rv, hl, _⟩ := I.tuple hs
    rw [Vals.ref1 r]
    have hi := rv.ints
    refine sorted_tupI (show s.heap.IsTuple a its.toArray from hl) hi (by rw [hi.length]; exact h64) fun out ns' h1 h2 h3 => ?_
    obtain ⟨ep, he'⟩ := PyProof.Rows.sortedAll_at s.heap its out
    have hlen : (ns'.map V.int).length ≤ sizeLine := by rw [List.length_map, h2.length_eq]; exact small64 h64
    exact ⟨.ref _, upd H (s.heap.objs.size + 1) (.lst (ns'.map V.int)), I.laid (t' := s.toks) (fun _ _ => PyProof.Rows.sortedAll_old) (Nat.le_succ _) ⟨hlen, out.toList, ep, vals_of_ints h1, he'⟩, rfl, q ns' _ h2 h3 (I.hok.fresh (Nat.le_succ _))⟩
theorem dr_sortI : DRN K (rSortQ K) gSortedI := by
  intro F H xs ds d Q s r e k
  unfold gSortedI at e
  split at e
  · obtain ⟨es, e1, e⟩ := bnd_some e
    obtain ⟨ns, e2, e⟩ := bnd_some e
    split at e
    · rename_i h64
      cases e
      obtain ⟨v, rfl, r1⟩ := rep1 r
      obtain ⟨q, ys, rfl, h1, h2⟩ := r1.seqOf e1
      rw [of_intsOf e2] at h2
      have e3 := RepAll.intsOf h2
      subst e3
      refine ⟨q, ns, rfl, h1.elim (fun h => .inl (Same.seq s h)) (fun h => .inr (Same.tup s h)), h64, fun ns' p hp hs hf => ?_⟩
      rw [sortI_uniq hp hs]
      exact k F H p _ (.refl s) hf (.ints _)
    · cases e
  · cases e
theorem pn_sortedI (hm : X.mg "sorted" = none) (ha : PA X (e :: es) (tA X.K fa)) (gl : Gl X "sorted" := by rfl) (he : starEach (e :: es) X.env = (false, eval e X.env) :: starEach es X.env := by rfl) (hpl : (backTo pos (starEach es X.env)).any (·.1) = false := by rfl) : PE X (.Call (.Name "sorted" p) (e :: es) [] pos) (tN X.K (clN fa gSortedI)) :=
  pn_callB cr_sortQ dr_sortI gl hm (by decide +kernel) ha (by decide) (by decide) he hpl
theorem RepAll.perm {F : Hp} : ∀ {xs ys : List V} {ds : List D}, ys.Perm xs → RepAll K F xs ds → ∃ es, es.Perm ds ∧ RepAll K F ys es := by
  intro xs ys ds hp
  induction hp generalizing ds with
  | nil => intro r; exact ⟨ds, .refl _, r⟩
  | cons x _ ih =>
    intro r
    cases r with
    | cons r1 r2 =>
      obtain ⟨es, h1, h2⟩ := ih r2
      exact ⟨_ :: es, h1.cons _, .cons r1 h2⟩
  | swap x y l =>
    intro r
    cases r with
    | cons r1 r2 =>
      cases r2 with
      | cons r3 r4 => exact ⟨_, .swap _ _ _, .cons r3 (.cons r1 r4)⟩
  | trans _ _ ih1 ih2 =>
    intro r
    obtain ⟨es, h1, h2⟩ := ih2 r
    obtain ⟨fs, h3, h4⟩ := ih1 h2
    exact ⟨fs, h3.trans h1, h4⟩
theorem rep_tI {F : Hp} {v : V} {ns : List Int} (h : Rep K F v (tI ns)) : TupI K F v ns := by
  cases h with
  | tup h1 h2 =>
    have e := RepAll.intsOf h2
    subst e
    exact ⟨_, rfl, .of h1⟩
theorem pw_rep {F H : Hp} (s : Same F H) : ∀ {ys : List V} {ms : List (List Int)}, RepAll K F ys (ms.map tI) → ys.Pairwise (fun x y => ∀ n m, TupI K H x n → TupI K H y m → TS.code 100 n ≤ TS.code 100 m) → ms.Pairwise (fun a b => cd a ≤ cd b)
  | _, [], _, _ => .nil
  | [], _ :: _, h, _ => by cases h
  | y :: ys, m :: ms, h, hp => by
    have h : RepAll K F (y :: ys) (tI m :: ms.map tI) := h
    cases h with
    | cons h1 h2 =>
      obtain ⟨p1, p2⟩ := List.pairwise_cons.mp hp
      refine List.pairwise_cons.mpr ⟨fun b hb => ?_, pw_rep s h2 p2⟩
      obtain ⟨i, hi, rfl⟩ := List.mem_iff_getElem.mp hb
      obtain ⟨v, g1, g2⟩ := h2.get (i := i) (d := tI ms[i]) (by rw [List.getElem?_map, List.getElem?_eq_getElem hi]; rfl)
      obtain ⟨t1, e1, q1⟩ := rep_tI h1
      obtain ⟨t2, e2, q2⟩ := rep_tI g2
      exact p1 v (List.mem_of_getElem? g1) m ms[i] ⟨t1, e1, Same.tup s q1⟩ ⟨t2, e2, Same.tup s q2⟩
theorem perm_map_tI {es : List D} {ms : List (List Int)} (h : es.Perm (ms.map tI)) : ∃ ms' : List (List Int), ms'.Perm ms ∧ es = ms'.map tI := by
  have key : ∀ {es fs : List D}, es.Perm fs → ∀ ms : List (List Int), fs = ms.map tI → ∃ ms' : List (List Int), ms'.Perm ms ∧ es = ms'.map tI := by
    intro es fs hp
    induction hp with
    | nil => intro ms e; exact ⟨ms, .refl _, e⟩
    | cons x _ ih =>
      intro ms e
      cases ms with
      | nil => cases e
      | cons m ms =>
        have e : _ :: _ = tI m :: ms.map tI := e
        injection e with e1 e2
        obtain ⟨ms', h1, h2⟩ := ih ms e2
        exact ⟨m :: ms', h1.cons m, by rw [h2, e1]; rfl⟩
    | swap x y l =>
      intro ms e
      match ms, e with
      | m1 :: m2 :: ms, e =>
        have e : _ :: _ :: _ = tI m1 :: tI m2 :: ms.map tI := e
        injection e with e1 e2
        injection e2 with e2 e3
        exact ⟨m2 :: m1 :: ms, .swap _ _ _, by rw [e1, e2, e3]; rfl⟩
      | [], e => cases e
      | [_], e => cases e
    | trans _ _ ih1 ih2 =>
      intro ms e
      obtain ⟨ms1, h1, h2⟩ := ih2 ms e
      obtain ⟨ms2, h3, h4⟩ := ih1 ms1 h2
      exact ⟨ms2, h3.trans h1, h4⟩
  exact key h ms rfl
theorem pn_sortedT (hm : X.mg "sorted" = none) (ha : PA X (e :: es) (tA X.K fa)) (gl : Gl X "sorted" := by rfl) (he : starEach (e :: es) X.env = (false, eval e X.env) :: starEach es X.env := by rfl) (hpl : (backTo pos (starEach es X.env)).any (·.1) = false := by rfl) : PE X (.Call (.Name "sorted" p) (e :: es) [] pos) (tN X.K (clN fa gSortedT)) := by
  have all : ∀ d : Nat, 1 ≤ d → PE X (.Call (.Name "sorted" p) (e :: es) [] pos) (tCB (rSortU X.K d 100) (tA X.K fa)) := fun d hd => pe_callB (cr_sortT hd) gl hm (by decide +kernel) ha (by decide) (by decide) he hpl
  refine ⟨fun pins s σ H Q I h => ?_⟩
  obtain ⟨B, F0, H0, F, env, d, sr, h1, k⟩ := h
  obtain ⟨ds, e1, e2⟩ := bnd_some h1
  unfold gSortedT at e2
  split at e2
  · rename_i es'
    obtain ⟨ms, e3, e2⟩ := bnd_some e2
    split at e2
    · rename_i hz
      cases e2
      simp only [Bool.and_eq_true, decide_eq_true_eq] at hz
      obtain ⟨h64, hd, hall⟩ := hz
      refine (all _ hd).run pins s σ H Q I ⟨B, F0, H0, F, env, _, sr, e1, fun F1 H1 vs x1 r1 => ?_⟩
      obtain ⟨v, rfl, r2⟩ := rep1 r1
      rw [of_tupsOf e3] at r2
      have each : ∀ m ∈ ms, m.length = (ms.headD [0]).length ∧ TS.Bd 100 m := fun m hm => by
        have q := List.all_eq_true.mp hall m hm
        simp only [Bool.and_eq_true, beq_iff_eq] at q
        exact ⟨q.1, bdB_ok q.2⟩
      cases r2 with
      | lst g1 g2 =>
        rename_i q xs
        refine ⟨q, xs, rfl, .of (x1.sup _ _ g1), by rw [g2.length, List.length_map]; exact h64, fun x hx => ?_, fun ys p hp hs hf => ?_⟩
        · obtain ⟨i, hi, rfl⟩ := List.mem_iff_getElem.mp hx
          obtain ⟨dd, g3, g4⟩ := g2.getV (List.getElem?_eq_getElem hi)
          rw [List.getElem?_map] at g3
          cases e5 : ms[i]? with
          | none => rw [e5] at g3; cases g3
          | some m =>
            rw [e5] at g3
            have g3 := Option.some.inj g3
            rw [← g3] at g4
            obtain ⟨t, e6, q6⟩ := rep_tI g4
            exact ⟨m, ⟨t, e6, Same.tup x1.sup q6⟩, each m (List.mem_of_getElem? e5)⟩
        · obtain ⟨es2, p1, p2⟩ := RepAll.perm hp g2
          obtain ⟨ms', p3, rfl⟩ := perm_map_tI p1
          have e7 := sortC_uniq each p3 (pw_rep x1.sup p2 hs)
          rw [← e7] at k
          exact k F1 H1 p ys x1 hf p2
    · cases e2
  · cases e2
/-! xs.index(n) -/
def gIndex : D → D → Option D
  | .lst ds, .int i => bnd (intsOf ds) fun ns => bnd (idxI i ns) fun k => some (.int k)
  | _, _ => none
theorem idxI_ok {i : Int} : ∀ {ns : List Int} {k : Nat}, idxI i ns = some k → ns[k]? = some i ∧ ∀ m, m < k → ∀ j, ns[m]? = some j → (j == i) = false
  | [], _, h => by cases h
  | j :: js, k, h => by
    unfold idxI at h
    split at h
    · rename_i hj
      cases h
      exact ⟨by rw [← beq_iff_eq.mp hj]; rfl, fun m hm => absurd hm (Nat.not_lt_zero _)⟩
    · rename_i hj
      obtain ⟨k', e1, e2⟩ := bnd_some h
      cases e2
      obtain ⟨h1, h2⟩ := idxI_ok e1
      refine ⟨h1, fun m hm j' hj' => ?_⟩
      cases m with
      | zero =>
        have e3 : j = j' := Option.some.inj hj'
        rw [← e3]
        simpa using hj
      | succ m => exact h2 m (by omega) j' hj'
theorem pd_index {apos cpos : Pos} (ha : PE X a (tD X.K f)) (hb : PE X b (tD X.K fb)) (hbase : attributeBase a "index" X.env (eval a X.env) = eval a X.env := by rfl)
    (hfew : ((backTo cpos (starEach [b] X.env)).all (fun x => !x.1) && (backToKw cpos (keywordEach [] X.env)).all (fun x => x.1.isSome)
      && decide ([b].length + ([] : List Keyword).length + (if ([] : List Keyword).isEmpty then 0 else 1) < 30)) = true := by rfl)
    (hline : (apos.endLine == cpos.line) = true := by rfl) (hs : starEach [b] X.env = (false, eval b X.env) :: starEach [] X.env := by rfl) (hplain : (backTo cpos (starEach [] X.env)).any (·.1) = false := by rfl) :
    PE X (.Call (.Attribute a "index" apos) [b] [] cpos) (tD X.K (bop gIndex f fb)) := by
  refine PE.imp (pe_bm PySem.F.plainAttrs_list PySem.F.slot_list_index PySem.F.type_list_index mt_index ha (pa_cons hb pa_nil hs) hbase hfew hline hs hplain) fun σ H Q h => ?_
  obtain ⟨B, F0, H0, F, env, d, sr, hd, k⟩ := h
  obtain ⟨x, ex, hd⟩ := bnd_some hd
  obtain ⟨y, ey, hd⟩ := bnd_some hd
  unfold gIndex at hd
  split at hd
  · rename_i ds i
    obtain ⟨ns, e1, hd⟩ := bnd_some hd
    obtain ⟨kk, e2, hd⟩ := bnd_some hd
    cases hd
    refine ⟨B, F0, H0, F, env, _, sr, ex, fun F1 H1 v x1 r1 => ?_⟩
    rw [of_intsOf e1] at r1
    cases r1 with
    | lst g1 g2 =>
      have e3 := RepAll.intsOf g2
      subst e3
      refine ⟨.inl ⟨rfl, _, .of (x1.sup _ _ g1)⟩, B, F0, H0, F1, env, _, sr.go x1, ey, fun F2 H2 w x2 r2 => ?_⟩
      cases r2
      obtain ⟨h1, h2⟩ := idxI_ok e2
      refine ⟨_, ns.map V.int, _, kk, _, rfl, rfl, .of (x2.sup _ _ (x2.sub _ _ g1)), rfl, flat_ints ns, (by rw [List.getElem?_map, h1]; rfl), beq_self_eq_true _, fun m z hm hz => ?_, k F2 H2 _ (x1.trans x2) (.int _)⟩
      rw [List.getElem?_map] at hz
      cases e4 : ns[m]? with
      | none => rw [e4] at hz; cases hz
      | some j =>
        rw [e4] at hz
        cases hz
        exact h2 m hm j e4
  · cases hd
/-! sets of whole numbers -/
def rSetQ (w : World) (K : PySem.W.Frag) : List V → Hp → VK → Prop := fun vs H Q => ∃ (a : Addr) (ns : List Int), vs = [V.ref a] ∧ SqT K H a (ns.map V.int) ∧ ns.length ≤ 1000 ∧ ∀ (p : Addr) (c : Nat), H p = none → c ≤ ns.length → Q (.ref p) (upd H p (SetO w p (fun j => decide (j ∈ ns)) c))
theorem cr_setQ (hc : X.calm = true) : CallR X (.type "set") (rSetQ X.w X.K) := by
  intro pins s σ H vs us Q I r h
  obtain ⟨a, ns, rfl, hs, hl, q⟩ := h
  obtain ⟨its, rv, pt, hz⟩ := I.tuple hs
  rw [Vals.ref1 r]
  have hi : IntsAre its.toArray.toList ns := ints_of_vals rv
  refine call_set_tupI ns (I.ok.hd hc) (show s.heap.IsTuple a its.toArray from pt) hi (by unfold scanBound; omega) fun h' tk c R1 hcn k => ?_
  exact ⟨.ref _, _, I.laid k (Nat.le_refl _) (setO_new R1), rfl, q _ c (I.hok.fresh (Nat.le_refl _)) hcn⟩
def incB : List Int → Bool
  | [] => true
  | [_] => true
  | a :: b :: r => decide (a < b) && incB (b :: r)
theorem incB_ok : ∀ {l : List Int}, incB l = true → l.Pairwise (· < ·)
  | [], _ => .nil
  | [a], _ => List.pairwise_singleton _ _
  | a :: b :: r, h => by
    simp only [incB, Bool.and_eq_true, decide_eq_true_eq] at h
    have ih := incB_ok h.2
    refine List.pairwise_cons.mpr ⟨fun y hy => ?_, ih⟩
    rcases List.mem_cons.mp hy with e | hy
    · rw [e]; exact h.1
    · exact Int.lt_trans h.1 ((List.pairwise_cons.mp ih).1 y hy)
theorem inc_nodup {l : List Int} (h : l.Pairwise (· < ·)) : l.Nodup := h.imp fun h e => by rw [e] at h; exact Int.lt_irrefl _ h
theorem inc_same {l m : List Int} (hl : l.Pairwise (· < ·)) (hm : m.Pairwise (· < ·)) (h : ∀ k, k ∈ l ↔ k ∈ m) : l = m :=
  PySem.W.ksm_same ((List.perm_ext_iff_of_nodup (inc_nodup hl) (inc_nodup hm)).mpr h) (hl.imp fun h => Int.le_of_lt h) (hm.imp fun h => Int.le_of_lt h)
def nodB : List Int → Bool
  | [] => true
  | a :: r => !memI a r && nodB r
theorem nodB_ok : ∀ {l : List Int}, nodB l = true → l.Nodup
  | [], _ => List.nodup_nil
  | a :: r, h => by
    simp only [nodB, Bool.and_eq_true, Bool.not_eq_true'] at h
    refine List.nodup_cons.mpr ⟨fun hm => ?_, nodB_ok h.2⟩
    rw [memI_mem.mpr hm] at h
    cases h.1
/-! sorted(set(t)), t rising -/
def nSortedSet (f : Env → Option D) : Env → Option (List D) := fun env => match f env with
  | some (.tup ds) => bnd (intsOf ds) fun ns => if incB ns && decide (ns.length < 64) then some (ns.map D.int) else none
  | _ => none
theorem pn_sortedSet {q p' : Pos} (hm : X.mg "sorted" = none) (hm2 : X.mg "set" = none) (ha : PE X a (tD X.K f)) (gl : Gl X "sorted" := by rfl) (gl2 : Gl X "set" := by rfl) (hc : X.calm = true := by rfl)
    (n1 : starEach [a] X.env = (false, eval a X.env) :: starEach [] X.env := by rfl) (n0 : (backTo q (starEach [] X.env)).any (·.1) = false := by rfl)
    (n2 : starEach [Expr.Call (.Name "set" p') [a] [] q] X.env = (false, eval (Expr.Call (.Name "set" p') [a] [] q) X.env) :: starEach [] X.env := by rfl) (n3 : (backTo pos (starEach [] X.env)).any (·.1) = false := by rfl) :
    PE X (.Call (.Name "sorted" p) [.Call (.Name "set" p') [a] [] q] [] pos) (tN X.K (nSortedSet f)) := by
  refine PE.imp (pe_callB (cr_sortedSet hc) gl hm (by decide +kernel) (pa_cons (pe_callTy (cr_setQ hc) gl2 hm2 (by decide +kernel) (pa_cons ha pa_nil n1) (by decide) (by decide) n1 n0) pa_nil n2) (by decide) (by decide) n2 n3) fun σ H Q h => ?_
  obtain ⟨B, F0, H0, F, env, d, sr, hd, k⟩ := h
  unfold nSortedSet at hd
  split at hd
  · rename_i ds e1
    obtain ⟨ns, e2, hd⟩ := bnd_some hd
    split at hd
    · rename_i hz
      cases hd
      simp only [Bool.and_eq_true, decide_eq_true_eq] at hz
      have hi := incB_ok hz.1
      refine ⟨B, F0, H0, F, env, _, sr, e1, fun F1 H1 v x1 r1 => ?_⟩
      rw [of_intsOf e2] at r1
      cases r1 with
      | tup g1 g2 =>
        have e3 := RepAll.intsOf g2
        subst e3
        rename_i t
        refine ⟨t, ns, rfl, .of (x1.sup _ _ g1), by omega, fun p c hp hcn => ?_⟩
        refine ⟨p, _, c, rfl, upd_same, by omega, fun ns' p' h1 h2 h3 hp' => ?_⟩
        have e4 : ns' = ns := inc_same h1 hi fun k => (h2 k).trans (by simp)
        rw [e4]
        -- the set itself is passed over
        have x2 : Ext No F1 H1 F1 (upd H1 p (SetO X.w p (fun j => decide (j ∈ ns)) c)) := ⟨Same.refl _, fun b u q => by rw [upd_ne (ne_of_none (x1.sup _ _ q) hp)]; exact x1.sup _ _ q, fun b u _ q => by rw [upd_ne (ne_of_none q hp)]; exact q, fun b u q q' => (by rw [q] at q'; cases q'), fun _ z => z.elim⟩
        exact k F1 _ p' _ (x1.trans x2) hp' (.ints ns)
    · cases hd
  · cases hd
/-! len(set(x)), x without a thing twice -/
def dLenSet (f : Env → Option D) : Env → Option D := fun env => bnd (f env) fun d => bnd (seqOf d) fun ds => bnd (intsOf ds) fun ns => if nodB ns && decide (ns.length ≤ 1000) then some (.int ns.length) else none
def tLenSetQ (K : PySem.W.Frag) (ta : TE) : TE := fun σ H Q => ta σ H fun x H1 => ∃ (l : Addr) (ns : List Int), x = .ref l ∧ SqT K H1 l (ns.map V.int) ∧ ns.Nodup ∧ ns.length ≤ 1000 ∧ Q (.int (ns.length : Nat)) H1
theorem pe_lenSetQ {ta : TE} {p p2 q pos : Pos} (hg : Gl X "len") (hm : X.mg "len" = none) (hg2 : Gl X "set") (hm2 : X.mg "set" = none) (ha : PE X a ta) (hc : X.calm = true)
    (na : starEach [a] X.env = (false, eval a X.env) :: starEach [] X.env) : PE X (.Call (.Name "len" p) [.Call (.Name "set" p2) [a] [] q] [] pos) (tLenSetQ X.K ta) := by
  refine ⟨fun pins s σ H Q I h => ?_⟩
  refine Call_ (ld_blt I hg hm boot_len ?_)
  refine PyProof.Rows.callWith_builtin1 (PyProof.Rows.args_cons ?_ rfl) rfl rfl
  refine Call_ (ld_blt I hg2 hm2 PyProof.Rows.boot_set ?_)
  refine PyProof.Rows.callWith_type1 (PyProof.Rows.args_cons (thn (ha.run pins s σ H _ I h) fun v s1 ⟨x, H1, I1, r1, q1⟩ => PyProof.Rows.args_nil ?_) na) na rfl
  obtain ⟨l, ns, rfl, hq, hnd, hl, q1⟩ := q1
  cases r1
  obtain ⟨its, r, pt, hz⟩ := I1.tuple hq
  have hi : IntsAre its.toArray.toList ns := ints_of_vals r
  refine call_set_tupI ns (I1.ok.hd hc) (show s1.heap.IsTuple l its.toArray from pt) hi (by unfold scanBound; omega) fun h' tk c hS hcn hk => ?_
  refine PyProof.Rows.args_nil ?_
  obtain ⟨o, es, ep, t, ho, hex, hd, _, nd, hmem, hb, hf, hn, _⟩ := hS
  have hcc : c = ns.length := by
    have pm := (List.perm_ext_iff_of_nodup nd hnd).mpr fun k => ((hmem k).symm.trans (by simp))
    have := pm.length_eq
    rw [List.length_map, Array.length_toList] at this
    omega
  have I2 : Inv X pins σ H1 { s1 with heap := h', toks := tk } := I1.kept hk
  exact call_len_set ho hex hd hf (by rw [hn] <;> omega) ⟨.int ns.length, H1, I2.tok _, ⟨_, by rw [hn, hcc]⟩, q1⟩
theorem pd_lenSet {p2 q : Pos} (hm : X.mg "len" = none) (hm2 : X.mg "set" = none) (ha : PE X a (tD X.K f)) (gl : Gl X "len" := by rfl) (gl2 : Gl X "set" := by rfl) (hc : X.calm = true := by rfl)
    (na : starEach [a] X.env = (false, eval a X.env) :: starEach [] X.env := by rfl) : PE X (.Call (.Name "len" p) [.Call (.Name "set" p2) [a] [] q] [] pos) (tD X.K (dLenSet f)) := by
  refine PE.imp (pe_or (RZ.pe_lenSetI gl hm gl2 hm2 ha hc na) (pe_lenSetQ gl hm gl2 hm2 ha hc na)) fun σ H Q h => ?_
  obtain ⟨B, F0, H0, F, env, d, sr, hd, k⟩ := h
  obtain ⟨x, e1, hd⟩ := bnd_some hd
  obtain ⟨ds, e2, hd⟩ := bnd_some hd
  obtain ⟨ns, e3, hd⟩ := bnd_some hd
  split at hd
  · rename_i hz
    cases hd
    simp only [Bool.and_eq_true, decide_eq_true_eq] at hz
    have hn := nodB_ok hz.1
    rw [of_intsOf e3] at e2
    unfold EM.seqOf at e2
    split at e2
    · rename_i ds' e4
      cases e2
      refine .inl ⟨B, F0, H0, F, env, x, sr, e1, fun F1 H1 v x1 r1 => ?_⟩
      obtain ⟨q, xs, rfl, g1, g2⟩ := r1.lstOf e4
      have e5 := RepAll.intsOf g2
      subst e5
      exact ⟨q, ns, rfl, Same.seq x1.sup g1, hn, by omega, k F1 H1 _ x1 (.int _)⟩
    · refine .inr ⟨B, F0, H0, F, env, x, sr, e1, fun F1 H1 v x1 r1 => ?_⟩
      obtain ⟨q, xs, rfl, g1, g2⟩ := r1.tupOf e2
      have e5 := RepAll.intsOf g2
      subst e5
      exact ⟨q, ns, rfl, Same.tup x1.sup g1, hn, hz.2, k F1 H1 _ x1 (.int _)⟩
  · cases hd
end
end EM
set_option maxHeartbeats 2000000
namespace EM
open PySem PySem.Spec PyProof.Rows L2
def dctW (i : Nat) (env : Env) : Option (Md × Mp) := match env[i]? with
  | some (some (.dct .own m)) => some (.own, m)
  | some (some (.dct .lent m)) => some (.lent, m)
  | _ => none
theorem dctW_some {i : Nat} {env : Env} {b : Md} {m : Mp} (h : dctW i env = some (b, m)) : env[i]? = some (some (.dct b m)) ∧ (b = .own ∨ b = .lent) := by
  unfold dctW at h
  split at h
  · rename_i d e
    cases h
    exact ⟨e, .inl rfl⟩
  · rename_i d e
    cases h
    exact ⟨e, .inr rfl⟩
  · cases h
def isSlf : Option EV → Bool
  | some (.slf _ _) => true
  | _ => false
def noSlf (env : Env) : Bool := env.all fun e => !isSlf e
theorem noSlf_ok {env : Env} (h : noSlf env = true) (j : Nat) (b : Md) (S : SS) : env[j]? ≠ some (some (.slf b S)) := fun e => by
  have q := List.all_eq_true.mp h _ (List.mem_of_getElem? e)
  cases q
def sNewD (i : Nat) : Env → Option Res := fun env => some (.nx (env.set i (some (.dct .own []))))
def sPutD (i : Nat) (fk fv : Env → Option D) : Env → Option Res := fun env => match fv env with
  | some (.int c) => bnd (fk env) fun k => bnd (pairOf k) fun q => match dctW i env with
    | some (b, m) => if decide (m.length < 100000) && noSlf env then some (.nx (env.set i (some (.dct b (mput m q c))))) else none
    | none => none
  | _ => none
/-! promises -/
def spR (K : PySem.W.Frag) (j : Nat) (g : Mp → List D → Option D) : Sp := fun vs H Q _ => ∃ F ds d p m, Same F H ∧ vs[j]? = some (.ref p) ∧ H p = some (.dT (kvs m)) ∧ F p = none ∧ RepAll K F (vs.eraseIdx j) ds ∧ g m ds = some d ∧ ∀ F' H' v, Ext No F H F' H' → Rep K F' v d → Q v H'
def spM (K : PySem.W.Frag) (j : Nat) (g : Mp → List D → Option (Mp × D)) : Sp := fun vs H Q _ => ∃ F ds d p m m', Same F H ∧ vs[j]? = some (.ref p) ∧ H p = some (.dT (kvs m)) ∧ F p = none ∧ RepAll K F (vs.eraseIdx j) ds ∧ g m ds = some (m', d) ∧ ∀ F' H' v, Ext (fun a => a = p) F H F' H' → H' p = some (.dT (kvs m')) → Rep K F' v d → Q v H'
def tAM (K : PySem.W.Frag) (i j : Nat) (fa : Env → Option (List D)) : TA := fun σ H Q => ∃ B F0 H0 F env ds m, SR K B F0 H0 F H σ env ∧ dctAt i env = some m ∧ fa env = some ds ∧ ∀ F' H' vs p, Ext No F H F' H' → vs[j]? = some (.ref p) → σ[i]? = some (some (.ref p)) → RepAll K F' (vs.eraseIdx j) ds → Q vs H'
def cllM (i : Nat) (fa : Env → Option (List D)) (g : Mp → List D → Option D) : Env → Option D := fun env => bnd (dctAt i env) fun m => bnd (fa env) fun ds => g m ds
def sCallM (i : Nat) (fa : Env → Option (List D)) (g : Mp → List D → Option (Mp × D)) : Env → Option Res := fun env => match dctW i env with
  | some (b, m) => bnd (fa env) fun ds => bnd (g m ds) fun r => if noSlf env then some (.nx (env.set i (some (.dct b r.1)))) else none
  | none => none
section
variable {X : Cx} {K : PySem.W.Frag} {e a b c d tg iter : Expr} {es : List Expr} {p pos p2 : Pos} {fa fr : Env → Option (List D)} {f fb fc fd : Env → Option D} {x : Str}
theorem ds_newD (i : Nat) {pos' : Pos} (hN : X.N.Nodup) (hi : X.N[i]? = some x := by rfl) (hx : Loc X.env.scope x := by first | exact .inl rfl | exact .inr rfl) (hs : swapsWith (.Dict [] [] p) (some (.Name x pos')) pos.line X.env = pure false := by rfl) (hf : X.fn x = true ∨ X.env.scope.names.lookup x = some .local := by first | exact .inl rfl | exact .inr rfl) :
    PS X (.Assign [.Name x pos'] (.Dict [] [] p) pos) (tS X.K (sNewD i)) := by
  refine PS.imp (ps_set hN hi hx pe_dnewT hs hf) fun Dn σ H h => ?_
  obtain ⟨B, F0, H0, F, env, r, sr, he, k⟩ := h
  cases he
  intro q hq
  refine k _ F _ (sr.setNew i hq rfl ⟨q, rfl, upd_same, free_of sr.ext.sup hq, ?_⟩)
  cases e : H0 q with
  | none => rfl
  | some o =>
    by_cases hm : MB B q
    · exact absurd hq (sr.ext.mu q hm).2
    · rw [sr.ext.keep q o hm e] at hq
      cases hq
theorem wr_ok {B : Bor} {H0 : Hp} {q : Addr} {b : Md} (h : match b with
    | .own => H0 q = none
    | .lent => ∃ x, B.lent = some (x, q)
    | .read => True) (hb : b = .own ∨ b = .lent) : H0 q = none ∨ MB B q := by
  rcases hb with e | e
  · subst e
    exact .inl h
  · subst e
    obtain ⟨x, h⟩ := h
    refine .inr ?_
    show MO B.lent q
    rw [h]
    exact .inr rfl
theorem ds_putD (i : Nat) {px tpos : Pos} {fk : Env → Option D} (hu : X.A.units + 1 < cLine) (hk : PE X b (tD X.K fk)) (he : PE X e (tD X.K f)) (hN : X.N[i]? = some x := by rfl) (hv : Vis X.env.scope x := by first | exact Or.inl rfl | exact Or.inr (Or.inl rfl) | exact Or.inr (Or.inr rfl)) (hd : (x == ("__debug__" : Str)) = false := by decide) (hcd : (x == ("__classdict__" : Str)) = false := by decide)
    (hs : swapsWith e (some (.Subscript (.Name x px) b tpos)) pos.line X.env = pure false := by rfl) : PS X (.Assign [.Subscript (.Name x px) b tpos] e pos) (tS X.K (sPutD i fk f)) := by
  refine PS.imp (ps_dput hu (pe_var hN hv hd hcd) hk he hs) fun Dn σ H h => ?_
  obtain ⟨B, F0, H0, F, env, r, sr, he, k⟩ := h
  unfold sPutD at he
  split at he
  · rename_i c e1
    obtain ⟨kd, e2, he⟩ := bnd_some he
    obtain ⟨q, e3, he⟩ := bnd_some he
    split at he
    · rename_i bb m e4
      split at he
      · rename_i hz
        cases he
        simp only [Bool.and_eq_true, decide_eq_true_eq] at hz
        obtain ⟨e5, hb⟩ := dctW_some e4
        obtain ⟨v, h1, w, rfl, h3, h4, h5⟩ := sr.slot i _ e5
        refine ⟨B, F0, H0, F, env, .int c, sr, e1, fun F1 H1 v1 x1 r1 => ?_⟩
        cases r1
        refine ⟨_, h1, B, F0, H0, F1, env, kd, sr.go x1, e2, fun F2 H2 v2 x2 r2 => ?_⟩
        obtain ⟨t, rfl, g1⟩ := r2.pair e3
        have y := x1.trans x2
        have g3 := y.keep _ _ (fun z => z) h3
        refine ⟨w, _, rfl, DPut.t (k := key2 q) g3 (x2.sup _ _ g1) (by rw [kvs_length]; exact Nat.lt_of_lt_of_le hz.1 (big_line (Nat.le_refl _))), ?_⟩
        rw [putK_kvs]
        refine k σ F2 _ ((sr.go y).write e5 rfl h1 rfl (y.free h3 h4) (wr_ok h5 hb) (fun j b' S _ ej => absurd ej (noSlf_ok hz.2 j b' S)) ⟨w, rfl, upd_same, y.free h3 h4, h5⟩)
      · cases he
    · cases he
  · cases he
/-! arguments with a dict among them -/
theorem pda_m0 (i : Nat) {px : Pos} (ha : PA X es (tA X.K fr)) (hN : X.N[i]? = some x := by rfl) (hv : Vis X.env.scope x := by first | exact Or.inl rfl | exact Or.inr (Or.inl rfl) | exact Or.inr (Or.inr rfl)) (hd : (x == ("__debug__" : Str)) = false := by decide) (hcd : (x == ("__classdict__" : Str)) = false := by decide)
    (hs : starEach (Expr.Name x px :: es) X.env = (false, eval (.Name x px) X.env) :: starEach es X.env := by rfl) : PA X (.Name x px :: es) (tAM X.K i 0 fr) := by
  refine PA.imp (pa_cons (pe_var hN hv hd hcd) ha hs) fun σ H Q h => ?_
  obtain ⟨B, F0, H0, F, env, ds, m, sr, e1, e2, k⟩ := h
  obtain ⟨bb, e5⟩ := dctAt_some e1
  obtain ⟨v, h1, w, rfl, h3, h4, h5⟩ := sr.slot i _ e5
  exact ⟨_, h1, B, F0, H0, F, env, ds, sr, e2, fun F1 H1 vs x1 r1 => k F1 H1 (.ref w :: vs) w x1 rfl h1 r1⟩
theorem pda_m1 (i : Nat) {px : Pos} (h0 : PE X e (tD X.K f)) (ha : PA X es (tA X.K fr)) (hN : X.N[i]? = some x := by rfl) (hv : Vis X.env.scope x := by first | exact Or.inl rfl | exact Or.inr (Or.inl rfl) | exact Or.inr (Or.inr rfl)) (hd : (x == ("__debug__" : Str)) = false := by decide) (hcd : (x == ("__classdict__" : Str)) = false := by decide)
    (hs : starEach (Expr.Name x px :: es) X.env = (false, eval (.Name x px) X.env) :: starEach es X.env := by rfl) (hs2 : starEach (e :: Expr.Name x px :: es) X.env = (false, eval e X.env) :: starEach (Expr.Name x px :: es) X.env := by rfl) : PA X (e :: .Name x px :: es) (tAM X.K i 1 (aCons f fr)) := by
  refine PA.imp (pa_cons h0 (pa_cons (pe_var hN hv hd hcd) ha hs) hs2) fun σ H Q h => ?_
  obtain ⟨B, F0, H0, F, env, ds, m, sr, e1, e2, k⟩ := h
  obtain ⟨y, ey, e2⟩ := bnd_some e2
  obtain ⟨ys, eys, e2⟩ := bnd_some e2
  cases e2
  obtain ⟨bb, e5⟩ := dctAt_some e1
  obtain ⟨v, h1, w, rfl, h3, h4, h5⟩ := sr.slot i _ e5
  refine ⟨B, F0, H0, F, env, y, sr, ey, fun F1 H1 v1 x1 r1 => ⟨_, h1, B, F0, H0, F1, env, ys, sr.go x1, eys, fun F2 H2 vs x2 r2 => ?_⟩⟩
  exact k F2 H2 (v1 :: .ref w :: vs) w (x1.trans x2) rfl h1 (.cons (r1.up x2.sub) r2)
theorem pd_callM (i : Nat) {j : Nat} {k : Nat} {fn : Addr} {ps : List Str} {g : Mp → List D → Option D} (O : OkD X.prog X.w X.K X.mg X.base k fn ps (spR X.K j g)) (hr : Room k X.A) (hm : X.mg x = some (.ref fn)) (ha : PA X (e :: es) (tAM X.K i j fa))
    (hg : Gl X x := by rfl) (hdb : (x == ("__debug__" : Str)) = false := by decide) (he : starEach (e :: es) X.env = (false, eval e X.env) :: starEach es X.env := by rfl) (hpl : (backTo pos (starEach es X.env)).any (·.1) = false := by rfl) :
    PE X (.Call (.Name x p) (e :: es) [] pos) (tD X.K (cllM i fa g)) := by
  obtain ⟨fd, G, b, kp⟩ := O
  refine PE.imp (pe_call G hr hg hm kp b .nil pass0 ha hdb he hpl) fun σ H Q h => ?_
  obtain ⟨B, F0, H0, F, env, d, sr, he, k⟩ := h
  obtain ⟨m, e1, he⟩ := bnd_some he
  obtain ⟨ds, e2, he⟩ := bnd_some he
  refine ⟨B, F0, H0, F, env, ds, m, sr, e1, e2, fun F1 H1 vs q x1 h1 h2 r1 => ?_⟩
  show spR X.K j g (vs ++ []) H1 Q E0
  rw [List.append_nil]
  obtain ⟨bb, e5⟩ := dctAt_some e1
  obtain ⟨v, g1, w, rfl, h3, h4, h5⟩ := sr.slot i _ e5
  rw [h2] at g1
  cases g1
  exact ⟨F1, ds, d, _, m, x1.sup, h1, x1.keep _ _ (fun z => z) h3, x1.free h3 h4, r1, he, fun F2 H2 v x2 r2 => k F2 H2 v (x1.trans x2) r2⟩
/-- behind a call that changes a dict -/
theorem SR.callM {B : Bor} {F0 H0 F H F' H' : Hp} {σ : St} {env : Env} {i : Nat} {q : Addr} {bb : Md} {m m' : Mp} (h5 : match bb with
    | .own => H0 q = none
    | .lent => ∃ x, B.lent = some (x, q)
    | .read => True) (s : SR K B F0 H0 F H σ env) (e5 : env[i]? = some (some (.dct bb m))) (h1 : σ[i]? = some (some (.ref q))) (hw : H0 q = none ∨ MB B q) (nx : noSlf env = true) (x : Ext (fun a => a = q) F H F' H') (hq : H' q = some (.dT (kvs m'))) : SR K B F0 H0 F' H' σ (env.set i (some (.dct bb m'))) := by
  have hi : i < env.length := (List.getElem?_eq_some_iff.mp e5).1
  have newOk : ∀ {a o}, F' a = some o → F a = none → H0 a = none := fun {a o} h h' => by
    have z := x.new a o h h'
    cases e : H0 a with
    | none => rfl
    | some u =>
      by_cases hm : MB B a
      · exact absurd z (s.ext.mu a hm).2
      · rw [s.ext.keep a u hm e] at z
        cases z
  refine ⟨⟨s.ext.sub.trans x.sub, x.sup, fun a o ha h => ?_, fun a o h h' => ?_, fun a ha => ⟨?_, ?_⟩⟩, by simp [s.len], fun j e' h => ?_, s.live, s.anc.trans x.sub, fun j k ea eb w hjk g1 ma g2 g3 mb => ?_⟩
  · have ne : a ≠ q := fun z => by
      subst z
      rcases hw with w | w
      · rw [h] at w; cases w
      · exact ha w
    exact x.keep a o ne (s.ext.keep a o ha h)
  · cases e : F a with
    | some u => exact s.ext.new a u e h'
    | none => exact newOk h e
  · cases e : F' a with
    | none => rfl
    | some u => exact absurd (x.new a u e (s.ext.mu a ha).1) (s.ext.mu a ha).2
  · by_cases ne : a = q
    · rw [ne, hq]
      exact fun z => nomatch z
    · cases e : H a with
      | none => exact absurd e (s.ext.mu a ha).2
      | some u =>
        rw [x.keep a u ne e]
        exact fun z => nomatch z
  · by_cases hij : i = j
    · subst hij
      rw [List.getElem?_set_self hi] at h
      cases h
      exact ⟨.ref q, h1, q, rfl, hq, (x.mu q rfl).1, h5⟩
    · rw [List.getElem?_set_ne hij] at h
      obtain ⟨w, g1, g2⟩ := s.slot j e' h
      refine ⟨w, g1, ?_⟩
      have sep : mutE e' = true → w ≠ .ref q := fun m z => s.sep i j _ e' q hij e5 rfl h1 h m (by rw [g1, z])
      have fr : ∀ {a o}, H a = some o → F a = none → F' a = none := fun {a o} h h' => by
        cases e : F' a with
        | none => rfl
        | some u =>
          rw [x.new a u e h'] at h
          cases h
      cases e' with
      | fz d => exact Rep.up g2 x.sub
      | own ds =>
        obtain ⟨t, ys, e, g3, g4, g5, g6⟩ := g2
        have : t ≠ q := fun z => sep rfl (by rw [e, z])
        exact ⟨t, ys, e, x.keep _ _ this g3, fr g3 g4, g5, g6.up x.sub⟩
      | dct b m =>
        obtain ⟨t, e, g3, g4, g5⟩ := g2
        have : t ≠ q := fun z => sep rfl (by rw [e, z])
        exact ⟨t, e, x.keep _ _ this g3, fr g3 g4, g5⟩
      | slf b S => exact absurd h (noSlf_ok nx j b S)
  · have mu1 : ∀ {l : Nat} {e' : EV}, (env.set i (some (.dct bb m')))[l]? = some (some e') → mutE e' = true → ∃ e'', env[l]? = some (some e'') ∧ mutE e'' = true := fun {l e'} h m => by
      by_cases hij : i = l
      · subst hij
        exact ⟨_, e5, rfl⟩
      · rw [List.getElem?_set_ne hij] at h
        exact ⟨e', h, m⟩
    obtain ⟨e2, k1, k2⟩ := mu1 g1 ma
    obtain ⟨e3, k3, k4⟩ := mu1 g3 mb
    exact s.sep j k e2 e3 w hjk k1 k2 g2 k3 k4
theorem ds_callM (i : Nat) {cpos : Pos} {j : Nat} {k : Nat} {fn : Addr} {ps : List Str} {g : Mp → List D → Option (Mp × D)} (O : OkD X.prog X.w X.K X.mg X.base k fn ps (spM X.K j g)) (hr : Room k X.A) (hm : X.mg x = some (.ref fn)) (ha : PA X (e :: es) (tAM X.K i j fa))
    (hg : Gl X x := by rfl) (hdb : (x == ("__debug__" : Str)) = false := by decide) (he : starEach (e :: es) X.env = (false, eval e X.env) :: starEach es X.env := by rfl) (hpl : (backTo cpos (starEach es X.env)).any (·.1) = false := by rfl)
    (hs : swapsWith (.Call (.Name x p) (e :: es) [] cpos) none pos.line X.env = pure false := by rfl) :
    PS X (.Expr (.Call (.Name x p) (e :: es) [] cpos) pos) (tS X.K (sCallM i fa g)) := by
  obtain ⟨fd, G, b, kp⟩ := O
  refine PS.imp (ps_expr (pe_call G hr hg hm kp b .nil pass0 ha hdb he hpl) hs) fun Dn σ H h => ?_
  obtain ⟨B, F0, H0, F, env, r, sr, he, k⟩ := h
  unfold sCallM at he
  split at he
  · rename_i bb m e1
    obtain ⟨ds, e2, he⟩ := bnd_some he
    obtain ⟨r1, e3, he⟩ := bnd_some he
    split at he
    · rename_i hn
      cases he
      obtain ⟨e5, hb⟩ := dctW_some e1
      obtain ⟨v, g1, w, rfl, h3, h4, h5⟩ := sr.slot i _ e5
      refine ⟨B, F0, H0, F, env, ds, m, sr, by unfold dctAt; rw [e5], e2, fun F1 H1 vs q x1 h1 h2 r2 => ?_⟩
      show spM X.K j g (vs ++ []) H1 _ E0
      rw [List.append_nil]
      rw [h2] at g1
      cases g1
      obtain ⟨m', d'⟩ := r1
      refine ⟨F1, ds, d', _, m, m', x1.sup, h1, x1.keep _ _ (fun z => z) h3, x1.free h3 h4, r2, e3, fun F2 H2 v x2 hq r3 => ?_⟩
      exact k σ F2 H2 (SR.callM h5 (sr.go x1) e5 h2 (wr_ok h5 hb) hn x2 hq)
    · cases he
  · cases he
/-! a def with a dict among its parameters -/
def envM (n j : Nat) (b : Md) (m : Mp) (ds : List D) : Env := ((ds.map fun d => some (EV.fz d)).insertIdx j (some (.dct b m))) ++ List.replicate (n - (ds.length + 1)) none
def runR (np nn j : Nat) (g : Env → Option Res) : Mp → List D → Option D := fun m ds => if ds.length + 1 = np ∧ j ≤ ds.length then outD (g (envM nn j .read m ds)) else none
def dctE (j : Nat) (env : Env) : Option Mp := match env[j]? with
  | some (some (.dct .lent m)) => some m
  | _ => none
def outM (j : Nat) : Option Res → Option (Mp × D)
  | some (.rt e d) => bnd (dctE j e) fun m => some (m, d)
  | some (.nx e) => bnd (dctE j e) fun m => some (m, .non)
  | _ => none
def runM (np nn j : Nat) (g : Env → Option Res) : Mp → List D → Option (Mp × D) := fun m ds => if ds.length + 1 = np ∧ j ≤ ds.length then outM j (g (envM nn j .lent m ds)) else none
theorem envM_get {n j : Nat} {b : Md} {m : Mp} {ds : List D} (hj : j ≤ ds.length) {i : Nat} {e : EV} (h : (envM n j b m ds)[i]? = some (some e)) : (i = j ∧ e = .dct b m) ∨ (i < j ∧ ∃ d, ds[i]? = some d ∧ e = .fz d) ∨ (j < i ∧ ∃ d, ds[i - 1]? = some d ∧ e = .fz d) := by
  have hl : ((ds.map fun d => some (EV.fz d)).insertIdx j (some (.dct b m))).length = ds.length + 1 := by
    rw [List.length_insertIdx]
    simp [hj]
  unfold envM at h
  rw [List.getElem?_append] at h
  split at h
  · rw [List.getElem?_insertIdx] at h
    split at h
    · rename_i hij
      rw [List.getElem?_map] at h
      cases z : ds[i]? with
      | none => rw [z] at h; cases h
      | some d =>
        rw [z] at h
        exact .inr (.inl ⟨hij, d, rfl, (Option.some.inj (Option.some.inj h)).symm⟩)
    · split at h
      · rename_i hij
        split at h
        · exact .inl ⟨hij, (Option.some.inj (Option.some.inj h)).symm⟩
        · cases h
      · rename_i h1 h2
        rw [List.getElem?_map] at h
        cases z : ds[i - 1]? with
        | none => rw [z] at h; cases h
        | some d =>
          rw [z] at h
          exact .inr (.inr ⟨by omega, d, rfl, (Option.some.inj (Option.some.inj h)).symm⟩)
  · rw [List.getElem?_replicate] at h
    split at h <;> cases h
theorem eraseIdx_at {α : Type} {j : Nat} : ∀ {vs : List α} {i : Nat}, (i < j → (vs.eraseIdx j)[i]? = vs[i]?) ∧ (j < i → (vs.eraseIdx j)[i - 1]? = vs[i]?) := fun {vs i} => by
  constructor
  · intro h
    rw [List.getElem?_eraseIdx, if_pos h]
  · intro h
    rw [List.getElem?_eraseIdx, if_neg (by omega)]
    congr 1
    omega
theorem SR.startM {F H : Hp} {vs : List V} {ds : List D} {j : Nat} {q : Addr} {m : Mp} {bb : Md} {B : Bor} (s : Same F H) (hv : vs[j]? = some (.ref q)) (hq : H q = some (.dT (kvs m))) (hF : F q = none) (r : RepAll K F (vs.eraseIdx j) ds) (hB : B.anc = F) (ext : Ext (MB B) F H F H) (live : ∀ a, MB B a → H a ≠ none) (hb : match bb with
    | .own => H q = none
    | .lent => ∃ x, B.lent = some (x, q)
    | .read => True) (N : List Str) : SR K B F H F H (L2.start N vs) (envM N.length j bb m ds) := by
  have hjv : j < vs.length := (List.getElem?_eq_some_iff.mp hv).1
  have hl : vs.length = ds.length + 1 := by
    have z := r.length
    rw [List.length_eraseIdx, if_pos hjv] at z
    omega
  have hj : j ≤ ds.length := by omega
  have at_ : ∀ {i : Nat} {v : V}, vs[i]? = some v → (L2.start N vs)[i]? = some (some v) := fun {i v} h => by
    have hi : i < vs.length := (List.getElem?_eq_some_iff.mp h).1
    unfold L2.start
    rw [List.getElem?_append_left (by simp [hi]), List.getElem?_map, h]
    rfl
  refine ⟨ext, ?_, fun i e h => ?_, live, by rw [hB]; exact Same.refl F, fun i k e e' w hik h1 m1 _ h3 m3 => ?_⟩
  · unfold L2.start envM
    rw [List.length_append, List.length_append, List.length_insertIdx]
    simp [hj, hl]
  · rcases envM_get hj h with ⟨rfl, rfl⟩ | ⟨hi, d, g1, rfl⟩ | ⟨hi, d, g1, rfl⟩
    · exact ⟨.ref q, at_ hv, q, rfl, hq, hF, hb⟩
    · obtain ⟨v, g2, g3⟩ := r.get g1
      rw [eraseIdx_at.1 hi] at g2
      exact ⟨v, at_ g2, g3⟩
    · obtain ⟨v, g2, g3⟩ := r.get g1
      rw [eraseIdx_at.2 hi] at g2
      exact ⟨v, at_ g2, g3⟩
  · rcases envM_get hj h1 with ⟨a1, rfl⟩ | ⟨_, d, _, rfl⟩ | ⟨_, d, _, rfl⟩
    · rcases envM_get hj h3 with ⟨a3, rfl⟩ | ⟨_, d, _, rfl⟩ | ⟨_, d, _, rfl⟩
      · exact absurd (a1.trans a3.symm) hik
      · cases m3
      · cases m3
    · cases m1
    · cases m1
variable {P : Program} {w : World} {mg : Str → Option Value} {base : Heap} {qual : Str} {params : Arguments} {body : List Stmt} {scope : Scope} {dvs : List V} {kws : List (Str × V)} {fa' : Addr} {fd' : FuncData}
theorem fn_denR {N ps : List Str} {k j : Nat} (F : FunD K x qual params body scope dvs kws fa' fd') (S : FnScope N ps scope) (g : Env → Option Res)
    (hb : ∀ (cdv : Value) (A : Around) (outer : List PySem.Env) (s : Shared) (H : Hp) (E : XK), Room k (A.deeper (envOfC qual scope s.heap.objs.size fa' cdv)) → PSs (cxOf CX0 P w K mg base N qual scope fa' cdv A outer s H E).nox body (tS K g)) :
    FnOk P w K mg base CX0 (k + 1) fa' fd' ps (spR K j (runR ps.length N.length j g)) := by
  have runs : ∀ {m ds d}, runR ps.length N.length j g m ds = some d → (ds.length + 1 = ps.length ∧ j ≤ ds.length) ∧ ∃ r, g (envM N.length j .read m ds) = some r ∧ outD (some r) = some d := fun {m ds d} h => by
    unfold runR at h
    split at h
    · rename_i hl
      refine ⟨hl, ?_⟩
      cases e : g (envM N.length j .read m ds) with
      | none => rw [e] at h; cases h
      | some r => rw [e] at h; exact ⟨r, rfl, h⟩
    · cases h
  refine F.ok S (fun vs H Q E h => ?_) (fun cdv A outer s H vs Q E hr h => ?_)
  · obtain ⟨F1, ds, d, q, m, s1, hv, hq, hF, r, e, _⟩ := h
    have z := r.length
    rw [List.length_eraseIdx, if_pos (List.getElem?_eq_some_iff.mp hv).1] at z
    have := (runs e).1.1
    have := (List.getElem?_eq_some_iff.mp hv).1
    omega
  · obtain ⟨F1, ds, d, q, m, s1, hv, hq, hF, r, e, kk⟩ := h
    obtain ⟨hl, res, e1, e2⟩ := runs e
    refine ⟨_, PSs.nox (hb cdv A outer s H E hr), ⟨none, F1⟩, F1, H, F1, _, res, SR.startM (B := ⟨none, F1⟩) s1 hv hq hF r rfl ⟨Same.refl F1, s1, fun _ _ _ h => h, fun a o h h' => (by rw [h] at h'; cases h'), fun _ h => h.elim⟩ (fun _ h => h.elim) (bb := .read) trivial N, e1, ?_⟩
    cases res with
    | nx e =>
      cases e2
      exact fun σ' F' H' sr => kk F' H' _ ⟨sr.ext.sub, sr.ext.sup, fun a o _ h => sr.ext.keep a o (fun z => z) h, sr.ext.new, fun _ z => z.elim⟩ .non
    | rt e d' =>
      cases e2
      exact fun σ' F' H' v sr r' => kk F' H' v ⟨sr.ext.sub, sr.ext.sup, fun a o _ h => sr.ext.keep a o (fun z => z) h, sr.ext.new, fun _ z => z.elim⟩ r'
    | bk e => cases e2
    | ct e => cases e2
theorem dctE_some {j : Nat} {env : Env} {m : Mp} (h : dctE j env = some m) : env[j]? = some (some (.dct .lent m)) := by
  unfold dctE at h
  split at h
  · rename_i m' e
    cases h
    exact e
  · cases h
theorem fn_denM {N ps : List Str} {k j : Nat} (F : FunD K x qual params body scope dvs kws fa' fd') (S : FnScope N ps scope) (g : Env → Option Res)
    (hb : ∀ (cdv : Value) (A : Around) (outer : List PySem.Env) (s : Shared) (H : Hp) (E : XK), Room k (A.deeper (envOfC qual scope s.heap.objs.size fa' cdv)) → PSs (cxOf CX0 P w K mg base N qual scope fa' cdv A outer s H E).nox body (tS K g)) :
    FnOk P w K mg base CX0 (k + 1) fa' fd' ps (spM K j (runM ps.length N.length j g)) := by
  have runs : ∀ {m ds d}, runM ps.length N.length j g m ds = some d → (ds.length + 1 = ps.length ∧ j ≤ ds.length) ∧ ∃ r, g (envM N.length j .lent m ds) = some r ∧ outM j (some r) = some d := fun {m ds d} h => by
    unfold runM at h
    split at h
    · rename_i hl
      refine ⟨hl, ?_⟩
      cases e : g (envM N.length j .lent m ds) with
      | none => rw [e] at h; cases h
      | some r => rw [e] at h; exact ⟨r, rfl, h⟩
    · cases h
  refine F.ok S (fun vs H Q E h => ?_) (fun cdv A outer s H vs Q E hr h => ?_)
  · obtain ⟨F1, ds, d, q, m, m', s1, hv, hq, hF, r, e, _⟩ := h
    have z := r.length
    rw [List.length_eraseIdx, if_pos (List.getElem?_eq_some_iff.mp hv).1] at z
    have := (runs e).1.1
    have := (List.getElem?_eq_some_iff.mp hv).1
    omega
  · obtain ⟨F1, ds, d, q, m, m', s1, hv, hq, hF, r, e, kk⟩ := h
    obtain ⟨hl, res, e1, e2⟩ := runs e
    have hM : ∀ {a}, MB ⟨some (q, q), F1⟩ a → a = q := fun {a} h => by
      rcases (show a = q ∨ a = q from h) with e | e <;> exact e
    refine ⟨_, PSs.nox (hb cdv A outer s H E hr), ⟨some (q, q), F1⟩, F1, H, F1, _, res, SR.startM s1 hv hq hF r rfl ⟨Same.refl F1, s1, fun _ _ _ h => h, fun a o h h' => (by rw [h] at h'; cases h'), fun a h => by rw [hM h]; exact ⟨hF, by rw [hq]; exact fun z => nomatch z⟩⟩ (fun a h => by rw [hM h, hq]; exact fun z => nomatch z) (bb := .lent) ⟨q, rfl⟩ N, e1, ?_⟩
    have fin : ∀ {σ' F' H' env'}, SR K ⟨some (q, q), F1⟩ F1 H F' H' σ' env' → dctE j env' = some m' → Ext (fun a => a = q) F1 H F' H' ∧ H' q = some (.dT (kvs m')) := fun {σ' F' H' env'} sr hm => by
      obtain ⟨v, g1, t, rfl, g3, g4, y, g5⟩ := sr.slot j _ (dctE_some hm)
      cases g5
      exact ⟨⟨sr.ext.sub, sr.ext.sup, fun a o ha h => sr.ext.keep a o (fun z => ha (hM z)) h, sr.ext.new, fun a ha => sr.ext.mu a (.inl ha)⟩, g3⟩
    cases res with
    | nx e =>
      obtain ⟨m2, e3, e4⟩ := bnd_some (show bnd (dctE j e) (fun m => some (m, D.non)) = some (m', d) from e2)
      cases e4
      intro σ' F' H' sr
      obtain ⟨x1, x2⟩ := fin sr e3
      exact kk F' H' _ x1 x2 .non
    | rt e d' =>
      obtain ⟨m2, e3, e4⟩ := bnd_some (show bnd (dctE j e) (fun m => some (m, d')) = some (m', d) from e2)
      cases e4
      intro σ' F' H' v sr r'
      obtain ⟨x1, x2⟩ := fin sr e3
      exact kk F' H' v x1 x2 r'
    | bk e => cases e2
    | ct e => cases e2
end
end EM
set_option maxHeartbeats 2000000
namespace EM
open PySem PySem.Spec PyProof.Rows L2
/-! the Search in slot 0 -/
def slfAt (env : Env) : Option SS := match env with
  | some (.slf _ S) :: _ => some S
  | _ => none
def slfW (env : Env) : Option SS := match env with
  | some (.slf .lent S) :: _ => some S
  | _ => none
def loneE : Option EV → Bool
  | some (.dct _ _) => false
  | some (.slf _ _) => false
  | _ => true
def lone (env : Env) : Bool := env.tail.all loneE
theorem slfAt_some {env : Env} {S : SS} (h : slfAt env = some S) : ∃ b, env[0]? = some (some (.slf b S)) := by
  unfold slfAt at h
  split at h
  · rename_i b S' r
    cases h
    exact ⟨b, rfl⟩
  · cases h
theorem slfW_some {env : Env} {S : SS} (h : slfW env = some S) : env[0]? = some (some (.slf .lent S)) ∧ slfAt env = some S := by
  unfold slfW at h
  split at h
  · rename_i S' r
    cases h
    exact ⟨rfl, rfl⟩
  · cases h
theorem lone_ok {env : Env} (h : lone env = true) (j : Nat) (hj : 0 ≠ j) (e : EV) (q : env[j]? = some (some e)) : loneE (some e) = true := by
  cases env with
  | nil => simp at q
  | cons a r =>
    cases j with
    | zero => exact absurd rfl hj
    | succ j =>
      rw [List.getElem?_cons_succ] at q
      exact List.all_eq_true.mp h _ (List.mem_of_getElem? q)
def dSelf (g : SS → Int) : Env → Option D := fun env => bnd (slfAt env) fun S => some (.int (g S))
def dOften (f : Env → Option D) : Env → Option D := fun env => bnd (f env) fun k => bnd (pairOf k) fun q => bnd (slfAt env) fun S => bnd (mget S.often q) fun c => some (.int c)
def sll (fa : Env → Option (List D)) (g : SS → List D → Option D) : Env → Option D := fun env => bnd (slfAt env) fun S => bnd (fa env) fun ds => g S ds
def sllW (fa : Env → Option (List D)) (g : SS → List D → Option (SS × D)) : Env → Option (Env × D) := fun env => bnd (slfW env) fun S => bnd (fa env) fun ds => bnd (g S ds) fun r => if lone env then some (env.set 0 (some (.slf .lent r.1)), r.2) else none
def sCallS (fa : Env → Option (List D)) (g : SS → List D → Option (SS × D)) : Env → Option Res := fun env => bnd (sllW fa g env) fun r => some (.nx r.1)
def sAsgS (is : List Nat) (fa : Env → Option (List D)) (g : SS → List D → Option (SS × D)) : Env → Option Res := fun env => bnd (sllW fa g env) fun r => bnd (setT is r.2 r.1) fun e => some (.nx e)
def sLeft (f : Env → Option D) : Env → Option Res := fun env => match f env with
  | some (.int c) => bnd (slfW env) fun S => if lone env then some (.nx (env.set 0 (some (.slf .lent { S with left := c })))) else none
  | _ => none
def sPutO (fk fv : Env → Option D) : Env → Option Res := fun env => match fv env with
  | some (.int c) => bnd (fk env) fun k => bnd (pairOf k) fun q => bnd (slfW env) fun S => if decide (S.often.length < 100000) && lone env then some (.nx (env.set 0 (some (.slf .lent { S with often := mput S.often q c })))) else none
  | _ => none
/-! promises -/
def spSr (K : PySem.W.Frag) (g : SS → List D → Option D) : Sp := fun vs H Q _ => ∃ F ds d p dx dd C S rest, vs = .ref p :: rest ∧ Same F H ∧ PySem.W.nsIn K mainGlobals "Search" = some (some (.ref C)) ∧ H p = some (.ins C dx (flds S dd)) ∧ H dd = some (.dT (kvs S.often)) ∧ F p = none ∧ F dd = none ∧ RepAll K F rest ds ∧ g S ds = some d ∧ ∀ F' H' v, Ext No F H F' H' → Rep K F' v d → Q v H'
def spS (K : PySem.W.Frag) (g : SS → List D → Option (SS × D)) : Sp := fun vs H Q _ => ∃ F ds d p dx dd C S S' rest, vs = .ref p :: rest ∧ Same F H ∧ PySem.W.nsIn K mainGlobals "Search" = some (some (.ref C)) ∧ H p = some (.ins C dx (flds S dd)) ∧ H dd = some (.dT (kvs S.often)) ∧ F p = none ∧ F dd = none ∧ RepAll K F rest ds ∧ g S ds = some (S', d) ∧
  ∀ F' H' v dx', Ext (fun a => a = p ∨ a = dd) F H F' H' → H' p = some (.ins C dx' (flds S' dd)) → H' dd = some (.dT (kvs S'.often)) → Rep K F' v d → Q v H'
theorem Ext.wr {M : Addr → Prop} {F H : Hp} {x : Addr} {o : HO} (s : Same F H) (hx : F x = none) (mx : M x) (hm : ∀ a, M a → F a = none ∧ H a ≠ none) : Ext M F H F (upd H x o) := by
  refine ⟨Same.refl F, fun b u q => ?_, fun b u nb q => ?_, fun b u q q' => (by rw [q] at q'; cases q'), fun a ha => ⟨(hm a ha).1, ?_⟩⟩
  · rw [upd_ne (ne_of_none q hx)]
    exact s _ _ q
  · rw [upd_ne (fun z => nb (by rw [z]; exact mx))]
    exact q
  · by_cases z : a = x
    · rw [z, upd_same]
      exact fun z => nomatch z
    · rw [upd_ne z]
      exact (hm a ha).2
/-- behind a call that changes the Search -/
theorem SR.callS {K : PySem.W.Frag} {B : Bor} {F0 H0 F H F' H' : Hp} {σ : St} {env : Env} {x dx dd C : Addr} {S S' : SS} (s : SR K B F0 H0 F H σ env) (e0 : env[0]? = some (some (.slf .lent S))) (h1 : σ[0]? = some (some (.ref x))) (hl : B.lent = some (x, dd)) (hc : PySem.W.nsIn K mainGlobals "Search" = some (some (.ref C)))
    (g2 : H dd = some (.dT (kvs S.often))) (nx : lone env = true) (X : Ext (fun a => a = x ∨ a = dd) F H F' H') (q1 : H' x = some (.ins C dx (flds S' dd))) (q2 : H' dd = some (.dT (kvs S'.often))) : SR K B F0 H0 F' H' σ (env.set 0 (some (.slf .lent S'))) := by
  have hi : 0 < env.length := (List.getElem?_eq_some_iff.mp e0).1
  have hM : ∀ a, MB B a ↔ (a = x ∨ a = dd) := fun a => by
    show MO B.lent a ↔ _
    rw [hl]
    exact Iff.rfl
  have X2 : Ext (MB B) F H F' H' := ⟨X.sub, X.sup, fun a o ha h => X.keep a o (fun z => ha ((hM a).mpr z)) h, X.new, fun a ha => X.mu a ((hM a).mp ha)⟩
  refine ⟨s.ext.trans X2, by simp [s.len], fun j e' h => ?_, s.live, s.anc.trans X.sub, fun j k ea eb w hjk g1 ma gg g3 mb => ?_⟩
  · by_cases hij : 0 = j
    · subst hij
      rw [List.getElem?_set_self hi] at h
      cases h
      exact ⟨.ref x, h1, x, dx, dd, C, rfl, hl, hc, q1, q2, (X.mu x (.inl rfl)).1, (X.mu dd (.inr rfl)).1⟩
    · rw [List.getElem?_set_ne hij] at h
      obtain ⟨w, g1, g3⟩ := s.slot j e' h
      refine ⟨w, g1, ?_⟩
      have lo := lone_ok nx j hij e' h
      have sep : mutE e' = true → w ≠ .ref x := fun m z => s.sep 0 j _ e' x hij e0 rfl h1 h m (by rw [g1, z])
      cases e' with
      | fz d => exact Rep.up g3 X.sub
      | own ds =>
        obtain ⟨t, ys, e, g4, g5, g6, g7⟩ := g3
        have n1 : t ≠ x := fun z => sep rfl (by rw [e, z])
        have n2 : t ≠ dd := fun z => by rw [z, g2] at g4; cases g4
        refine ⟨t, ys, e, X.keep _ _ (fun z => z.elim n1 n2) g4, ?_, g6, g7.up X.sub⟩
        cases q : F' t with
        | none => rfl
        | some u =>
          rw [X.new t u q g5] at g4
          cases g4
      | dct b m => cases lo
      | slf b S => cases lo
  · have mu1 : ∀ {l : Nat} {e' : EV}, (env.set 0 (some (.slf .lent S')))[l]? = some (some e') → mutE e' = true → ∃ e'', env[l]? = some (some e'') ∧ mutE e'' = true := fun {l e'} h m => by
      by_cases hij : 0 = l
      · subst hij
        exact ⟨_, e0, rfl⟩
      · rw [List.getElem?_set_ne hij] at h
        exact ⟨e', h, m⟩
    obtain ⟨e2, k1, k2⟩ := mu1 g1 ma
    obtain ⟨e3, k3, k4⟩ := mu1 g3 mb
    exact s.sep j k e2 e3 w hjk k1 k2 gg k3 k4
section
variable {X : Cx} {K : PySem.W.Frag} {e a b : Expr} {es : List Expr} {p pos p2 apos : Pos} {fa : Env → Option (List D)} {f fb : Env → Option D} {x : Str} {C : Addr}
theorem slot0 {B : Bor} {F0 H0 F H : Hp} {σ : St} {env : Env} {S : SS} (sr : SR K B F0 H0 F H σ env) (h : slfAt env = some S) (c : ClF K "Search" C) : ∃ x dx dd, σ[0]? = some (some (.ref x)) ∧ H x = some (.ins C dx (flds S dd)) ∧ H dd = some (.dT (kvs S.often)) ∧ F x = none ∧ F dd = none ∧ (slfW env = some S → B.lent = some (x, dd)) := by
  obtain ⟨b, e⟩ := slfAt_some h
  obtain ⟨v, h1, x, dx, dd, C', rfl, h2, h3, h4, h5, h6, h7⟩ := sr.slot 0 _ e
  rw [c.at_] at h3
  cases h3
  refine ⟨x, dx, dd, h1, h4, h5, h6, h7, fun w => ?_⟩
  have := (slfW_some w).1
  rw [e] at this
  cases this
  exact h2
theorem pd_self (g : SS → Int) (c : ClF X.K "Search" C) (n : NoAttr X.K C x) (hl : ∀ S dd, (flds S dd).lookup x = some (.int (g S))) (hN : X.N[0]? = some ("self" : Str) := by rfl) (hv : Vis X.env.scope ("self" : Str) := by first | exact Or.inl rfl | exact Or.inr (Or.inl rfl) | exact Or.inr (Or.inr rfl))
    (hb : attributeBase (.Name "self" p) x X.env (eval (.Name "self" p) X.env) = eval (.Name "self" p) X.env := by rfl) : PE X (.Attribute (.Name "self" p) x pos) (tD X.K (dSelf g)) := by
  refine PE.imp (pe_fld (pe_var hN hv (by decide) (by decide)) hb) fun σ H Q h => ?_
  obtain ⟨B, F0, H0, F, env, d, sr, he, k⟩ := h
  obtain ⟨S, e1, e2⟩ := bnd_some he
  cases e2
  obtain ⟨y, dx, dd, h1, h2, h3, h4, h5, _⟩ := slot0 sr e1 c
  exact ⟨_, h1, y, C, dx, _, _, rfl, h2, c.cl, n, hl S dd, k F H _ sr.here (.int _)⟩
theorem pd_often (c : ClF X.K "Search" C) (n : NoAttr X.K C "often") (hu : X.A.units + 1 < cLine) (hi : PE X b (tD X.K f)) (hs : NoSl b := by exact fun _ _ => rfl) (hN : X.N[0]? = some ("self" : Str) := by rfl) (hv : Vis X.env.scope ("self" : Str) := by first | exact Or.inl rfl | exact Or.inr (Or.inl rfl) | exact Or.inr (Or.inr rfl))
    (hb : attributeBase (.Name "self" p) "often" X.env (eval (.Name "self" p) X.env) = eval (.Name "self" p) X.env := by rfl) : PE X (.Subscript (.Attribute (.Name "self" p) "often" p2) b pos) (tD X.K (dOften f)) := by
  refine PE.imp (pe_dget hu (pe_fld (pe_var hN hv (by decide) (by decide)) hb) hi hs) fun σ H Q h => ?_
  obtain ⟨B, F0, H0, F, env, d, sr, he, k⟩ := h
  obtain ⟨kd, e1, he⟩ := bnd_some he
  obtain ⟨q, e2, he⟩ := bnd_some he
  obtain ⟨S, e3, he⟩ := bnd_some he
  obtain ⟨cc, e4, he⟩ := bnd_some he
  cases he
  obtain ⟨y, dx, dd, h1, h2, h3, h4, h5, _⟩ := slot0 sr e3 c
  refine ⟨_, h1, y, C, dx, _, .ref dd, rfl, h2, c.cl, n, rfl, B, F0, H0, F, env, kd, sr, e1, fun F1 H1 v x1 r1 => ?_⟩
  obtain ⟨t, rfl, g1⟩ := r1.pair e2
  have z := DGet.t (k := key2 q) (x1.keep _ _ (fun z => z) h3) (x1.sup _ _ g1)
  rw [valV_kvs, e4] at z
  exact ⟨dd, _, rfl, z, k F1 H1 _ x1 (.int _)⟩
theorem ds_left (c : ClF X.K "Search" C) (n : NoAttr X.K C "left") {tpos : Pos} (hv : PE X e (tD X.K f)) (hN : X.N[0]? = some ("self" : Str) := by rfl) (hvs : Vis X.env.scope ("self" : Str) := by first | exact Or.inl rfl | exact Or.inr (Or.inl rfl) | exact Or.inr (Or.inr rfl))
    (hs : swapsWith e (some (.Attribute (.Name "self" p) "left" tpos)) pos.line X.env = pure false := by rfl) : PS X (.Assign [.Attribute (.Name "self" p) "left" tpos] e pos) (tS X.K (sLeft f)) := by
  refine PS.imp (ps_fld (pe_var hN hvs (by decide) (by decide)) hv hs) fun Dn σ H h => ?_
  obtain ⟨B, F0, H0, F, env, r, sr, he, k⟩ := h
  unfold sLeft at he
  split at he
  · rename_i cc e1
    obtain ⟨S, e2, he⟩ := bnd_some he
    split at he
    · rename_i hl
      cases he
      obtain ⟨e3, e4⟩ := slfW_some e2
      refine ⟨B, F0, H0, F, env, _, sr, e1, fun F1 H1 v x1 r1 => ?_⟩
      cases r1
      obtain ⟨y, dx, dd, h1, h2, h3, h4, h5, h6⟩ := slot0 (sr.go x1) e4 c
      refine ⟨_, h1, y, C, dx, _, rfl, h2, c.cl, n, (show (5 : Nat) < 1000 by decide), ?_⟩
      have ne : dd ≠ y := fun z => by rw [z, h2] at h3; cases h3
      have w := Ext.wr (M := fun a => a = y ∨ a = dd) (x := y) (o := .ins C dx (putF "left" (.int cc) (flds S dd))) x1.sup h4 (.inl rfl) (fun a ha => ha.elim (fun z => by rw [z, h2]; exact ⟨h4, fun z => nomatch z⟩) (fun z => by rw [z, h3]; exact ⟨h5, fun z => nomatch z⟩))
      exact k _ F1 _ ((sr.go x1).callS (S' := { S with left := cc }) e3 h1 (h6 e2) c.at_ h3 hl w upd_same (by rw [upd_ne ne]; exact h3))
    · cases he
  · cases he
theorem ds_putO (c : ClF X.K "Search" C) (n : NoAttr X.K C "often") {tpos apos : Pos} (hu : X.A.units + 1 < cLine) (hk : PE X b (tD X.K fb)) (hv : PE X e (tD X.K f)) (hN : X.N[0]? = some ("self" : Str) := by rfl) (hvs : Vis X.env.scope ("self" : Str) := by first | exact Or.inl rfl | exact Or.inr (Or.inl rfl) | exact Or.inr (Or.inr rfl))
    (hb : attributeBase (.Name "self" p) "often" X.env (eval (.Name "self" p) X.env) = eval (.Name "self" p) X.env := by rfl) (hs : swapsWith e (some (.Subscript (.Attribute (.Name "self" p) "often" apos) b tpos)) pos.line X.env = pure false := by rfl) : PS X (.Assign [.Subscript (.Attribute (.Name "self" p) "often" apos) b tpos] e pos) (tS X.K (sPutO fb f)) := by
  refine PS.imp (ps_dput hu (pe_fld (pe_var hN hvs (by decide) (by decide)) hb) hk hv hs) fun Dn σ H h => ?_
  obtain ⟨B, F0, H0, F, env, r, sr, he, k⟩ := h
  unfold sPutO at he
  split at he
  · rename_i cc e1
    obtain ⟨kd, e2, he⟩ := bnd_some he
    obtain ⟨q, e3, he⟩ := bnd_some he
    obtain ⟨S, e4, he⟩ := bnd_some he
    split at he
    · rename_i hz
      cases he
      simp only [Bool.and_eq_true, decide_eq_true_eq] at hz
      obtain ⟨e5, e6⟩ := slfW_some e4
      refine ⟨B, F0, H0, F, env, _, sr, e1, fun F1 H1 v x1 r1 => ?_⟩
      cases r1
      obtain ⟨y, dx, dd, h1, h2, h3, h4, h5, h6⟩ := slot0 (sr.go x1) e6 c
      refine ⟨_, h1, y, C, dx, _, .ref dd, rfl, h2, c.cl, n, rfl, B, F0, H0, F1, env, kd, sr.go x1, e2, fun F2 H2 v2 x2 r2 => ?_⟩
      obtain ⟨t, rfl, g1⟩ := r2.pair e3
      have g3 := x2.keep _ _ (fun z => z) h3
      have g2 := x2.keep _ _ (fun z => z) h2
      have g4 := x2.free h2 h4
      have g5 := x2.free h3 h5
      refine ⟨dd, _, rfl, DPut.t (k := key2 q) g3 (x2.sup _ _ g1) (by rw [kvs_length]; exact Nat.lt_of_lt_of_le hz.1 (big_line (Nat.le_refl _))), ?_⟩
      rw [putK_kvs]
      have ne : y ≠ dd := fun z => by rw [z, h3] at h2; cases h2
      have w := Ext.wr (M := fun a => a = y ∨ a = dd) (x := dd) (o := .dT (kvs (mput S.often q cc))) x2.sup g5 (.inr rfl) (fun a ha => ha.elim (fun z => by rw [z, g2]; exact ⟨g4, fun z => nomatch z⟩) (fun z => by rw [z, g3]; exact ⟨g5, fun z => nomatch z⟩))
      exact k _ F2 _ (((sr.go x1).go x2).callS (S' := { S with often := mput S.often q cc }) e5 h1 (h6 e4) c.at_ g3 hz.2 w (by rw [upd_ne ne]; exact g2) upd_same)
    · cases he
  · cases he
/-! methods of the Search -/
theorem nolk {S : SS} {dd : Addr} {m : Str} (h : (m == ("width" : Str) || m == ("spots" : Str) || m == ("most" : Str) || m == ("left" : Str) || m == ("often" : Str)) = false) : (flds S dd).lookup m = none := by
  simp only [Bool.or_eq_false_iff] at h
  obtain ⟨⟨⟨⟨h1, h2⟩, h3⟩, h4⟩, h5⟩ := h
  simp [flds, List.lookup, h1, h2, h3, h4, h5]
theorem pd_smeth {k : Nat} {fn : Addr} {ps : List Str} {g : SS → List D → Option D} {m : Str} {pl : Sem Bool} (c : ClF X.K "Search" C) (hme : Meth X.K C m fn) (O : OkD X.prog X.w X.K X.mg X.base k fn ps (spSr X.K g)) (hr : Room k X.A) (ha : PA X (e :: es) (tA X.K fa)) (nl : (m == ("width" : Str) || m == ("spots" : Str) || m == ("most" : Str) || m == ("left" : Str) || m == ("often" : Str)) = false := by decide)
    (hN : X.N[0]? = some ("self" : Str) := by rfl) (hv : Vis X.env.scope ("self" : Str) := by first | exact Or.inl rfl | exact Or.inr (Or.inl rfl) | exact Or.inr (Or.inr rfl)) (hst : starEach (e :: es) X.env = (false, eval e X.env) :: starEach es X.env := by rfl) (hpl : (backTo pos (starEach es X.env)).any (·.1) = false := by rfl)
    (ht : eval (.Call (.Attribute (.Name "self" p) m apos) (e :: es) [] pos) X.env = (do
      let ov ← eval (.Name "self" p) X.env
      standAt apos.atName
      let (f, first) ← holding [ov] (getMethod ov m pl)
      callWith pos f first (backTo pos (starEach (e :: es) X.env)) (backToKw pos (keywordEach [] X.env))) := by rfl) :
    PE X (.Call (.Attribute (.Name "self" p) m apos) (e :: es) [] pos) (tD X.K (sll fa g)) := by
  obtain ⟨fd, G, b, kp⟩ := O
  refine PE.imp (pe_meth (pe_var hN hv (by decide) (by decide)) c.cl hme G hr b .nil pass0 ha hst hpl ht) fun σ H Q h => ?_
  obtain ⟨B, F0, H0, F, env, d, sr, he, k⟩ := h
  obtain ⟨S, e1, he⟩ := bnd_some he
  obtain ⟨ds, e2, he⟩ := bnd_some he
  obtain ⟨y, dx, dd, h1, h2, h3, h4, h5, _⟩ := slot0 sr e1 c
  refine ⟨_, h1, y, dx, _, rfl, h2, nolk nl, B, F0, H0, F, env, ds, sr, e2, fun F2 H2 vs x2 r2 => ?_⟩
  show spSr X.K g (_ :: (vs ++ [])) H2 Q E0
  rw [List.append_nil]
  exact ⟨F2, ds, d, y, dx, dd, C, S, vs, rfl, x2.sup, c.at_, x2.keep _ _ (fun z => z) h2, x2.keep _ _ (fun z => z) h3, x2.free h2 h4, x2.free h3 h5, r2, he, fun F3 H3 v x3 r3 => k F3 H3 v (x2.trans x3) r3⟩
theorem pd_smeth0 {k : Nat} {fn : Addr} {ps : List Str} {g : SS → List D → Option D} {m : Str} {pl : Sem Bool} (c : ClF X.K "Search" C) (hme : Meth X.K C m fn) (O : OkD X.prog X.w X.K X.mg X.base k fn ps (spSr X.K g)) (hr : Room k X.A) (nl : (m == ("width" : Str) || m == ("spots" : Str) || m == ("most" : Str) || m == ("left" : Str) || m == ("often" : Str)) = false := by decide)
    (hN : X.N[0]? = some ("self" : Str) := by rfl) (hv : Vis X.env.scope ("self" : Str) := by first | exact Or.inl rfl | exact Or.inr (Or.inl rfl) | exact Or.inr (Or.inr rfl))
    (ht : eval (.Call (.Attribute (.Name "self" p) m apos) [] [] pos) X.env = (do
      let ov ← eval (.Name "self" p) X.env
      standAt apos.atName
      let (f, first) ← holding [ov] (getMethod ov m pl)
      callWith pos f first (backTo pos (starEach [] X.env)) (backToKw pos (keywordEach [] X.env))) := by rfl) :
    PE X (.Call (.Attribute (.Name "self" p) m apos) [] [] pos) (tD X.K (sll aNil g)) := by
  obtain ⟨fd, G, b, kp⟩ := O
  refine PE.imp (pe_meth0 (pe_var hN hv (by decide) (by decide)) c.cl hme G hr b .nil pass0 ht) fun σ H Q h => ?_
  obtain ⟨B, F0, H0, F, env, d, sr, he, k⟩ := h
  obtain ⟨S, e1, he⟩ := bnd_some he
  obtain ⟨ds, e2, he⟩ := bnd_some he
  cases e2
  obtain ⟨y, dx, dd, h1, h2, h3, h4, h5, _⟩ := slot0 sr e1 c
  exact ⟨_, h1, y, dx, _, rfl, h2, nolk nl, F, [], d, y, dx, dd, C, S, [], rfl, sr.sup, c.at_, h2, h3, h4, h5, .nil, he, fun F3 H3 v x3 r3 => k F3 H3 v x3 r3⟩
/-- .. that change it: what is behind the call -/
def tW (K : PySem.W.Frag) (f : Env → Option (Env × D)) : TE := fun σ H Q => ∃ B F0 H0 F env r, SR K B F0 H0 F H σ env ∧ f env = some r ∧ ∀ F' H' v, SR K B F0 H0 F' H' σ r.1 → Rep K F' v r.2 → Q v H'
theorem pw_smeth {k : Nat} {fn : Addr} {ps : List Str} {g : SS → List D → Option (SS × D)} {m : Str} {pl : Sem Bool} (c : ClF X.K "Search" C) (hme : Meth X.K C m fn) (O : OkD X.prog X.w X.K X.mg X.base k fn ps (spS X.K g)) (hr : Room k X.A) (ha : PA X (e :: es) (tA X.K fa)) (nl : (m == ("width" : Str) || m == ("spots" : Str) || m == ("most" : Str) || m == ("left" : Str) || m == ("often" : Str)) = false := by decide)
    (hN : X.N[0]? = some ("self" : Str) := by rfl) (hv : Vis X.env.scope ("self" : Str) := by first | exact Or.inl rfl | exact Or.inr (Or.inl rfl) | exact Or.inr (Or.inr rfl)) (hst : starEach (e :: es) X.env = (false, eval e X.env) :: starEach es X.env := by rfl) (hpl : (backTo pos (starEach es X.env)).any (·.1) = false := by rfl)
    (ht : eval (.Call (.Attribute (.Name "self" p) m apos) (e :: es) [] pos) X.env = (do
      let ov ← eval (.Name "self" p) X.env
      standAt apos.atName
      let (f, first) ← holding [ov] (getMethod ov m pl)
      callWith pos f first (backTo pos (starEach (e :: es) X.env)) (backToKw pos (keywordEach [] X.env))) := by rfl) :
    PE X (.Call (.Attribute (.Name "self" p) m apos) (e :: es) [] pos) (tW X.K (sllW fa g)) := by
  obtain ⟨fd, G, b, kp⟩ := O
  refine PE.imp (pe_meth (pe_var hN hv (by decide) (by decide)) c.cl hme G hr b .nil pass0 ha hst hpl ht) fun σ H Q h => ?_
  obtain ⟨B, F0, H0, F, env, d, sr, he, k⟩ := h
  obtain ⟨S, e1, he⟩ := bnd_some he
  obtain ⟨ds, e2, he⟩ := bnd_some he
  obtain ⟨⟨S', r⟩, e3, he⟩ := bnd_some he
  split at he
  · rename_i hl
    cases he
    obtain ⟨e5, e6⟩ := slfW_some e1
    obtain ⟨y, dx, dd, h1, h2, h3, h4, h5, h6⟩ := slot0 sr e6 c
    refine ⟨_, h1, y, dx, _, rfl, h2, nolk nl, B, F0, H0, F, env, ds, sr, e2, fun F2 H2 vs x2 r2 => ?_⟩
    show spS X.K g (_ :: (vs ++ [])) H2 Q E0
    rw [List.append_nil]
    refine ⟨F2, ds, r, y, dx, dd, C, S, S', vs, rfl, x2.sup, c.at_, x2.keep _ _ (fun z => z) h2, x2.keep _ _ (fun z => z) h3, x2.free h2 h4, x2.free h3 h5, r2, e3, fun F3 H3 v dx3 x3 q1 q2 r3 => ?_⟩
    exact k F3 H3 v ((sr.go x2).callS e5 h1 (h6 e1) c.at_ (x2.keep _ _ (fun z => z) h3) hl x3 q1 q2) r3
  · cases he
theorem ds_callS {g : SS → List D → Option (SS × D)} (h : PE X e (tW X.K (sllW fa g))) (hs : swapsWith e none pos.line X.env = pure false := by rfl) : PS X (.Expr e pos) (tS X.K (sCallS fa g)) := by
  refine PS.imp (ps_expr h hs) fun Dn σ H h => ?_
  obtain ⟨B, F0, H0, F, env, r, sr, he, k⟩ := h
  obtain ⟨r1, e1, he⟩ := bnd_some he
  cases he
  exact ⟨B, F0, H0, F, env, r1, sr, e1, fun F1 H1 v sr1 _ => k σ F1 H1 sr1⟩
theorem ds_asgS {tg : Expr} {is : List Nat} {g : SS → List D → Option (SS × D)} (h : PE X e (tW X.K (sllW fa g))) (hg : PG X tg (gD X.K (setT is))) (hs : swapsWithSole [tg] e pos.line X.env = pure false := by rfl) (hw : swappedStores [tg] e X.env = pure none := by rfl)
    (h1 : (assignEach [tg] X.env).map (·.2) = [assign tg X.env] := by rfl) : PS X (.Assign [tg] e pos) (tS X.K (sAsgS is fa g)) := by
  refine PS.imp (ps_asg h hg hs hw h1) fun Dn σ H h => ?_
  obtain ⟨B, F0, H0, F, env, r, sr, he, k⟩ := h
  obtain ⟨r1, e1, he⟩ := bnd_some he
  obtain ⟨env', e2, he⟩ := bnd_some he
  cases he
  exact ⟨B, F0, H0, F, env, r1, sr, e1, fun F1 H1 v sr1 rv => ⟨B, F0, H0, F1, r1.1, r1.2, env', sr1, rv, e2, fun σ' sr' => k σ' F1 H1 sr'⟩⟩
/-! a method of the Search -/
def envS (n : Nat) (b : Md) (S : SS) (ds : List D) : Env := some (.slf b S) :: env0 (n - 1) ds
def runSr (np nn : Nat) (g : Env → Option Res) : SS → List D → Option D := fun S ds => if ds.length + 1 = np then outD (g (envS nn .read S ds)) else none
def outS : Option Res → Option (SS × D)
  | some (.rt e d) => bnd (slfW e) fun S => some (S, d)
  | some (.nx e) => bnd (slfW e) fun S => some (S, .non)
  | _ => none
def runS (np nn : Nat) (g : Env → Option Res) : SS → List D → Option (SS × D) := fun S ds => if ds.length + 1 = np then outS (g (envS nn .lent S ds)) else none
theorem SR.startS {K : PySem.W.Frag} {F H : Hp} {vs : List V} {ds : List D} {y dx dd C : Addr} {S : SS} {bb : Md} {B : Bor} {N : List Str} (s : Same F H) (r : RepAll K F vs ds) (hN : 0 < N.length) (hc : PySem.W.nsIn K mainGlobals "Search" = some (some (.ref C))) (h2 : H y = some (.ins C dx (flds S dd))) (h3 : H dd = some (.dT (kvs S.often))) (h4 : F y = none) (h5 : F dd = none) (hB : B.anc = F) (ext : Ext (MB B) F H F H) (live : ∀ a, MB B a → H a ≠ none)
    (hb : match bb with
    | .own => False
    | .lent => B.lent = some (y, dd)
    | .read => True) : SR K B F H F H (L2.start N (.ref y :: vs)) (envS N.length bb S ds) := by
  have key : ∀ (i : Nat) (e : EV), (env0 (N.length - 1) ds)[i]? = some (some e) → ∃ d, ds[i]? = some d ∧ e = .fz d := fun i e h => by
    unfold env0 at h
    rw [List.getElem?_append] at h
    split at h
    · exact slot_start i e r h
    · rw [List.getElem?_replicate] at h
      split at h <;> cases h
  refine ⟨ext, ?_, fun i e h => ?_, live, by rw [hB]; exact Same.refl F, fun i j e e' w hij h1 m1 _ h6 m6 => ?_⟩
  · unfold L2.start envS env0
    have := r.length
    simp only [List.length_append, List.length_map, List.length_cons, List.length_replicate]
    omega
  · cases i with
    | zero =>
      cases h
      exact ⟨.ref y, rfl, y, dx, dd, C, rfl, hb, hc, h2, h3, h4, h5⟩
    | succ i =>
      obtain ⟨d, g1, rfl⟩ := key i e h
      obtain ⟨v, g2, g3⟩ := r.get g1
      have hi : i < vs.length := (List.getElem?_eq_some_iff.mp g2).1
      refine ⟨v, ?_, g3⟩
      unfold L2.start
      rw [List.getElem?_append_left (by simp [hi]), List.getElem?_map, List.getElem?_cons_succ, g2]
      rfl
  · cases i with
    | zero =>
      cases j with
      | zero => exact absurd rfl hij
      | succ j =>
        obtain ⟨d, _, rfl⟩ := key j e' h6
        cases m6
    | succ i =>
      obtain ⟨d, _, rfl⟩ := key i e h1
      cases m1
variable {P : Program} {w : World} {mg : Str → Option Value} {base : Heap} {qual : Str} {params : Arguments} {body : List Stmt} {scope : Scope} {dvs : List V} {kws : List (Str × V)} {fa' : Addr} {fd' : FuncData}
theorem fn_denSr {N ps : List Str} {k : Nat} (F : FunD K x qual params body scope dvs kws fa' fd') (S : FnScope N ps scope) (g : Env → Option Res) (hN : 0 < N.length)
    (hb : ∀ (cdv : Value) (A : Around) (outer : List PySem.Env) (s : Shared) (H : Hp) (E : XK), Room k (A.deeper (envOfC qual scope s.heap.objs.size fa' cdv)) → PSs (cxOf CX0 P w K mg base N qual scope fa' cdv A outer s H E).nox body (tS K g)) :
    FnOk P w K mg base CX0 (k + 1) fa' fd' ps (spSr K (runSr ps.length N.length g)) := by
  have runs : ∀ {m ds d}, runSr ps.length N.length g m ds = some d → ds.length + 1 = ps.length ∧ ∃ r, g (envS N.length .read m ds) = some r ∧ outD (some r) = some d := fun {m ds d} h => by
    unfold runSr at h
    split at h
    · rename_i hl
      refine ⟨hl, ?_⟩
      cases e : g (envS N.length .read m ds) with
      | none => rw [e] at h; cases h
      | some r => rw [e] at h; exact ⟨r, rfl, h⟩
    · cases h
  refine F.ok S (fun vs H Q E h => ?_) (fun cdv A outer s H vs Q E hr h => ?_)
  · obtain ⟨F1, ds, d, y, dx, dd, C, SS1, rest, rfl, s1, hc, h2, h3, h4, h5, r, e, _⟩ := h
    have := (runs e).1
    rw [List.length_cons, r.length]
    exact this
  · obtain ⟨F1, ds, d, y, dx, dd, C, SS1, rest, rfl, s1, hc, h2, h3, h4, h5, r, e, kk⟩ := h
    obtain ⟨hl, res, e1, e2⟩ := runs e
    refine ⟨_, PSs.nox (hb cdv A outer s H E hr), ⟨none, F1⟩, F1, H, F1, _, res, SR.startS (B := ⟨none, F1⟩) s1 r hN hc h2 h3 h4 h5 rfl ⟨Same.refl F1, s1, fun _ _ _ h => h, fun a o h h' => (by rw [h] at h'; cases h'), fun _ h => h.elim⟩ (fun _ h => h.elim) (bb := .read) trivial, e1, ?_⟩
    cases res with
    | nx e =>
      cases e2
      exact fun σ' F' H' sr => kk F' H' _ ⟨sr.ext.sub, sr.ext.sup, fun a o _ h => sr.ext.keep a o (fun z => z) h, sr.ext.new, fun _ z => z.elim⟩ .non
    | rt e d' =>
      cases e2
      exact fun σ' F' H' v sr r' => kk F' H' v ⟨sr.ext.sub, sr.ext.sup, fun a o _ h => sr.ext.keep a o (fun z => z) h, sr.ext.new, fun _ z => z.elim⟩ r'
    | bk e => cases e2
    | ct e => cases e2
theorem fn_denS {N ps : List Str} {k : Nat} (F : FunD K x qual params body scope dvs kws fa' fd') (S : FnScope N ps scope) (g : Env → Option Res) (hN : 0 < N.length)
    (hb : ∀ (cdv : Value) (A : Around) (outer : List PySem.Env) (s : Shared) (H : Hp) (E : XK), Room k (A.deeper (envOfC qual scope s.heap.objs.size fa' cdv)) → PSs (cxOf CX0 P w K mg base N qual scope fa' cdv A outer s H E).nox body (tS K g)) :
    FnOk P w K mg base CX0 (k + 1) fa' fd' ps (spS K (runS ps.length N.length g)) := by
  have runs : ∀ {m ds d}, runS ps.length N.length g m ds = some d → ds.length + 1 = ps.length ∧ ∃ r, g (envS N.length .lent m ds) = some r ∧ outS (some r) = some d := fun {m ds d} h => by
    unfold runS at h
    split at h
    · rename_i hl
      refine ⟨hl, ?_⟩
      cases e : g (envS N.length .lent m ds) with
      | none => rw [e] at h; cases h
      | some r => rw [e] at h; exact ⟨r, rfl, h⟩
    · cases h
  refine F.ok S (fun vs H Q E h => ?_) (fun cdv A outer s H vs Q E hr h => ?_)
  · obtain ⟨F1, ds, d, y, dx, dd, C, SS1, S2, rest, rfl, s1, hc, h2, h3, h4, h5, r, e, _⟩ := h
    have := (runs e).1
    rw [List.length_cons, r.length]
    exact this
  · obtain ⟨F1, ds, d, y, dx, dd, C, SS1, S2, rest, rfl, s1, hc, h2, h3, h4, h5, r, e, kk⟩ := h
    obtain ⟨hl, res, e1, e2⟩ := runs e
    have hM : ∀ {a}, MB ⟨some (y, dd), F1⟩ a → (a = y ∨ a = dd) := fun {a} h => h
    have liv : ∀ a, MB ⟨some (y, dd), F1⟩ a → F1 a = none ∧ H a ≠ none := fun a h => by
      rcases hM h with z | z
      · rw [z, h2]
        exact ⟨h4, fun z => nomatch z⟩
      · rw [z, h3]
        exact ⟨h5, fun z => nomatch z⟩
    refine ⟨_, PSs.nox (hb cdv A outer s H E hr), ⟨some (y, dd), F1⟩, F1, H, F1, _, res, SR.startS (B := ⟨some (y, dd), F1⟩) s1 r hN hc h2 h3 h4 h5 rfl ⟨Same.refl F1, s1, fun _ _ _ h => h, fun a o h h' => (by rw [h] at h'; cases h'), fun a h => liv a h⟩ (fun a h => (liv a h).2) (bb := .lent) rfl, e1, ?_⟩
    have fin : ∀ {σ' F' H' env'}, SR K ⟨some (y, dd), F1⟩ F1 H F' H' σ' env' → slfW env' = some S2 → Ext (fun a => a = y ∨ a = dd) F1 H F' H' ∧ (∃ dx', H' y = some (.ins C dx' (flds S2 dd))) ∧ H' dd = some (.dT (kvs S2.often)) := fun {σ' F' H' env'} sr hm => by
      obtain ⟨v, g1, t, dx', dd', C', rfl, g3, g4, g5, g6, g7, g8⟩ := sr.slot 0 _ (slfW_some hm).1
      cases g3
      rw [hc] at g4
      cases g4
      exact ⟨sr.ext, ⟨dx', g5⟩, g6⟩
    cases res with
    | nx e =>
      obtain ⟨m2, e3, e4⟩ := bnd_some (show bnd (slfW e) (fun S => some (S, D.non)) = some (S2, d) from e2)
      cases e4
      intro σ' F' H' sr
      obtain ⟨x1, ⟨dx', x2⟩, x3⟩ := fin sr e3
      exact kk F' H' _ dx' x1 x2 x3 .non
    | rt e d' =>
      obtain ⟨m2, e3, e4⟩ := bnd_some (show bnd (slfW e) (fun S => some (S, d')) = some (S2, d) from e2)
      cases e4
      intro σ' F' H' v sr r'
      obtain ⟨x1, ⟨dx', x2⟩, x3⟩ := fin sr e3
      exact kk F' H' v dx' x1 x2 x3 r'
    | bk e => cases e2
    | ct e => cases e2
end
end EM
set_option maxHeartbeats 2000000
namespace EM
open PySem PySem.Spec PyProof.Rows L2 HT
/-! a tuple once over is the tuple itself -/
theorem tuple_mul1 (l : Addr) (items : Array Value) (n : Nat) (sl : Array (Option Value)) (dd : Option Addr) (u : Tok) :
    Meets (Builtin.«tuple.__mul__» ⟨[.ref l, .int 1 u], []⟩) (fun _ R s => s.heap.get? l = some { cls := .type "tuple", dict := dd, data := .seq items n, slots := sl } ∧
      R (.ok (.ret (Value.ref l))) s) :=
  .of_wp fun prog w A R s h => by
    obtain ⟨hp, g, d, tk, os⟩ := s
    obtain ⟨hl, h⟩ := h
    have f1 := AutoSeq1.idx_int
    wp_walk using wpAny_loadPart' hl
    repeat (first
      | (refine wpAny_ite_true (decide_eq_true (by simp)) ?_; wp_walk using wpAny_loadPart' hl)
      | (refine wpAny_ite_false (decide_eq_false (by decide)) ?_; wp_walk using wpAny_loadPart' hl))
    all_goals first
      | exact ⟨_, rfl, h⟩
      | skip
def rRep1 (K : PySem.W.Frag) : R2 := fun x y H Q => ∃ l xs, x = .ref l ∧ y = .int 1 ∧ SqT K H l xs ∧ Q (.ref l) H
theorem op_rep1 {X : Cx} : OpR X (binaryOp .Mult) (rRep1 X.K) := by
  intro pins s σ H x y v u Q I rx ry h
  obtain ⟨l, xs, rfl, rfl, hT, q⟩ := h
  cases rx
  obtain ⟨t, rfl⟩ := ry
  obtain ⟨its, r, ⟨⟨cls, dd, data, sl⟩, ho, hc, n, hd⟩, hs⟩ := I.tuple hT
  simp only at hc hd
  subst hc hd
  refine wpAny_binaryOp_repeat_ref (T := "tuple") (U := "int") (by decide) ⟨_, ho, rfl⟩ (fun s' => typeIs_int s' 1 t) noFill_tuple_mul F.fills_int_mul F.slot_int_rmul repeat_tuple F.slot_int_index.lookup
    (call_meets F.slot_int_rmul (typeIs_int s 1 t) F.entry_int_rmul (F.args_int_rmul_2 _ _) (int_rmul_tuple 1 t l its.toArray n dd sl)
      ⟨ho, rfl, ⟨_, ho, rfl⟩, call_meets F.slot_tuple_mul ⟨_, ho, rfl⟩ F.entry_tuple_mul (F.args_tuple_mul_2 _ _) (tuple_mul1 l its.toArray n sl dd t) ⟨ho, ?_⟩⟩)
  exact ⟨.ref l, _, I, rfl, q⟩
def gRep1 : D → D → Option D
  | .tup xs, .int k => if k = 1 then some (.tup xs) else none
  | _, _ => none
theorem dr_rep1 {K : PySem.W.Frag} : DR2 K (rRep1 K) gRep1 := by
  intro F H x y dx dy d Q s rx ry e k
  unfold gRep1 at e
  split at e
  · rename_i xs j
    split at e
    · rename_i hz
      cases e
      subst hz
      cases rx with
      | tup h1 h2 =>
        cases ry
        exact ⟨_, _, rfl, rfl, .of (s _ _ h1), k F H _ (.refl s) (.tup h1 h2)⟩
    · cases e
  · cases e
def gMulT : D → D → Option D := orD gMul gRep1
theorem or_mulT {X : Cx} : OpR X (binaryOp .Mult) (orR (orR (rI CMul fun i j => .int (i * j)) (orR rRep (rRepT X.K))) (rRep1 X.K)) := OpR.or or_mul op_rep1
theorem dr_mulT {K : PySem.W.Frag} : DR2 K (orR (orR (rI CMul fun i j => .int (i * j)) (orR rRep (rRepT K))) (rRep1 K)) gMulT := DR2.or dr_mul dr_rep1
/-! t[::-1] of a tuple -/
section
variable {prog : Program} {w : World} {A : Around} {E : Value → Shared → Prop} {s : Shared}
theorem slice_back {sl : Addr} {vl vu vs : Value} {n : Nat} {Q : Int × Int × Nat → Shared → Prop} (hs : s.heap.IsSliceOf sl vl vu vs) (pl : IsPart vl none) (pu : IsPart vu none) (ps : IsPart vs (some (-1)))
    (h : Q ((n : Int) - 1, -1, n) s) : wpAny (model prog w) A (Builtin.Slice.sliceApplied (.ref sl) (pure (n : Int))) Q E s := by
  obtain ⟨os, hos, hcs, hds⟩ := id hs
  unfold Builtin.Slice.sliceApplied Builtin.Slice.sliceFields
  refine wpAny_bind (wpAny_bind (wpAny_field hos hds (x := vl) rfl (wpAny_bind (wpAny_field hos hds (x := vu) rfl (wpAny_bind (wpAny_field hos hds (x := vs) rfl (wpAny_pure ?_)))))))
  refine wpAny_bind (slicePart_ ps ?_)
  show wpAny _ _ (if ((-1 : Int) == 0) = true then _ else _) _ _ s
  rw [if_neg (by decide)]
  refine wpAny_bind (slicePart_ pl (wpAny_bind (slicePart_ pu (wpAny_bind (wpAny_pure ?_)))))
  have e : Builtin.Slice.slicePlaces ((n : Int) - 1) (-1) (-1) = n := by
    unfold Builtin.Slice.slicePlaces
    have h1 : ¬ ((-1 : Int) > 0) := by omega
    simp only [h1, if_false]
    by_cases hn : (n : Int) - 1 > -1
    · rw [if_pos hn, show (- -1 : Int) = 1 by decide, Int.ediv_one]
      omega
    · rw [if_neg hn]
      omega
  show wpAny _ _ (pure ((n : Int) - 1, (-1 : Int), Builtin.Slice.slicePlaces ((n : Int) - 1) (-1) (-1))) _ _ s
  rw [e]
  exact wpAny_pure h
theorem pick_back (xs : Array Value) : ((List.range xs.size).filterMap fun (m : Nat) => xs[(((xs.size : Int) - 1) + (m : Int) * (-1)).toNat]?).toArray = xs.toList.reverse.toArray := by
  have e : (fun (m : Nat) => xs[(((xs.size : Int) - 1) + (m : Int) * (-1)).toNat]?) = fun m => xs[xs.size - 1 - m]? := by
    funext m
    have : (((xs.size : Int) - 1) + (m : Int) * (-1)).toNat = xs.size - 1 - m := by omega
    rw [this]
  rw [e]
  have h := PySem.W.krv_all xs
  have r := PySem.W.krv_range xs.size
  have q : (List.range xs.size).filterMap (fun m => xs[xs.size - 1 - m]?) = ((List.range xs.size).map fun k => xs.size - 1 - k).filterMap (xs[·]?) := by
    rw [List.filterMap_map]
    rfl
  rw [q, r, List.filterMap_reverse, h]
theorem getItem_tuple_rev {t sl : Addr} {items : Array Value} {vl vu vs : Value} {Q : Value → Shared → Prop} (ht : IsTup s.heap t items) (hs : s.heap.IsSliceOf sl vl vu vs) (pl : IsPart vl none) (pu : IsPart vu none) (ps : IsPart vs (some (-1)))
    (h : Q (.ref s.heap.objs.size) { s with heap := s.heap.push { cls := .type "tuple", data := .seq items.toList.reverse.toArray } })
    (hsz : items.size ≤ sizeLine) : wpAny (model prog w) A (getItem (.ref t) (.ref sl)) Q E s := by
  have hk : sizeOk (.seq items.toList.reverse.toArray) := by
    show items.toList.reverse.toArray.size ≤ sizeLine
    rw [List.size_toArray, List.length_reverse, Array.length_toList]
    exact hsz
  obtain ⟨os, hos, hcs, hds⟩ := id hs
  have hTs : s.TypeIs (.ref sl) "slice" := ⟨os, hos, hcs⟩
  unfold getItem
  try with_reducible refine wpAny_holding ?_
  first | refine wpAny_bind (wpAny_pure ?_) | skip
  refine wpAny_bind (wpAny_sequenceKey ht.typeIs (by decide) ?_)
  refine wpAny_bind (wpAny_callSpecial?_slot (name := Str.ofString "__getitem__") ht.typeIs PyProof.Rows.slot_tuple_getitem
    (wpAny_call_entry PyProof.Rows.slot_tuple_getitem ht.typeIs entry_tuple_getitem ?_ (args_tuple_getitem _ _)))
  show wpAny _ _ (Builtin.Tuple.tupleItemsOf (.ref t) >>= _) _ _ s
  refine wpAny_bind (tupleItemsOf_ ht ?_)
  refine wpAny_bind (wpAny_typeOf hTs ?_)
  rw [if_pos (by decide)]
  refine wpAny_bind (slice_back hs pl pu ps ?_)
  have hno : ¬ ((((items.size : Int) - 1) == 0 && (-1 : Int) == 1 && items.size == items.size) = true) := by simp
  show wpAny _ _ (if (((items.size : Int) - 1) == 0 && (-1 : Int) == 1 && items.size == items.size) = true then _ else _) _ _ s
  rw [if_neg hno, pick_back]
  first
    | exact wpAny_bind (m := Builtin.Tuple.tupleExact _) (wpAny_newObj_type (wpAny_pure ⟨_, rfl, wpAny_pure h⟩) hk)
    | exact wpAny_bind (m := Builtin.Tuple.tupleExact _) (wpAny_newObj_type (wpAny_bind (wpAny_pure (wpAny_pure ⟨_, rfl, wpAny_pure h⟩))) hk)
    | exact wpAny_bind (wpAny_bind (m := Builtin.Tuple.tupleExact _) (wpAny_newObj_type (wpAny_pure (wpAny_pure ⟨_, rfl, wpAny_pure h⟩)) hk))
    | exact wpAny_bind (wpAny_bind (m := Builtin.Tuple.tupleExact _) (wpAny_newObj_type (wpAny_pure ⟨_, rfl, wpAny_pure h⟩) hk))
end
def tRevT (K : PySem.W.Frag) (te : TE) : TE := fun σ H Q => te σ H fun x H1 => ∃ a xs, x = .ref a ∧ SqT K H1 a xs ∧ ∀ p, H1 p = none → Q (.ref p) (upd H1 p (.tup xs.reverse))
theorem pe_revT {X : Cx} {e : Expr} {te : TE} {k : Nat} {p1 p2 p3 pos : Pos} (he : PE X e te) : PE X (.Subscript e (.Slice none none (some (.UnaryOp .USub (.Constant (.int 1) k p1) p2)) p3) pos) (tRevT X.K te) := by
  refine ⟨fun pins s σ H Q I h => ?_⟩
  refine Subscript_ (thn (he.run pins s σ H _ I h) fun v s1 ⟨x, H1, I1, r1, q1⟩ => ?_)
  obtain ⟨a, xs, ex, hx, q⟩ := q1
  subst ex
  cases r1
  have hst : PO X (some (.UnaryOp .USub (.Constant (.int 1) k p1) p2)) (tPart (tUn (rU fun i => .int (-i)) (tC (.int 1)))) := po_some (pe_un un_neg pe_int)
  refine wpAny_Slice (thn (po_none.run pins s1 σ H1 (fun o H2 => o = none ∧ H2 = H1) I1 ⟨rfl, rfl⟩) fun vl s2 ⟨l, H2, I2, pl, el, e2⟩ => ?_)
  subst el e2
  refine thn (po_none.run pins s2 σ H2 (fun o H3 => o = none ∧ H3 = H2) I2 ⟨rfl, rfl⟩) fun vu s3 ⟨u, H3, I3, pu, eu, e3⟩ => ?_
  subst eu e3
  refine thn (hst.run pins s3 σ H3 (fun o H4 => o = some (-1) ∧ H4 = H3) I3 ⟨1, rfl, -1, rfl, rfl, rfl⟩) fun vs s4 ⟨o, H4, I4, ps, eo, e4⟩ => ?_
  subst eo e4
  have I5 : Inv X pins σ H4 { s4 with heap := s4.heap.push { cls := .type "slice", data := .fields #[vl, vu, vs] } } := I4.kept (t' := s4.toks) fun b ob q => Heap.get?_push_of_some _ q
  obtain ⟨its, r, ht, hz⟩ := I5.tuple hx
  have hlen := r.length
  show wpAny (model X.prog X.w) X.A (subscriptTail e (.Slice none none (some (.UnaryOp .USub (.Constant (.int 1) k p1) p2)) p3) (.ref a) (.ref s4.heap.objs.size)) (EP X pins σ Q) X.xe { s4 with heap := s4.heap.push { cls := .type "slice", data := .fields #[vl, vu, vs] } }
  refine tail_any (ops := [.ref a, .ref s4.heap.objs.size]) ht.typeIs PyProof.Rows.slot_tuple_getitem.lookup ?_ (by with_unfolding_all rfl)
  refine getItem_tuple_rev ht (Heap.IsSliceOf.new _ vl vu vs) pl pu ps ?_ (by rw [List.size_toArray]; omega)
  refine ⟨.ref _, _, I5.laid (t' := s4.toks) (o := .tup xs.reverse) (fun b ob q => Heap.get?_push_of_some _ q) (Nat.le_refl _) ?_, rfl, q _ (I5.hok.fresh (Nat.le_refl _))⟩
  exact ⟨by rw [List.length_reverse]; exact hz, _, r.reverse, IsTup.new _ _⟩
def dRevT (f : Env → Option D) : Env → Option D := fun env => bnd (f env) fun d => bnd (tupOf d) fun ds => some (.tup ds.reverse)
theorem pd_revT {X : Cx} {e : Expr} {f : Env → Option D} {k : Nat} {p1 p2 p3 pos : Pos} (he : PE X e (tD X.K f)) : PE X (.Subscript e (.Slice none none (some (.UnaryOp .USub (.Constant (.int 1) k p1) p2)) p3) pos) (tD X.K (dRevT f)) := by
  refine PE.imp (pe_revT he) fun σ H Q h => ?_
  obtain ⟨B, F0, H0, F, env, d', sr, he, k⟩ := h
  obtain ⟨d, e1, he⟩ := bnd_some he
  obtain ⟨ds, e2, he⟩ := bnd_some he
  cases he
  refine ⟨B, F0, H0, F, env, d, sr, e1, fun F1 H1 v x1 r1 => ?_⟩
  obtain ⟨a, xs, rfl, h1, h2⟩ := r1.tupOf e2
  refine ⟨a, xs, rfl, Same.tup x1.sup h1, fun p hp => ?_⟩
  have l := Ext.lay x1.sup (o := .tup xs.reverse) hp
  exact k _ _ _ (x1.trans l) (.tup upd_same (h2.rev.up l.sub))
end EM
set_option maxHeartbeats 2000000
namespace EM
open PySem PySem.Spec PyProof.Rows L2
/-! a, b, c = xs.pop() -/
def sPopT (i : Nat) (is : List Nat) : Env → Option Res := fun env => bnd (ownAt i env) fun ds => bnd (ds[ds.length - 1]?) fun d => bnd (setT is d (env.set i (some (.own ds.dropLast)))) fun e => some (.nx e)
theorem RepAll.dropLast {K : PySem.W.Frag} {F : Hp} {vs : List V} {ds : List D} (h : RepAll K F vs ds) : RepAll K F vs.dropLast ds.dropLast := by
  rw [List.dropLast_eq_take, List.dropLast_eq_take, h.length]
  exact h.take _
section
variable {X : Cx} {K : PySem.W.Frag} {e a b : Expr} {es : List Expr} {p pos p2 : Pos} {fa fb : Env → Option (List D)} {f : Env → Option D} {x : Str}
theorem ds_popT (i : Nat) {is : List Nat} {tg : Expr} {px apos cpos : Pos} (hg : PG X tg (gD X.K (setT is))) (hN : X.N[i]? = some x := by rfl) (hv : Vis X.env.scope x := by first | exact Or.inl rfl | exact Or.inr (Or.inl rfl) | exact Or.inr (Or.inr rfl)) (hd : (x == ("__debug__" : Str)) = false := by decide) (hcd : (x == ("__classdict__" : Str)) = false := by decide)
    (hbase : attributeBase (.Name x px) "pop" X.env (eval (.Name x px) X.env) = eval (.Name x px) X.env := by rfl) (hline : (apos.endLine == cpos.line) = true := by rfl)
    (hs : swapsWithSole [tg] (.Call (.Attribute (.Name x px) "pop" apos) [] [] cpos) pos.line X.env = pure false := by rfl) (hw : swappedStores [tg] (.Call (.Attribute (.Name x px) "pop" apos) [] [] cpos) X.env = pure none := by rfl)
    (h1 : (assignEach [tg] X.env).map (·.2) = [assign tg X.env] := by rfl) :
    PS X (.Assign [tg] (.Call (.Attribute (.Name x px) "pop" apos) [] [] cpos) pos) (tS X.K (sPopT i is)) := by
  refine PS.imp (ps_asg (pe_bm0 PySem.F.plainAttrs_list PySem.F.slot_list_pop PySem.F.type_list_pop mt_pop (pe_var hN hv hd hcd) hbase hline) hg hs hw h1) fun Dn σ H h => ?_
  obtain ⟨B, F0, H0, F, env, r, sr, he, k⟩ := h
  obtain ⟨ds, e1, he⟩ := bnd_some he
  obtain ⟨d, e2, he⟩ := bnd_some he
  obtain ⟨env', e3, he⟩ := bnd_some he
  cases he
  obtain ⟨v, g1, q, xs, rfl, h3, h4, h5, h6⟩ := sr.slot i _ (ownAt_some e1)
  obtain ⟨y, g2, g3⟩ := h6.get e2
  rw [← h6.length] at g2
  refine ⟨_, g1, .inl ⟨rfl, _, .of h3⟩, q, xs, y, rfl, rfl, h3, g2, ?_⟩
  exact ⟨B, F0, H0, F, _, d, env', own_write sr (ownAt_some e1) g1 h3 h4 h5 h6.dropLast, g3, e3, fun σ' sr' => k σ' F _ sr'⟩
end
/-! a new instance -/
theorem SR.startR {K : PySem.W.Frag} {F H : Hp} {vs : List V} {ds : List D} {y : Addr} {N : List Str} (s : Same F H) (r : RepAll K F vs ds) (hN : 0 < N.length) : SR K ⟨none, F⟩ F H F H (L2.start N (.ref y :: vs)) (none :: env0 (N.length - 1) ds) := by
  have key : ∀ (i : Nat) (e : EV), (none :: env0 (N.length - 1) ds : Env)[i]? = some (some e) → ∃ j d, i = j + 1 ∧ ds[j]? = some d ∧ e = .fz d := fun i e h => by
    cases i with
    | zero => cases h
    | succ i =>
      rw [List.getElem?_cons_succ] at h
      unfold env0 at h
      rw [List.getElem?_append] at h
      split at h
      · obtain ⟨d, g1, g2⟩ := slot_start i e r h
        exact ⟨i, d, rfl, g1, g2⟩
      · rw [List.getElem?_replicate] at h
        split at h <;> cases h
  refine ⟨⟨Same.refl F, s, fun _ _ _ h => h, fun a o h h' => (by rw [h] at h'; cases h'), fun _ h => h.elim⟩, ?_, fun i e h => ?_, fun _ h => h.elim, Same.refl F, fun i j e e' w hij h1 m1 _ h6 m6 => ?_⟩
  · unfold L2.start env0
    have := r.length
    simp only [List.length_append, List.length_map, List.length_cons, List.length_replicate]
    omega
  · obtain ⟨j, d, rfl, g1, rfl⟩ := key i e h
    obtain ⟨v, g2, g3⟩ := r.get g1
    have hi : j < vs.length := (List.getElem?_eq_some_iff.mp g2).1
    refine ⟨v, ?_, g3⟩
    unfold L2.start
    rw [List.getElem?_append_left (by simp [hi]), List.getElem?_map, List.getElem?_cons_succ, g2]
    rfl
  · obtain ⟨j, d, rfl, g1, rfl⟩ := key i e h1
    cases m1
/-- behind the making of a thing -/
theorem Ext.made {F H F' H' : Hp} {x dx : Addr} {o1 o2 o : HO} (hx : H x = none) (hdx : H dx = none) (e : Ext (fun b => b = x) F (upd (upd H dx o1) x o2) F' H') (hq : H' x = some o) : Ext No F H (upd F' x o) H' where
  sub := fun b u q => by
    have z := e.sub _ _ q
    rw [upd_ne (ne_of_none z (e.mu x rfl).1)]
    exact z
  sup := fun b u q => by
    by_cases hb : b = x
    · subst hb
      rw [upd_same] at q
      cases q
      exact hq
    · rw [upd_ne hb] at q
      exact e.sup _ _ q
  keep := fun b u _ q => by
    have n1 := ne_of_none q hx
    have n2 := ne_of_none q hdx
    exact e.keep b u n1 (by rw [upd_ne n1, upd_ne n2]; exact q)
  new := fun b u q q' => by
    by_cases hb : b = x
    · rw [hb]
      exact hx
    · rw [upd_ne hb] at q
      have z := e.new b u q q'
      rw [upd_ne hb] at z
      by_cases hb2 : b = dx
      · rw [hb2]
        exact hdx
      · rw [upd_ne hb2] at z
        exact z
  mu := fun _ h => h.elim
/-! Field(p, row) -/
def spF (K : PySem.W.Frag) (g : List D → Option D) : Sp := fun vs H Q _ => ∃ F a C dx vp vr dp dr d, vs = [.ref a, vp, vr] ∧ Same F H ∧ F a = none ∧ PySem.W.nsIn K mainGlobals "Field" = some (some (.ref C)) ∧ H a = some (.ins C dx []) ∧ Rep K F vp dp ∧ Rep K F vr dr ∧ g [dp, dr] = some d ∧
  ∀ F' H', Ext (fun b => b = a) F H F' H' → H' a = some (.ins C dx [(("p" : Str), vp), (("row" : Str), vr)]) → Q .non H'
def dField (g : List D → Option D) : List D → Option D
  | [dp, dr] => bnd (g [dp, dr]) fun _ => some (.fld dp dr)
  | _ => none
section
variable {X : Cx} {K : PySem.W.Frag} {e a b : Expr} {es : List Expr} {p pos p2 : Pos} {fa fb : Env → Option (List D)} {f : Env → Option D} {x : Str}
theorem pd_mkField {C : Addr} {k : Nat} {fn : Addr} {ps : List Str} {g : List D → Option D} (c : ClF X.K "Field" C) (M : Mk X.K C fn) (O : OkD X.prog X.w X.K X.mg X.base k fn ps (spF X.K g)) (hr : Room (k + 1) X.A) (hm : X.mg "Field" = some (.ref C)) (ha : PA X (e :: es) (tA X.K fa))
    (hg : Gl X "Field" := by rfl) (he : starEach (e :: es) X.env = (false, eval e X.env) :: starEach es X.env := by rfl) (hpl : (backTo pos (starEach es X.env)).any (·.1) = false := by rfl) :
    PE X (.Call (.Name "Field" p) (e :: es) [] pos) (tD X.K (cll fa (dField g))) := by
  obtain ⟨fd, G, b, kp⟩ := O
  refine PE.imp (pe_make M G hr hg hm b .nil pass0 ha (by decide) he hpl) fun σ H Q h => ?_
  obtain ⟨B, F0, H0, F, env, d, sr, he, k⟩ := h
  obtain ⟨ds, e1, he⟩ := bnd_some he
  refine ⟨B, F0, H0, F, env, ds, sr, e1, fun F1 H1 vs x1 r1 => ?_⟩
  intro y dy hy hdy ne
  unfold dField at he
  split at he
  · rename_i dp dr
    obtain ⟨d', e2, he⟩ := bnd_some he
    cases he
    obtain ⟨vp, vr, rfl, r2, r3⟩ := rep2 r1
    have hyF : F1 y = none := free_of x1.sup hy
    have up : Same F1 (upd (upd H1 dy (.own y)) y (.ins C dy [])) := fun b u q => by
      have z := x1.sup _ _ q
      rw [upd_ne (ne_of_none z hy), upd_ne (ne_of_none z hdy)]
      exact z
    show spF X.K g (.ref y :: ([vp, vr] ++ [])) _ _ E0
    refine ⟨F1, y, C, dy, vp, vr, dp, dr, d', rfl, up, hyF, c.at_, upd_same, r2, r3, e2, fun F2 H2 x2 hq => ⟨rfl, ?_⟩⟩
    have z := Ext.made hy hdy x2 hq
    exact k _ H2 _ (x1.trans z) (.fld c.at_ upd_same (r2.up z.sub) (r3.up z.sub))
  · cases he
/-! Search(wish, most).going(..) -/
def spSI (K : PySem.W.Frag) (g : List D → Option SS) : Sp := fun vs H Q _ => ∃ F a C dx vs' ds S, vs = .ref a :: vs' ∧ Same F H ∧ F a = none ∧ PySem.W.nsIn K mainGlobals "Search" = some (some (.ref C)) ∧ H a = some (.ins C dx []) ∧ RepAll K F vs' ds ∧ g ds = some S ∧
  ∀ F' H' dd dx', Ext (fun b => b = a) F H F' H' → H' a = some (.ins C dx' (flds S dd)) → H dd = none → F' dd = none → H' dd = some (.dT (kvs S.often)) → Q .non H'
def dGo (fa fb : Env → Option (List D)) (g : List D → Option SS) (g2 : SS → List D → Option (SS × D)) : Env → Option D := fun env => bnd (fa env) fun ds => bnd (g ds) fun S => bnd (fb env) fun es => bnd (g2 S es) fun r => some r.2
theorem pd_searchGo {C : Addr} {k k2 : Nat} {fn fn2 : Addr} {ps ps2 : List Str} {g : List D → Option SS} {g2 : SS → List D → Option (SS × D)} {e2 : Expr} {es2 : List Expr} {apos cpos : Pos} {pl : Sem Bool} (c : ClF X.K "Search" C) (M : Mk X.K C fn) (O : OkD X.prog X.w X.K X.mg X.base k fn ps (spSI X.K g)) (hr : Room (k + 1) X.A) (hm : X.mg "Search" = some (.ref C)) (ha : PA X (e :: es) (tA X.K fa))
    (hme : Meth X.K C "going" fn2) (O2 : OkD X.prog X.w X.K X.mg X.base k2 fn2 ps2 (spS X.K g2)) (hr2 : Room k2 X.A) (hb : PA X (e2 :: es2) (tA X.K fb))
    (hg : Gl X "Search" := by rfl) (he : starEach (e :: es) X.env = (false, eval e X.env) :: starEach es X.env := by rfl) (hpl : (backTo cpos (starEach es X.env)).any (·.1) = false := by rfl)
    (hst : starEach (e2 :: es2) X.env = (false, eval e2 X.env) :: starEach es2 X.env := by rfl) (hpl2 : (backTo pos (starEach es2 X.env)).any (·.1) = false := by rfl)
    (ht : eval (.Call (.Attribute (.Call (.Name "Search" p) (e :: es) [] cpos) "going" apos) (e2 :: es2) [] pos) X.env = (do
      let ov ← eval (.Call (.Name "Search" p) (e :: es) [] cpos) X.env
      standAt apos.atName
      let (f, first) ← holding [ov] (getMethod ov "going" pl)
      callWith pos f first (backTo pos (starEach (e2 :: es2) X.env)) (backToKw pos (keywordEach [] X.env))) := by rfl) :
    PE X (.Call (.Attribute (.Call (.Name "Search" p) (e :: es) [] cpos) "going" apos) (e2 :: es2) [] pos) (tD X.K (dGo fa fb g g2)) := by
  obtain ⟨fd, G, b, kp⟩ := O
  obtain ⟨fd2, G2, b2, kp2⟩ := O2
  refine PE.imp (pe_meth (pe_make M G hr hg hm b .nil pass0 ha (by decide) he hpl) c.cl hme G2 hr2 b2 .nil pass0 hb hst hpl2 ht) fun σ H Q h => ?_
  obtain ⟨B, F0, H0, F, env, d, sr, he, k⟩ := h
  obtain ⟨ds, e1, he⟩ := bnd_some he
  obtain ⟨S, e3, he⟩ := bnd_some he
  obtain ⟨zs, e4, he⟩ := bnd_some he
  obtain ⟨⟨S', r⟩, e5, he⟩ := bnd_some he
  cases he
  refine ⟨B, F0, H0, F, env, ds, sr, e1, fun F1 H1 vs x1 r1 => ?_⟩
  intro y dy hy hdy ne
  have hyF : F1 y = none := free_of x1.sup hy
  have up : Same F1 (upd (upd H1 dy (.own y)) y (.ins C dy [])) := fun b u q => by
    have z := x1.sup _ _ q
    rw [upd_ne (ne_of_none z hy), upd_ne (ne_of_none z hdy)]
    exact z
  show spSI X.K g (.ref y :: (vs ++ [])) _ _ E0
  rw [List.append_nil]
  refine ⟨F1, y, C, dy, vs, ds, S, rfl, up, hyF, c.at_, upd_same, r1, e3, fun F2 H2 dd dx2 x2 q1 q2 q3 q4 => ⟨rfl, ?_⟩⟩
  have F2y : F2 y = none := (x2.mu y rfl).1
  have ddy : dd ≠ y := fun z => by rw [z, upd_same] at q2; cases q2
  have h1dd : H1 dd = none := by
    rw [upd_ne ddy] at q2
    by_cases z : dd = dy
    · rw [z]
      exact hdy
    · rw [upd_ne z] at q2
      exact q2
  -- from before the call to behind the making: nothing of before is changed
  have E1 : Ext No F1 H1 F2 H2 := ⟨x2.sub, x2.sup, fun b u _ q => x2.keep b u (ne_of_none q hy) (by rw [upd_ne (ne_of_none q hy), upd_ne (ne_of_none q hdy)]; exact q), fun b u q q' => by
    have z := x2.new b u q q'
    by_cases hb : b = y
    · rw [hb]
      exact hy
    · rw [upd_ne hb] at z
      by_cases hb2 : b = dy
      · rw [hb2]
        exact hdy
      · rw [upd_ne hb2] at z
        exact z, fun _ z => z.elim⟩
  refine ⟨y, dx2, _, rfl, q1, nolk (by decide), B, F0, H0, F2, env, zs, sr.go (x1.trans E1), e4, fun F3 H3 ws x3 r3 => ?_⟩
  show spS X.K g2 (.ref y :: (ws ++ [])) H3 Q E0
  rw [List.append_nil]
  refine ⟨F3, zs, r, y, dx2, dd, C, S, S', ws, rfl, x3.sup, c.at_, x3.keep _ _ (fun z => z) q1, x3.keep _ _ (fun z => z) q4, x3.free q1 F2y, x3.free q4 q3, r3, e5, fun F4 H4 v dx4 x4 q5 q6 r4 => ?_⟩
  have E13 := E1.trans x3
  refine k F4 H4 v (x1.trans ⟨E13.sub.trans x4.sub, x4.sup, fun b u _ q => x4.keep b u (fun z => z.elim (ne_of_none q hy) (ne_of_none q h1dd)) (E13.keep b u (fun z => z) q), fun b u q q' => ?_, fun _ z => z.elim⟩) r4
  cases e : F3 b with
  | some w => exact E13.new b w e q'
  | none =>
    have z := x4.new b u q e
    cases e6 : H1 b with
    | none => rfl
    | some w =>
      rw [E13.keep b w (fun z => z) e6] at z
      cases z
end
end EM
set_option maxHeartbeats 4000000
namespace EM
open PySem PySem.Spec PyProof.Rows L2
def top (i : Nat) : Stmt := PySem.Challenge.pw_evenmeet_k62_whole_answers.main.body.getD i (.Pass ⟨0, 0, 0, 0⟩)
def dd_is_whole_layouts : He.DefD := ⟨("is_whole_layouts", none), "is_whole", "is_whole", defArgs (top 11), defBody (top 11), defScope (top 11), [], []⟩
def dd_is_point : He.DefD := ⟨("is_point", none), "is_point", "is_point", defArgs (top 13), defBody (top 13), defScope (top 13), [], []⟩
def dd_is_block : He.DefD := ⟨("is_block", none), "is_block", "is_block", defArgs (top 14), defBody (top 14), defScope (top 14), [], []⟩
def dd_layout_of : He.DefD := ⟨("layout_of", none), "layout_of", "layout_of", defArgs (top 15), defBody (top 15), defScope (top 15), [], []⟩
def dd_is_whole_numbers : He.DefD := ⟨("is_whole_numbers", none), "is_whole", "is_whole", defArgs (top 17), defBody (top 17), defScope (top 17), [], []⟩
def dd_check_whole : He.DefD := ⟨("check_whole", none), "check_whole", "check_whole", defArgs (top 19), defBody (top 19), defScope (top 19), [], []⟩
def dd_primes_of : He.DefD := ⟨("primes_of", none), "primes_of", "primes_of", defArgs (top 20), defBody (top 20), defScope (top 20), [], []⟩
def dd_root_of : He.DefD := ⟨("root_of", none), "root_of", "root_of", defArgs (top 21), defBody (top 21), defScope (top 21), [], []⟩
def dd_plain_part : He.DefD := ⟨("plain_part", none), "plain_part", "plain_part", defArgs (top 22), defBody (top 22), defScope (top 22), [], []⟩
def dd_is_prime : He.DefD := ⟨("is_prime", none), "is_prime", "is_prime", defArgs (top 23), defBody (top 23), defScope (top 23), [], []⟩
def dd_power_by : He.DefD := ⟨("power_by", none), "power_by", "power_by", defArgs (top 24), defBody (top 24), defScope (top 24), [], []⟩
def dd_is_rest : He.DefD := ⟨("is_rest", none), "is_rest", "is_rest", defArgs (top 25), defBody (top 25), defScope (top 25), [], []⟩
def dd_check_bases : He.DefD := ⟨("check_bases", none), "check_bases", "check_bases", defArgs (top 27), defBody (top 27), defScope (top 27), [], []⟩
def dd_turned : He.DefD := ⟨("turned", none), "turned", "turned", defArgs (top 28), defBody (top 28), defScope (top 28), [], []⟩
def dd_developed : He.DefD := ⟨("developed", none), "developed", "developed", defArgs (top 29), defBody (top 29), defScope (top 29), [], []⟩
def dd_differences : He.DefD := ⟨("differences", none), "differences", "differences", defArgs (top 30), defBody (top 30), defScope (top 30), [], []⟩
def dd_sets_with_nought : He.DefD := ⟨("sets_with_nought", none), "sets_with_nought", "sets_with_nought", defArgs (top 32), defBody (top 32), defScope (top 32), [], []⟩
def dd_gone_on : He.DefD := ⟨("gone_on", none), "gone_on", "gone_on", defArgs (top 33), defBody (top 33), defScope (top 33), [], []⟩
def dd_bases_for : He.DefD := ⟨("bases_for", none), "bases_for", "bases_for", defArgs (top 34), defBody (top 34), defScope (top 34), [], []⟩
def dd_complement : He.DefD := ⟨("complement", none), "complement", "complement", defArgs (top 36), defBody (top 36), defScope (top 36), [], []⟩
def dd_count_of : He.DefD := ⟨("count_of", none), "count_of", "count_of", defArgs (top 38), defBody (top 38), defScope (top 38), [], []⟩
def dd_pairs_of : He.DefD := ⟨("pairs_of", none), "pairs_of", "pairs_of", defArgs (top 39), defBody (top 39), defScope (top 39), [], []⟩
def dd_trimmed : He.DefD := ⟨("trimmed", none), "trimmed", "trimmed", defArgs (top 41), defBody (top 41), defScope (top 41), [], []⟩
def dd_row_times : He.DefD := ⟨("row_times", none), "row_times", "row_times", defArgs (top 42), defBody (top 42), defScope (top 42), [], []⟩
def dd_row_rest : He.DefD := ⟨("row_rest", none), "row_rest", "row_rest", defArgs (top 43), defBody (top 43), defScope (top 43), [], []⟩
def dd_digits_of : He.DefD := ⟨("digits_of", none), "digits_of", "digits_of", defArgs (top 44), defBody (top 44), defScope (top 44), [], []⟩
def dd_power_of : He.DefD := ⟨("power_of", none), "power_of", "power_of", defArgs (top 45), defBody (top 45), defScope (top 45), [], []⟩
def dd_row_factor : He.DefD := ⟨("row_factor", none), "row_factor", "row_factor", defArgs (top 46), defBody (top 46), defScope (top 46), [], []⟩
def dd_is_whole_fields : He.DefD := ⟨("is_whole_fields", none), "is_whole", "is_whole", defArgs (top 49), defBody (top 49), defScope (top 49), [], []⟩
def dd_is_row : He.DefD := ⟨("is_row", none), "is_row", "is_row", defArgs (top 51), defBody (top 51), defScope (top 51), [], []⟩
def dd_least_divisor : He.DefD := ⟨("least_divisor", none), "least_divisor", "least_divisor", defArgs (top 52), defBody (top 52), defScope (top 52), [], []⟩
def dd_size_by : He.DefD := ⟨("size_by", none), "size_by", "size_by", defArgs (top 53), defBody (top 53), defScope (top 53), [], []⟩
def dd_check_field : He.DefD := ⟨("check_field", none), "check_field", "check_field", defArgs (top 54), defBody (top 54), defScope (top 54), [], []⟩
def dd_Field_init : He.DefD := ⟨("Field", some "__init__"), "__init__", "Field.__init__", defArgs (inClass (top 55) 0), defBody (inClass (top 55) 0), defScope (inClass (top 55) 0), [], []⟩
def dd_Field_size : He.DefD := ⟨("Field", some "size"), "size", "Field.size", defArgs (inClass (top 55) 1), defBody (inClass (top 55) 1), defScope (inClass (top 55) 1), [], []⟩
def dd_Field_digits : He.DefD := ⟨("Field", some "digits"), "digits", "Field.digits", defArgs (inClass (top 55) 2), defBody (inClass (top 55) 2), defScope (inClass (top 55) 2), [], []⟩
def dd_Field_number_by : He.DefD := ⟨("Field", some "number_by"), "number_by", "Field.number_by", defArgs (inClass (top 55) 3), defBody (inClass (top 55) 3), defScope (inClass (top 55) 3), [], []⟩
def dd_Field_plus : He.DefD := ⟨("Field", some "plus"), "plus", "Field.plus", defArgs (inClass (top 55) 4), defBody (inClass (top 55) 4), defScope (inClass (top 55) 4), [], []⟩
def dd_Field_times : He.DefD := ⟨("Field", some "times"), "times", "Field.times", defArgs (inClass (top 55) 6), defBody (inClass (top 55) 6), defScope (inClass (top 55) 6), [], []⟩
def dd_Field_powers : He.DefD := ⟨("Field", some "powers"), "powers", "Field.powers", defArgs (inClass (top 55) 8), defBody (inClass (top 55) 8), defScope (inClass (top 55) 8), [], []⟩
def dd_Field_first : He.DefD := ⟨("Field", some "first"), "first", "Field.first", defArgs (inClass (top 55) 9), defBody (inClass (top 55) 9), defScope (inClass (top 55) 9), [], []⟩
def dd_check_parts : He.DefD := ⟨("check_parts", none), "check_parts", "check_parts", defArgs (top 57), defBody (top 57), defScope (top 57), [], []⟩
def dd_shuts_plain : He.DefD := ⟨("shuts_plain", none), "shuts_plain", "shuts_plain", defArgs (top 58), defBody (top 58), defScope (top 58), [], []⟩
def dd_shuts : He.DefD := ⟨("shuts", none), "shuts", "shuts", defArgs (top 59), defBody (top 59), defScope (top 59), [], []⟩
def dd_root_by : He.DefD := ⟨("root_by", none), "root_by", "root_by", defArgs (top 60), defBody (top 60), defScope (top 60), [], []⟩
def dd_solved : He.DefD := ⟨("solved", none), "solved", "solved", defArgs (top 61), defBody (top 61), defScope (top 61), [], []⟩
def dd_form_told : He.DefD := ⟨("form_told", none), "form_told", "form_told", defArgs (top 62), defBody (top 62), defScope (top 62), [], []⟩
def dd_triples_of : He.DefD := ⟨("triples_of", none), "triples_of", "triples_of", defArgs (top 64), defBody (top 64), defScope (top 64), [], []⟩
def dd_tables_of : He.DefD := ⟨("tables_of", none), "tables_of", "tables_of", defArgs (top 65), defBody (top 65), defScope (top 65), [], []⟩
def dd_meets : He.DefD := ⟨("meets", none), "meets", "meets", defArgs (top 66), defBody (top 66), defScope (top 66), [], []⟩
def dd_plane_of : He.DefD := ⟨("plane_of", none), "plane_of", "plane_of", defArgs (top 67), defBody (top 67), defScope (top 67), [], []⟩
def dd_flat_of : He.DefD := ⟨("flat_of", none), "flat_of", "flat_of", defArgs (top 68), defBody (top 68), defScope (top 68), [], []⟩
def dd_is_between : He.DefD := ⟨("is_between", none), "is_between", "is_between", defArgs (top 73), defBody (top 73), defScope (top 73), [], []⟩
def dd_is_start : He.DefD := ⟨("is_start", none), "is_start", "is_start", defArgs (top 74), defBody (top 74), defScope (top 74), [], []⟩
def dd_wish_of : He.DefD := ⟨("wish_of", none), "wish_of", "wish_of", defArgs (top 75), defBody (top 75), defScope (top 75), [.non], []⟩
def dd_shares : He.DefD := ⟨("shares", none), "shares", "shares", defArgs (top 76), defBody (top 76), defScope (top 76), [], []⟩
def dd_sets_of_building : He.DefD := ⟨("sets_of_building", none), "sets_of", "sets_of", defArgs (top 81), defBody (top 81), defScope (top 81), [], []⟩
def dd_ways_of : He.DefD := ⟨("ways_of", none), "ways_of", "ways_of", defArgs (top 83), defBody (top 83), defScope (top 83), [], []⟩
def dd_number_paper : He.DefD := ⟨("number_paper", none), "number_paper", "number_paper", defArgs (top 84), defBody (top 84), defScope (top 84), [], []⟩
def dd_over_paper : He.DefD := ⟨("over_paper", none), "over_paper", "over_paper", defArgs (top 85), defBody (top 85), defScope (top 85), [], []⟩
def dd_named_layouts : He.DefD := ⟨("named_layouts", none), "named_layouts", "named_layouts", defArgs (top 86), defBody (top 86), defScope (top 86), [], []⟩
def dd_named_design : He.DefD := ⟨("named_design", none), "named_design", "named_design", defArgs (top 87), defBody (top 87), defScope (top 87), [], []⟩
def dd_turned_design : He.DefD := ⟨("turned_design", none), "turned_design", "turned_design", defArgs (top 88), defBody (top 88), defScope (top 88), [], []⟩
def dd_Search_init : He.DefD := ⟨("Search", some "__init__"), "__init__", "Search.__init__", defArgs (inClass (top 89) 0), defBody (inClass (top 89) 0), defScope (inClass (top 89) 0), [], []⟩
def dd_Search_lacking : He.DefD := ⟨("Search", some "lacking"), "lacking", "Search.lacking", defArgs (inClass (top 89) 1), defBody (inClass (top 89) 1), defScope (inClass (top 89) 1), [], []⟩
def dd_Search_fits : He.DefD := ⟨("Search", some "fits"), "fits", "Search.fits", defArgs (inClass (top 89) 2), defBody (inClass (top 89) 2), defScope (inClass (top 89) 2), [], []⟩
def dd_Search_put : He.DefD := ⟨("Search", some "put"), "put", "Search.put", defArgs (inClass (top 89) 3), defBody (inClass (top 89) 3), defScope (inClass (top 89) 3), [], []⟩
def dd_Search_sons_of : He.DefD := ⟨("Search", some "sons_of"), "sons_of", "Search.sons_of", defArgs (inClass (top 89) 4), defBody (inClass (top 89) 4), defScope (inClass (top 89) 4), [], []⟩
def dd_Search_going : He.DefD := ⟨("Search", some "going"), "going", "Search.going", defArgs (inClass (top 89) 5), defBody (inClass (top 89) 5), defScope (inClass (top 89) 5), [], []⟩
def dd_searched : He.DefD := ⟨("searched", none), "searched", "searched", defArgs (top 90), defBody (top 90), defScope (top 90), [], []⟩
def dd_answer : He.DefD := ⟨("answer", none), "answer", "answer", defArgs (top 91), defBody (top 91), defScope (top 91), [], []⟩
def dd_is_whole_papers : He.DefD := ⟨("is_whole_papers", none), "is_whole", "is_whole", defArgs (top 94), defBody (top 94), defScope (top 94), [], []⟩
def dd_are_whole : He.DefD := ⟨("are_whole", none), "are_whole", "are_whole", defArgs (top 96), defBody (top 96), defScope (top 96), [], []⟩
def dd_counted : He.DefD := ⟨("counted", none), "counted", "counted", defArgs (top 97), defBody (top 97), defScope (top 97), [], []⟩
def dd_blocks_due : He.DefD := ⟨("blocks_due", none), "blocks_due", "blocks_due", defArgs (top 98), defBody (top 98), defScope (top 98), [], []⟩
def dd_share_taken : He.DefD := ⟨("share_taken", none), "share_taken", "share_taken", defArgs (top 99), defBody (top 99), defScope (top 99), [], []⟩
def dd_fewer_taken : He.DefD := ⟨("fewer_taken", none), "fewer_taken", "fewer_taken", defArgs (top 100), defBody (top 100), defScope (top 100), [], []⟩
def dd_root_taken : He.DefD := ⟨("root_taken", none), "root_taken", "root_taken", defArgs (top 101), defBody (top 101), defScope (top 101), [], []⟩
def dd_form_taken : He.DefD := ⟨("form_taken", none), "form_taken", "form_taken", defArgs (top 102), defBody (top 102), defScope (top 102), [], []⟩
def dd_over_taken : He.DefD := ⟨("over_taken", none), "over_taken", "over_taken", defArgs (top 103), defBody (top 103), defScope (top 103), [], []⟩
def dd_pairs_in : He.DefD := ⟨("pairs_in", none), "pairs_in", "pairs_in", defArgs (top 104), defBody (top 104), defScope (top 104), [], []⟩
def dd_count_block : He.DefD := ⟨("count_block", none), "count_block", "count_block", defArgs (top 105), defBody (top 105), defScope (top 105), [], []⟩
def dd_fits : He.DefD := ⟨("fits", none), "fits", "fits", defArgs (top 106), defBody (top 106), defScope (top 106), [], []⟩
def dd_sets_of_papers : He.DefD := ⟨("sets_of_papers", none), "sets_of", "sets_of", defArgs (top 107), defBody (top 107), defScope (top 107), [], []⟩
def dd_sons_due : He.DefD := ⟨("sons_due", none), "sons_due", "sons_due", defArgs (top 109), defBody (top 109), defScope (top 109), [], []⟩
def dd_is_son : He.DefD := ⟨("is_son", none), "is_son", "is_son", defArgs (top 110), defBody (top 110), defScope (top 110), [], []⟩
def dd_is_node : He.DefD := ⟨("is_node", none), "is_node", "is_node", defArgs (top 111), defBody (top 111), defScope (top 111), [], []⟩
def dd_node_taken : He.DefD := ⟨("node_taken", none), "node_taken", "node_taken", defArgs (top 112), defBody (top 112), defScope (top 112), [], []⟩
def dd_tree_taken : He.DefD := ⟨("tree_taken", none), "tree_taken", "tree_taken", defArgs (top 113), defBody (top 113), defScope (top 113), [], []⟩
def dd_word_taken : He.DefD := ⟨("word_taken", none), "word_taken", "word_taken", defArgs (top 114), defBody (top 114), defScope (top 114), [], []⟩
def dd_paper_taken : He.DefD := ⟨("paper_taken", none), "paper_taken", "paper_taken", defArgs (top 115), defBody (top 115), defScope (top 115), [], []⟩
def dd_law_cell : He.DefD := ⟨("_law_cell", none), "_law_cell", "_law_cell", defArgs (top 117), defBody (top 117), defScope (top 117), [], []⟩
def dd_law_numbers : He.DefD := ⟨("_law_numbers", none), "_law_numbers", "_law_numbers", defArgs (top 118), defBody (top 118), defScope (top 118), [], []⟩
def dd_law_of_size : He.DefD := ⟨("_law_of_size", none), "_law_of_size", "_law_of_size", defArgs (top 119), defBody (top 119), defScope (top 119), [], []⟩
def dd_law_far_wish : He.DefD := ⟨("_law_far_wish", none), "_law_far_wish", "_law_far_wish", defArgs (top 120), defBody (top 120), defScope (top 120), [], []⟩
def dd_law_near_wish : He.DefD := ⟨("_law_near_wish", none), "_law_near_wish", "_law_near_wish", defArgs (top 121), defBody (top 121), defScope (top 121), [], []⟩
def dd_law_design : He.DefD := ⟨("_law_design", none), "_law_design", "_law_design", defArgs (top 122), defBody (top 122), defScope (top 122), [], []⟩
def dd_law_right : He.DefD := ⟨("_law_right", none), "_law_right", "_law_right", defArgs (top 123), defBody (top 123), defScope (top 123), [], []⟩
def dd_law_refused : He.DefD := ⟨("_law_refused", none), "_law_refused", "_law_refused", defArgs (top 124), defBody (top 124), defScope (top 124), [], []⟩
def dd_law : He.DefD := ⟨("law", none), "law", "law", defArgs (top 125), defBody (top 125), defScope (top 125), [], []⟩
def fn : List He.DefD := [dd_is_whole_layouts, dd_is_point, dd_is_block, dd_layout_of, dd_is_whole_numbers, dd_check_whole, dd_primes_of, dd_root_of, dd_plain_part, dd_is_prime, dd_power_by, dd_is_rest, dd_check_bases, dd_turned, dd_developed, dd_differences, dd_sets_with_nought, dd_gone_on, dd_bases_for, dd_complement, dd_count_of, dd_pairs_of, dd_trimmed, dd_row_times, dd_row_rest, dd_digits_of, dd_power_of, dd_row_factor, dd_is_whole_fields, dd_is_row, dd_least_divisor, dd_size_by, dd_check_field, dd_Field_init, dd_Field_size, dd_Field_digits, dd_Field_number_by, dd_Field_plus, dd_Field_times, dd_Field_powers, dd_Field_first, dd_check_parts, dd_shuts_plain, dd_shuts, dd_root_by, dd_solved, dd_form_told, dd_triples_of, dd_tables_of, dd_meets, dd_plane_of, dd_flat_of, dd_is_between, dd_is_start, dd_wish_of, dd_shares, dd_sets_of_building, dd_ways_of, dd_number_paper, dd_over_paper, dd_named_layouts, dd_named_design, dd_turned_design, dd_Search_init, dd_Search_lacking, dd_Search_fits, dd_Search_put, dd_Search_sons_of, dd_Search_going, dd_searched, dd_answer, dd_is_whole_papers, dd_are_whole, dd_counted, dd_blocks_due, dd_share_taken, dd_fewer_taken, dd_root_taken, dd_form_taken, dd_over_taken, dd_pairs_in, dd_count_block, dd_fits, dd_sets_of_papers, dd_sons_due, dd_is_son, dd_is_node, dd_node_taken, dd_tree_taken, dd_word_taken, dd_paper_taken, dd_law_cell, dd_law_numbers, dd_law_of_size, dd_law_far_wish, dd_law_near_wish, dd_law_design, dd_law_right, dd_law_refused, dd_law]
def fa : List He.Fa := [.free "len", .free "range", .free "list", .free "tuple", .free "isinstance", .free "int", .free "bool", .free "str", .free "zip", .free "sorted", .free "set", .free "abs", .free "min", .free "max", .free "all", .int "MOST_POINTS_layouts" 60, .int "MOST_BLOCKS" 200, .int "MOST" 32, .int "MOST_POINTS_wishes" 200, .int "MOST_TIMES" 200, .int "MOST_BEGUN" 9, .int "MOST_CHOICES" 5000, .int "MOST_TURNED" 13, .int "MOST_TREE" 9, .glo "is_whole_layouts", .glo "is_point", .glo "is_block", .glo "layout_of", .glo "is_whole_numbers", .glo "check_whole", .glo "primes_of", .glo "root_of", .glo "plain_part", .glo "is_prime", .glo "power_by", .glo "is_rest", .glo "check_bases", .glo "turned", .glo "developed", .glo "differences", .glo "sets_with_nought", .glo "gone_on", .glo "bases_for", .glo "complement", .glo "count_of", .glo "pairs_of", .glo "trimmed", .glo "row_times", .glo "row_rest", .glo "digits_of", .glo "power_of", .glo "row_factor", .glo "is_whole_fields", .glo "is_row", .glo "least_divisor", .glo "size_by", .glo "check_field", .glo "check_parts", .glo "shuts_plain", .glo "shuts", .glo "root_by", .glo "solved", .glo "form_told", .glo "triples_of", .glo "tables_of", .glo "meets", .glo "plane_of", .glo "flat_of", .glo "is_between", .glo "is_start", .glo "wish_of", .glo "shares", .glo "sets_of_building", .glo "ways_of", .glo "number_paper", .glo "over_paper", .glo "named_layouts", .glo "named_design", .glo "turned_design", .glo "searched", .glo "answer", .glo "is_whole_papers", .glo "are_whole", .glo "counted", .glo "blocks_due", .glo "share_taken", .glo "fewer_taken", .glo "root_taken", .glo "form_taken", .glo "over_taken", .glo "pairs_in", .glo "count_block", .glo "fits", .glo "sets_of_papers", .glo "sons_due", .glo "is_son", .glo "is_node", .glo "node_taken", .glo "tree_taken", .glo "word_taken", .glo "paper_taken", .glo "_law_cell", .glo "_law_numbers", .glo "_law_of_size", .glo "_law_far_wish", .glo "_law_near_wish", .glo "_law_design", .glo "_law_right", .glo "_law_refused", .glo "law", .glo "Field", .glo "Search", .glo "NoWish", .glo "FIELDS", .cls "Field", .mkr "Field", .cls "Search", .mkr "Search", .noat "Field" "p", .noat "Field" "row", .noat "Search" "width", .noat "Search" "spots", .noat "Search" "most", .noat "Search" "left", .noat "Search" "often", .meth "Field" "size", .meth "Field" "digits", .meth "Field" "number_by", .meth "Field" "plus", .meth "Field" "times", .meth "Search" "lacking", .meth "Search" "fits", .meth "Search" "put", .meth "Search" "sons_of", .meth "Search" "going", .exc "NoWish", .exm "NoWish" "NoWish" true]
structure TX (K : PySem.W.Frag) (mg : Str → Option Value) : Prop where
  says : He.SaysD fa fn K
  ih : ∃ h : Heap, K.In h ∧ h.Ns mainGlobals mg
  fld : ∀ F : Hp, Rep K F (.ref (He.ga K "FIELDS")) dFIELDS
section
variable {K : PySem.W.Frag} {mg : Str → Option Value}
theorem TX.free (T : TX K mg) {x : Str} (i : Nat) (h : fa[i]? = some (.free x) := by rfl) : mg x = none := by
  obtain ⟨g, X, G⟩ := T.ih
  exact He.free_ok X G (T.says.fact i h)
theorem TX.glo (T : TX K mg) {x : Str} (i : Nat) (h : fa[i]? = some (.glo x) := by rfl) : mg x = some (.ref (He.ga K x)) := by
  obtain ⟨g, X, G⟩ := T.ih
  exact He.glo_ok X G (T.says.fact i h)
theorem TX.meth (T : TX K mg) {x m : Str} (i : Nat) (h : fa[i]? = some (.meth x m) := by rfl) : Meth K (He.ga K x) m (He.ma K (He.ga K x) m) := He.meth_ok (T.says.fact i h)
theorem TX.noat (T : TX K mg) {x m : Str} (i : Nat) (h : fa[i]? = some (.noat x m) := by rfl) : NoAttr K (He.ga K x) m := He.noat_ok (T.says.fact i h)
theorem TX.clf (T : TX K mg) {x : Str} (i j : Nat) (h : fa[i]? = some (.cls x) := by rfl) (h2 : fa[j]? = some (.glo x) := by rfl) : ClF K x (He.ga K x) := ⟨He.eqO_ok (T.says.fact j h2), He.cls_ok (T.says.fact i h)⟩
theorem TX.field (T : TX K mg) : ClF K "Field" (He.ga K "Field") := T.clf 114 110
theorem TX.na_p (T : TX K mg) : NoAttr K (He.ga K "Field") "p" := T.noat 118
theorem TX.na_row (T : TX K mg) : NoAttr K (He.ga K "Field") "row" := T.noat 119
theorem TX.search (T : TX K mg) : ClF K "Search" (He.ga K "Search") := T.clf 116 111
theorem TX.mkr (T : TX K mg) {x : Str} (i : Nat) (h : fa[i]? = some (.mkr x) := by rfl) : Mk K (He.ga K x) (He.ma K (He.ga K x) "__init__") := He.mkr_ok (T.says.fact i h)
theorem TX.fields {X : Cx} {pos : Pos} (T : TX X.K X.mg) (hg : Gl X "FIELDS") : PE X (.Name "FIELDS" pos) (tD X.K (dC dFIELDS)) := pd_glob hg (T.glo 113) (v := .ref (He.ga X.K "FIELDS")) rfl T.fld
theorem _root_.L2.Room.units1 {k : Nat} {A : Around} (r : Room k A) : A.units + 1 < cLine := by have := r.units; omega
theorem okD_noneS {P : Program} {w : World} {base : Heap} {k : Nat} {f : Addr} {fd : FuncData} {ps : List Str} (kp : PySem.W.keepIn K (.ref f) = true) (b : Binds K fd ps []) : OkD P w K mg base k f ps (spS K fun _ _ => none) := by
  have no : ∀ vs H Q E, ¬ spS K (fun _ _ => none) vs H Q E := fun vs H Q E h => by
    obtain ⟨F, ds, d, p, dx, dd, C, S, S', rest, _, _, _, _, _, _, _, _, e, _⟩ := h
    cases e
  exact ⟨fd, ⟨fun vs H Q E h => absurd h (no vs H Q E), fun A outer s H args us vs Q E _ _ _ _ h => absurd h (no vs H Q E)⟩, b, kp⟩
theorem TX.cst {X : Cx} {x : Str} {i : Int} {pos : Pos} (T : TX X.K X.mg) (k : Nat) (hg : Gl X x) (h : fa[k]? = some (.int x i) := by rfl) (hd : (x == ("__debug__" : Str)) = false := by decide) : PE X (.Name x pos) (tD X.K (dC (.int i))) := by
  obtain ⟨g, X1, G⟩ := T.ih
  obtain ⟨t, e⟩ := He.int_ok X1 G (T.says.fact k h)
  exact pd_glob hg e (v := .int i) ⟨t, rfl⟩ (fun _ => .int i) hd
end
end EM
set_option maxHeartbeats 4000000
namespace EM
open PySem PySem.Spec PyProof.Rows L2
/-! a tuple that the top has written, as data -/
def allB (f : Value → D → Bool) : List Value → List D → Bool
  | [], [] => true
  | u :: us, d :: ds => f u d && allB f us ds
  | _, _ => false
def repB (K : PySem.W.Frag) : Nat → Value → D → Bool
  | 0, _, _ => false
  | n + 1, u, d => match d with
    | .int i => (match u with
      | .int j _ => decide (i = j)
      | _ => false)
    | .kt ds => (match u with
      | .ref a => (match K.lookup a with
        | some ⟨.type c, _, .seq its _, _⟩ => decide (c = "tuple") && (decide (its.size ≤ sizeLine) && allB (repB K n) its.toList ds)
        | _ => false)
      | _ => false)
    | _ => false
theorem allB_ok {K : PySem.W.Frag} {f : Value → D → Bool} (hf : ∀ u d, f u d = true → ∃ v, RelV v u ∧ ∀ F, Rep K F v d) : ∀ {us : List Value} {ds : List D}, allB f us ds = true → ∃ vs, Vals vs us ∧ ∀ F, RepAll K F vs ds
  | [], [], _ => ⟨[], .nil, fun _ => .nil⟩
  | [], _ :: _, h => by cases h
  | _ :: _, [], h => by cases h
  | u :: us, d :: ds, h => by
    obtain ⟨h1, h2⟩ := He.ba (show (f u d && allB f us ds) = true from h)
    obtain ⟨v, g1, g2⟩ := hf u d h1
    obtain ⟨vs, g3, g4⟩ := allB_ok hf h2
    exact ⟨v :: vs, .cons g1 g3, fun F => .cons (g2 F) (g4 F)⟩
theorem repB_ok {K : PySem.W.Frag} : ∀ (n : Nat) (u : Value) (d : D), repB K n u d = true → ∃ v, RelV v u ∧ ∀ F, Rep K F v d
  | 0, _, _, h => by cases h
  | n + 1, u, d, h => by
    cases d with
    | int i =>
      cases u with
      | int j t =>
        have e : i = j := of_decide_eq_true h
        subst e
        exact ⟨.int i, ⟨t, rfl⟩, fun _ => .int i⟩
      | _ => cases h
    | kt ds =>
      cases u with
      | ref a =>
        have h1 : (match K.lookup a with
          | some ⟨.type c, _, .seq its _, _⟩ => decide (c = "tuple") && (decide (its.size ≤ sizeLine) && allB (repB K n) its.toList ds)
          | _ => false) = true := h
        cases q : K.lookup a with
        | none =>
          rw [q] at h1
          cases h1
        | some o =>
          obtain ⟨oc, od, dt, osl⟩ := o
          rw [q] at h1
          cases oc with
          | type c =>
            cases dt with
            | seq its m =>
              obtain ⟨h2, h3⟩ := He.ba (show (decide (c = "tuple") && (decide (its.size ≤ sizeLine) && allB (repB K n) its.toList ds)) = true from h1)
              obtain ⟨h4, h5⟩ := He.ba h3
              obtain ⟨vs, g1, g2⟩ := allB_ok (repB_ok n) h5
              exact ⟨.ref a, rfl, fun F => .kt (.inr ⟨_, its, m, q, congrArg Value.type (of_decide_eq_true h2), rfl, of_decide_eq_true h4, g1⟩) (g2 F)⟩
            | _ => cases h1
          | _ => cases dt <;> cases h1
      | _ => cases h
    | _ => cases h
def fldB (K : PySem.W.Frag) : Bool := repB K 9 (.ref (He.ga K "FIELDS")) dFIELDS
theorem fldB_ok {K : PySem.W.Frag} (h : fldB K = true) (F : Hp) : Rep K F (.ref (He.ga K "FIELDS")) dFIELDS := by
  obtain ⟨v, h1, h2⟩ := repB_ok 9 _ _ h
  cases v with
  | ref a =>
    cases h1
    exact h2 F
  | _ => first | (obtain ⟨_, h1⟩ := h1; cases h1; done) | (cases h1; done)
/-! the Hook, at literal places -/
def as0 : List Addr := [3, 122, 129, 134, 139, 146, 153, 160, 167, 174, 181, 188, 195, 202, 207, 212, 219, 224, 229, 234, 239, 244, 249, 256, 263, 268, 275, 282, 289, 296, 301, 308, 315, 322, 336, 343, 350, 357, 362, 376, 390, 397, 411, 418, 425, 432, 439, 446, 453, 458, 465, 470, 475, 482, 487, 495, 502, 520, 527, 534, 541, 546, 553, 560, 574, 581, 586, 593, 598, 605, 619, 626, 633, 638, 645, 652, 659, 666, 673, 680, 685, 690, 697, 702, 707, 712, 719, 724, 729, 736, 743, 750, 757, 764, 771, 778, 785, 790, 797, 804, 811, 121, 128, 133, 138, 145, 152, 159, 166, 173, 180, 187, 194, 201, 206, 211, 218, 223, 228, 233, 238, 243, 248, 255, 262, 267, 274, 281, 288, 295, 300, 307, 314, 321, 335, 342, 349, 356, 361, 375, 389, 396, 410, 417, 424, 431, 438, 445, 452, 457, 464, 469, 474, 481, 486, 494, 501, 519, 526, 533, 540, 545, 552, 559, 573, 580, 585, 592, 597, 604, 618, 625, 632, 637, 644, 651, 658, 665, 672, 679, 684, 689, 696, 701, 706, 711, 718, 723, 728, 735, 742, 749, 756, 763, 770, 777, 784, 789, 796, 803, 810, 31, 30, 29, 32, 44, 43, 42, 63, 62, 61, 82, 81, 80, 101, 100, 99, 113, 112, 111, 400, 399, 398, 401, 402, 608, 607, 606, 609, 610, 488, 503, 504, 505, 506, 507, 508, 509, 510, 511, 512, 513]
abbrev AlL : Type := Bool × He.AlD
def obsK (K : PySem.W.Frag) : AlL := (fldB K, He.obsD fa fn K)
def obsL (g : Addr → Option Obj) : AlL := obsK (He.frG g as0)
def valL : AlL := (true, He.valD fn)
def hookL : PySem.W.Hook where
  α := AlL
  obs := fun s => obsL s.heap.get?
  val := fun _ => valL
  says := fun _ h => ∃ K : PySem.W.Frag, K.In h ∧ obsK K = valL
  of := fun _ _ e => ⟨_, He.frG_in, e⟩
  keeps := fun _ _ _ ⟨K, hK, c⟩ k => ⟨K, PySem.W.Frag.In.keeps hK k, c⟩
theorem obsL_eq {g : Addr → Option Obj} {s : Shared} (h : ∀ a, g a = s.heap.get? a) : obsL g = hookL.obs s := by
  have e : g = s.heap.get? := funext h
  rw [e] <;> rfl
theorem TX.of {K : PySem.W.Frag} {h : Heap} {mg : Str → Option Value} (X : K.In h) (G : h.Ns mainGlobals mg) (c : obsK K = valL) : TX K mg :=
  ⟨congrArg (fun z : AlL => z.2) c, ⟨h, X, G⟩, fldB_ok (congrArg (fun z : AlL => z.1) c)⟩
end EM
set_option maxHeartbeats 0
namespace EM
open PySem PySem.Spec PyProof.Rows L2
def nm0 : List PySem.Str := ["_wall", "MeetError", "NoNumber", "NoLayout", "NoField", "NoBases", "NoWish", "MOST_POINTS_layouts", "MOST_BLOCKS", "is_whole", "is_whole_layouts", "is_point", "is_block", "layout_of", "is_whole_numbers", "check_whole", "primes_of", "root_of", "plain_part", "is_prime", "power_by", "is_rest", "check_bases", "turned", "developed", "differences", "sets_with_nought", "gone_on", "bases_for", "complement"]
def nm1 : List PySem.Str := ["count_of", "pairs_of", "trimmed", "row_times", "row_rest", "digits_of", "power_of", "row_factor", "MOST", "is_whole_fields", "is_row", "least_divisor", "size_by", "check_field", "Field", "check_parts", "shuts_plain", "shuts", "root_by", "solved", "form_told", "triples_of", "tables_of", "meets", "plane_of", "flat_of", "MOST_POINTS_wishes", "MOST_TIMES", "MOST_BEGUN", "is_between"]
def nm2 : List PySem.Str := ["is_start", "wish_of", "shares", "MOST_CHOICES", "MOST_TURNED", "FIELDS", "sets_of", "sets_of_building", "ways_of", "number_paper", "over_paper", "named_layouts", "named_design", "turned_design", "Search", "searched", "answer", "MOST_TREE", "is_whole_papers", "are_whole", "counted", "blocks_due", "share_taken", "fewer_taken", "root_taken", "form_taken", "over_taken", "pairs_in", "count_block", "fits"]
def nm3 : List PySem.Str := ["sets_of_papers", "sons_due", "is_son", "is_node", "node_taken", "tree_taken", "word_taken", "paper_taken", "_law_cell", "_law_numbers", "_law_of_size", "_law_far_wish", "_law_near_wish", "_law_design", "_law_right", "_law_refused"]
def loose : List PySem.Str := nm0 ++ nm1 ++ nm2 ++ nm3
abbrev RR : PySem.W.OpenRow := PySem.W.OpenLaw.row PySem.Challenge.rw_evenmeet_k62_whole_answers
def ob (s : PySem.W.SharedT) : AlL := obsL (HandSHeadRun.getT s)
theorem ob_eq (s : PySem.W.SharedT) : ob s = hookL.obs s.abs := obsL_eq (HandSHeadRun.getT_eq s)
theorem run (w : World) : HandSHeadRun.RunEq RR (PySem.W.view RR.prog [125]) hookL ob 20000 loose w := by
  intro os
  kernel_rfl
end EM
set_option maxHeartbeats 4000000
noncomputable section
namespace EM
open PySem PySem.Spec PyProof.Rows L2
section
variable {P : Program} {w : World} {K : PySem.W.Frag} {mg : Str → Option Value} {base : Heap}
/-! is_whole_layouts -/
theorem sc_is_whole_layouts : FnScope ["thing"] ["thing"] (defScope (top 11)) := ⟨rfl, rfl, rfl, by decide +kernel, rfl, by decide +kernel, by decide +kernel⟩
def g_is_whole_layouts : Env → Option Res :=
  (sRet (dAndV (cll (aCons (dVar 0) aNil) (gIsi .int)) (dNotV (cll (aCons (dVar 0) aNil) (gIsi .bool)))))
def d_is_whole_layouts : List D → Option D := runD 1 1 g_is_whole_layouts
theorem ok_is_whole_layouts (T : TX K mg) : OkD P w K mg base 1 (He.fAd K ("is_whole_layouts", none)) ["thing"] (spD K d_is_whole_layouts) := by
  obtain ⟨fd, F⟩ := T.says.def_ 0 (d := dd_is_whole_layouts) rfl
  have F : FunD K "is_whole" "is_whole" (defArgs (top 11)) (defBody (top 11)) (defScope (top 11)) [] [] (He.fAd K ("is_whole_layouts", none)) fd := F
  refine ⟨fd, fn_den (N := ["thing"]) (ps := ["thing"]) F sc_is_whole_layouts g_is_whole_layouts (fun cdv A outer s H E hr => ?_), FunD.bindsN F (fun _ _ _ _ _ _ us hl => match us, hl with | [_], _ => rfl), F.kp⟩
  have nd := sc_is_whole_layouts.nd
  exact (pds_one (ds_ret (pd_and (pd_isi .int (T.free 4) (T.free 5) (pd_var 0)) (pd_one (pd_not (pd_isi .bool (T.free 4) (T.free 6) (pd_var 0)))))))
/-! is_point -/
theorem sc_is_point : FnScope ["thing", "points"] ["thing", "points"] (defScope (top 13)) := ⟨rfl, rfl, rfl, by decide +kernel, rfl, by decide +kernel, by decide +kernel⟩
def g_is_point : Env → Option Res :=
  (sRet (dAndV (cll (aCons (dVar 0) aNil) d_is_whole_layouts) (dChain gLe gLt (dC (.int 0)) (dVar 0) (dVar 1))))
def d_is_point : List D → Option D := runD 2 2 g_is_point
theorem ok_is_point (T : TX K mg) : OkD P w K mg base 2 (He.fAd K ("is_point", none)) ["thing", "points"] (spD K d_is_point) := by
  obtain ⟨fd, F⟩ := T.says.def_ 1 (d := dd_is_point) rfl
  have F : FunD K "is_point" "is_point" (defArgs (top 13)) (defBody (top 13)) (defScope (top 13)) [] [] (He.fAd K ("is_point", none)) fd := F
  refine ⟨fd, fn_den (N := ["thing", "points"]) (ps := ["thing", "points"]) F sc_is_point g_is_point (fun cdv A outer s H E hr => ?_), FunD.bindsN F (fun _ _ _ _ _ _ us hl => match us, hl with | [_, _], _ => rfl), F.kp⟩
  have nd := sc_is_point.nd
  exact (pds_one (ds_ret (pd_and (pd_callO (ok_is_whole_layouts T) (hr.mono (by first | decide | omega)) (T.glo 24) (pda_cons (pd_var 0) pda_nil)) (pd_one (pd_chain op_le dr_le op_lt dr_lt pd_int (pd_var 0) (pd_var 1))))))
/-! is_block -/
theorem sc_is_block : FnScope ["things", "points", "thing"] ["things", "points"] (defScope (top 14)) := ⟨rfl, rfl, rfl, by decide +kernel, rfl, by decide +kernel, by decide +kernel⟩
def g_is_block : Env → Option Res :=
  (sSeq (sIf (tNotD (tOfD (cll (aCons (fun env => bnd ((nLc [2] (iAny (dVar 0)) (setN 2) tYesD (cll (aCons (dVar 2) (aCons (dVar 1) aNil)) d_is_point)) env) fun ds => some (.lst ds)) aNil) gAll))) (sRet (dC (.bl false))) sNil)
    (sRet (bop gEq (dLenSet (dVar 0)) (cll (aCons (dVar 0) aNil) gLen))))
def d_is_block : List D → Option D := runD 2 3 g_is_block
theorem ok_is_block (T : TX K mg) : OkD P w K mg base 3 (He.fAd K ("is_block", none)) ["things", "points"] (spD K d_is_block) := by
  obtain ⟨fd, F⟩ := T.says.def_ 2 (d := dd_is_block) rfl
  have F : FunD K "is_block" "is_block" (defArgs (top 14)) (defBody (top 14)) (defScope (top 14)) [] [] (He.fAd K ("is_block", none)) fd := F
  refine ⟨fd, fn_den (N := ["things", "points", "thing"]) (ps := ["things", "points"]) F sc_is_block g_is_block (fun cdv A outer s H E hr => ?_), FunD.bindsN F (fun _ _ _ _ _ _ us hl => match us, hl with | [_, _], _ => rfl), F.kp⟩
  have nd := sc_is_block.nd
  exact (pds_cons (ds_if (pdt_not (pdt_val (pd_callB (cr_all rfl) dr_all rfl (T.free 14) (by decide +kernel) (pda_cons (pd_ofN (pn_lc [("thing", 2)] nd (tgOk_name 2) (pdi_any (pd_var 0)) (blkOk_by (by kernel_rfl)) (fun _ _ _ _ _ => pg_name (i := 2) nd rfl (by first | exact Or.inl rfl | exact Or.inr rfl)) (fun _ _ _ _ _ => pts_no) (fun _ _ _ _ _ => (pd_callO (ok_is_point T) (hr.mono (by first | decide | omega)) (T.glo 25) (pda_cons (pd_var 2) (pda_cons (pd_var 1) pda_nil)))))) pda_nil)))) (pds_one (ds_ret pd_bl)) pds_nil)
    (pds_one (ds_ret (pd_cmp (op_eqM hr.units) dr_eq (pd_lenSet (T.free 0) (T.free 10) (pd_var 0)) (pd_callB call_len dr_len rfl (T.free 0) PySem.boot_len (pda_cons (pd_var 0) pda_nil))))))
/-! layout_of -/
theorem sc_layout_of : FnScope ["points", "blocks", "place", "block"] ["points", "blocks"] (defScope (top 15)) := ⟨rfl, rfl, rfl, by decide +kernel, rfl, by decide +kernel, by decide +kernel⟩
def g_layout_of : Env → Option Res :=
  (sSeq (sIf (tOrD (tNotD (tOfD (cll (aCons (dVar 0) aNil) d_is_whole_layouts))) (tOrD (tNotD (tOfD (dChain gLe gLe (dC (.int 1)) (dVar 0) (dC (.int 60))))) (tOfD (bop gGt (cll (aCons (dVar 1) aNil) gLen) (dC (.int 200)))))) sNever sNil)
    (sSeq (sFor (iRg1 (aCons (cll (aCons (dVar 1) aNil) gLen) aNil)) (setN 2) (sIf (tNotD (tOfD (cll (aCons (bop gIx (dVar 1) (dVar 2)) (aCons (dVar 0) aNil)) d_is_block))) sNever sNil))
    (sRet (dTup (aCons (dVar 0) (aCons (cll (aCons (fun env => bnd ((nLc [3] (iAny (dVar 1)) (setN 3) tYesD (cll (aCons (fun env => bnd ((clN (aCons (dVar 3) aNil) gSortedI) env) fun ds => some (.lst ds)) aNil) gTuple)) env) fun ds => some (.lst ds)) aNil) gTuple) aNil))))))
def d_layout_of : List D → Option D := runD 2 4 g_layout_of
theorem ok_layout_of (T : TX K mg) : OkD P w K mg base 4 (He.fAd K ("layout_of", none)) ["points", "blocks"] (spD K d_layout_of) := by
  obtain ⟨fd, F⟩ := T.says.def_ 3 (d := dd_layout_of) rfl
  have F : FunD K "layout_of" "layout_of" (defArgs (top 15)) (defBody (top 15)) (defScope (top 15)) [] [] (He.fAd K ("layout_of", none)) fd := F
  refine ⟨fd, fn_den (N := ["points", "blocks", "place", "block"]) (ps := ["points", "blocks"]) F sc_layout_of g_layout_of (fun cdv A outer s H E hr => ?_), FunD.bindsN F (fun _ _ _ _ _ _ us hl => match us, hl with | [_, _], _ => rfl), F.kp⟩
  have nd := sc_layout_of.nd
  exact (pds_cons (ds_if (pdw_pt (pdw_or (pdt_not (pdt_val (pd_callO (ok_is_whole_layouts T) (hr.mono (by first | decide | omega)) (T.glo 24) (pda_cons (pd_var 0) pda_nil)))) (pdw_or (pdt_not (pdt_chain op_le dr_le op_le dr_le pd_int (pd_var 0) (T.cst 15 rfl))) (pdw_or1 (pdt_cmp op_gt dr_gt (pd_callB call_len dr_len rfl (T.free 0) PySem.boot_len (pda_cons (pd_var 1) pda_nil)) (T.cst 16 rfl)))))) pds_never pds_nil)
    (pds_cons (ds_for PassesOwn.never (pdi_rg1 (T.free 1) (pda_cons (pd_callB call_len dr_len rfl (T.free 0) PySem.boot_len (pda_cons (pd_var 1) pda_nil)) pda_nil)) (dg_name 2 nd) (pds_one (ds_if (pdt_not (pdt_val (pd_callO (ok_is_block T) (hr.mono (by first | decide | omega)) (T.glo 26) (pda_cons (pd_ix ix_or dr_ix (pd_var 1) (pd_var 2)) (pda_cons (pd_var 0) pda_nil))))) pds_never pds_nil)))
    (pds_one (ds_ret (pd_tup (pda_cons (pd_var 0) (pda_cons (pd_callTy call_tuple_of dr_tuple rfl (T.free 3) (by decide +kernel) (pda_cons (pd_ofN (pn_lc [("block", 3)] nd (tgOk_name 3) (pdi_any (pd_var 1)) (blkOk_by (by kernel_rfl)) (fun _ _ _ _ _ => pg_name (i := 3) nd rfl (by first | exact Or.inl rfl | exact Or.inr rfl)) (fun _ _ _ _ _ => pts_no) (fun _ _ _ _ _ => (pd_callTy call_tuple_of dr_tuple rfl (T.free 3) (by decide +kernel) (pda_cons (pd_ofN (pn_sortedI (T.free 9) (pda_cons (pd_var 3) pda_nil))) pda_nil))))) pda_nil)) pda_nil)))))))
/-! is_whole_numbers -/
theorem sc_is_whole_numbers : FnScope ["thing"] ["thing"] (defScope (top 17)) := ⟨rfl, rfl, rfl, by decide +kernel, rfl, by decide +kernel, by decide +kernel⟩
def g_is_whole_numbers : Env → Option Res :=
  (sRet (dAndV (cll (aCons (dVar 0) aNil) (gIsi .int)) (dNotV (cll (aCons (dVar 0) aNil) (gIsi .bool)))))
def d_is_whole_numbers : List D → Option D := runD 1 1 g_is_whole_numbers
theorem ok_is_whole_numbers (T : TX K mg) : OkD P w K mg base 1 (He.fAd K ("is_whole_numbers", none)) ["thing"] (spD K d_is_whole_numbers) := by
  obtain ⟨fd, F⟩ := T.says.def_ 4 (d := dd_is_whole_numbers) rfl
  have F : FunD K "is_whole" "is_whole" (defArgs (top 17)) (defBody (top 17)) (defScope (top 17)) [] [] (He.fAd K ("is_whole_numbers", none)) fd := F
  refine ⟨fd, fn_den (N := ["thing"]) (ps := ["thing"]) F sc_is_whole_numbers g_is_whole_numbers (fun cdv A outer s H E hr => ?_), FunD.bindsN F (fun _ _ _ _ _ _ us hl => match us, hl with | [_], _ => rfl), F.kp⟩
  have nd := sc_is_whole_numbers.nd
  exact (pds_one (ds_ret (pd_and (pd_isi .int (T.free 4) (T.free 5) (pd_var 0)) (pd_one (pd_not (pd_isi .bool (T.free 4) (T.free 6) (pd_var 0)))))))
/-! check_whole -/
theorem sc_check_whole : FnScope ["thing", "least"] ["thing", "least"] (defScope (top 19)) := ⟨rfl, rfl, rfl, by decide +kernel, rfl, by decide +kernel, by decide +kernel⟩
def g_check_whole : Env → Option Res :=
  (sIf (tOrD (tNotD (tOfD (cll (aCons (dVar 0) aNil) d_is_whole_numbers))) (tOfD (bop gLt (dVar 0) (dVar 1)))) sNever sNil)
def d_check_whole : List D → Option D := runD 2 2 g_check_whole
theorem ok_check_whole (T : TX K mg) : OkD P w K mg base 2 (He.fAd K ("check_whole", none)) ["thing", "least"] (spD K d_check_whole) := by
  obtain ⟨fd, F⟩ := T.says.def_ 5 (d := dd_check_whole) rfl
  have F : FunD K "check_whole" "check_whole" (defArgs (top 19)) (defBody (top 19)) (defScope (top 19)) [] [] (He.fAd K ("check_whole", none)) fd := F
  refine ⟨fd, fn_den (N := ["thing", "least"]) (ps := ["thing", "least"]) F sc_check_whole g_check_whole (fun cdv A outer s H E hr => ?_), FunD.bindsN F (fun _ _ _ _ _ _ us hl => match us, hl with | [_, _], _ => rfl), F.kp⟩
  have nd := sc_check_whole.nd
  exact (pds_one (ds_if (pdw_pt (pdw_or (pdt_not (pdt_val (pd_callO (ok_is_whole_numbers T) (hr.mono (by first | decide | omega)) (T.glo 28) (pda_cons (pd_var 0) pda_nil)))) (pdw_or1 (pdt_cmp op_lt dr_lt (pd_var 0) (pd_var 1))))) pds_never pds_nil))
/-! primes_of -/
theorem sc_primes_of : FnScope ["n", "found", "prime", "often"] ["n"] (defScope (top 20)) := ⟨rfl, rfl, rfl, by decide +kernel, rfl, by decide +kernel, by decide +kernel⟩
def g_primes_of : Env → Option Res :=
  (sSeq (sDrop (cll (aCons (dVar 0) (aCons (dC (.int 1)) aNil)) d_check_whole))
    (sSeq (sSetN 1 (nLst aNil))
    (sSeq (sSet 2 (dC (.int 2)))
    (sSeq (sWhile big (tOfD (bop gGt (dVar 0) (dC (.int 1)))) (sSeq (sIf (tOfD (bop gGt (bop gMul (dVar 2) (dVar 2)) (dVar 0))) (sSet 2 (dVar 0)) sNil)
    (sSeq (sSet 3 (dC (.int 0)))
    (sSeq (sWhile big (tOfD (bop gEq (bop gMod (dVar 0) (dVar 2)) (dC (.int 0)))) (sSeq (sSet 0 (bop gDiv (dVar 0) (dVar 2)))
    (sSet 3 (bop gAdd (dVar 3) (dC (.int 1))))))
    (sSeq (sIf (tOfD (bop gGt (dVar 3) (dC (.int 0)))) (sApp 1 (dTup (aCons (dVar 2) (aCons (dVar 3) aNil)))) sNil)
    (sSet 2 (bop gAdd (dVar 2) (dC (.int 1)))))))))
    (sFrz 1 (sRet (dVar 1)))))))
def d_primes_of : List D → Option D := runD 1 4 g_primes_of
theorem ok_primes_of (T : TX K mg) : OkD P w K mg base 3 (He.fAd K ("primes_of", none)) ["n"] (spD K d_primes_of) := by
  obtain ⟨fd, F⟩ := T.says.def_ 6 (d := dd_primes_of) rfl
  have F : FunD K "primes_of" "primes_of" (defArgs (top 20)) (defBody (top 20)) (defScope (top 20)) [] [] (He.fAd K ("primes_of", none)) fd := F
  refine ⟨fd, fn_den (N := ["n", "found", "prime", "often"]) (ps := ["n"]) F sc_primes_of g_primes_of (fun cdv A outer s H E hr => ?_), FunD.bindsN F (fun _ _ _ _ _ _ us hl => match us, hl with | [_], _ => rfl), F.kp⟩
  have nd := sc_primes_of.nd
  exact (pds_cons (ds_drop (pd_callO (ok_check_whole T) (hr.mono (by first | decide | omega)) (T.glo 29) (pda_cons (pd_var 0) (pda_cons pd_int pda_nil))))
    (pds_cons (ds_setN 1 nd (pn_lst pda_nil))
    (pds_cons (ds_set 2 nd pd_int)
    (pds_cons (ds_while big PassesOwn.never (pdt_cmp op_gt dr_gt (pd_var 0) pd_int) (pds_cons (ds_if (pdt_cmp op_gt dr_gt (pd_op or_mul dr_mul (pd_var 2) (pd_var 2)) (pd_var 0)) (pds_one (ds_set 2 nd (pd_var 0))) pds_nil)
    (pds_cons (ds_set 3 nd pd_int)
    (pds_cons (ds_while big PassesOwn.never (pdt_cmp (op_eqM hr.units) dr_eq (pd_op op_modN dr_mod (pd_var 0) (pd_var 2)) pd_int) (pds_cons (ds_set 0 nd (pd_op op_fdivN dr_div (pd_var 0) (pd_var 2)))
    (pds_one (ds_set 3 nd (pd_op or_add dr_add (pd_var 3) pd_int)))))
    (pds_cons (ds_if (pdt_cmp op_gt dr_gt (pd_var 3) pd_int) (pds_one (ds_app 1 (pd_tup (pda_cons (pd_var 2) (pda_cons (pd_var 3) pda_nil))))) pds_nil)
    (pds_one (ds_set 2 nd (pd_op or_add dr_add (pd_var 2) pd_int))))))))
    (pds_one (ds_frz 1 (ds_ret (pd_var 1))))))))
/-! root_of -/
theorem sc_root_of : FnScope ["n", "low", "high", "middle"] ["n"] (defScope (top 21)) := ⟨rfl, rfl, rfl, by decide +kernel, rfl, by decide +kernel, by decide +kernel⟩
def g_root_of : Env → Option Res :=
  (sSeq (sDrop (cll (aCons (dVar 0) (aCons (dC (.int 0)) aNil)) d_check_whole))
    (sSeq (sPar 1 2 (aCons (dC (.int 0)) (aCons (bop gAdd (dVar 0) (dC (.int 1))) aNil)))
    (sSeq (sWhile big (tOfD (bop gGt (bop gSub (dVar 2) (dVar 1)) (dC (.int 1)))) (sSeq (sSet 3 (bop gDiv (bop gAdd (dVar 1) (dVar 2)) (dC (.int 2))))
    (sIf (tOfD (bop gLe (bop gMul (dVar 3) (dVar 3)) (dVar 0))) (sSet 1 (dVar 3)) (sSet 2 (dVar 3)))))
    (sRet (dVar 1)))))
def d_root_of : List D → Option D := runD 1 4 g_root_of
theorem ok_root_of (T : TX K mg) : OkD P w K mg base 3 (He.fAd K ("root_of", none)) ["n"] (spD K d_root_of) := by
  obtain ⟨fd, F⟩ := T.says.def_ 7 (d := dd_root_of) rfl
  have F : FunD K "root_of" "root_of" (defArgs (top 21)) (defBody (top 21)) (defScope (top 21)) [] [] (He.fAd K ("root_of", none)) fd := F
  refine ⟨fd, fn_den (N := ["n", "low", "high", "middle"]) (ps := ["n"]) F sc_root_of g_root_of (fun cdv A outer s H E hr => ?_), FunD.bindsN F (fun _ _ _ _ _ _ us hl => match us, hl with | [_], _ => rfl), F.kp⟩
  have nd := sc_root_of.nd
  exact (pds_cons (ds_drop (pd_callO (ok_check_whole T) (hr.mono (by first | decide | omega)) (T.glo 29) (pda_cons (pd_var 0) (pda_cons pd_int pda_nil))))
    (pds_cons (ds_par 1 2 nd (pda_cons pd_int (pda_cons (pd_op or_add dr_add (pd_var 0) pd_int) pda_nil)))
    (pds_cons (ds_while big PassesOwn.never (pdt_cmp op_gt dr_gt (pd_op op_sub dr_sub (pd_var 2) (pd_var 1)) pd_int) (pds_cons (ds_set 3 nd (pd_op op_fdivN dr_div (pd_op or_add dr_add (pd_var 1) (pd_var 2)) pd_int))
    (pds_one (ds_if (pdt_cmp op_le dr_le (pd_op or_mul dr_mul (pd_var 3) (pd_var 3)) (pd_var 0)) (pds_one (ds_set 1 nd (pd_var 3))) (pds_one (ds_set 2 nd (pd_var 3)))))))
    (pds_one (ds_ret (pd_var 1))))))
/-! plain_part -/
theorem sc_plain_part : FnScope ["n", "plain", "taken", "prime", "often", "turn"] ["n"] (defScope (top 22)) := ⟨rfl, rfl, rfl, by decide +kernel, rfl, by decide +kernel, by decide +kernel⟩
def g_plain_part : Env → Option Res :=
  (sSeq (sIf (tOrD (tNotD (tOfD (cll (aCons (dVar 0) aNil) d_is_whole_numbers))) (tOfD (bop gEq (dVar 0) (dC (.int 0))))) sNever sNil)
    (sSeq (sSet 1 (dC (.int 1)))
    (sSeq (sIf (tOfD (bop gLt (dVar 0) (dC (.int 0)))) (sSet 1 (uop gNeg (dC (.int 1)))) sNil)
    (sSeq (sSet 2 (dC (.int 1)))
    (sSeq (sFor (iAny (cll (aCons (cll (aCons (dVar 0) aNil) gAbs) aNil) d_primes_of)) (setT [3, 4]) (sSeq (sIf (tOfD (bop gEq (bop gMod (dVar 4) (dC (.int 2))) (dC (.int 1)))) (sSet 1 (bop gMul (dVar 1) (dVar 3))) sNil)
    (sFor (iRg1 (aCons (bop gDiv (dVar 4) (dC (.int 2))) aNil)) (setN 5) (sSet 2 (bop gMul (dVar 2) (dVar 3))))))
    (sRet (dTup (aCons (dVar 1) (aCons (dVar 2) aNil)))))))))
def d_plain_part : List D → Option D := runD 1 6 g_plain_part
theorem ok_plain_part (T : TX K mg) : OkD P w K mg base 4 (He.fAd K ("plain_part", none)) ["n"] (spD K d_plain_part) := by
  obtain ⟨fd, F⟩ := T.says.def_ 8 (d := dd_plain_part) rfl
  have F : FunD K "plain_part" "plain_part" (defArgs (top 22)) (defBody (top 22)) (defScope (top 22)) [] [] (He.fAd K ("plain_part", none)) fd := F
  refine ⟨fd, fn_den (N := ["n", "plain", "taken", "prime", "often", "turn"]) (ps := ["n"]) F sc_plain_part g_plain_part (fun cdv A outer s H E hr => ?_), FunD.bindsN F (fun _ _ _ _ _ _ us hl => match us, hl with | [_], _ => rfl), F.kp⟩
  have nd := sc_plain_part.nd
  exact (pds_cons (ds_if (pdw_pt (pdw_or (pdt_not (pdt_val (pd_callO (ok_is_whole_numbers T) (hr.mono (by first | decide | omega)) (T.glo 28) (pda_cons (pd_var 0) pda_nil)))) (pdw_or1 (pdt_cmp (op_eqM hr.units) dr_eq (pd_var 0) pd_int)))) pds_never pds_nil)
    (pds_cons (ds_set 1 nd pd_int)
    (pds_cons (ds_if (pdt_cmp op_lt dr_lt (pd_var 0) pd_int) (pds_one (ds_set 1 nd (pd_un un_neg dr_neg pd_int))) pds_nil)
    (pds_cons (ds_set 2 nd pd_int)
    (pds_cons (ds_for PassesOwn.never (pdi_any (pd_callO (ok_primes_of T) (hr.mono (by first | decide | omega)) (T.glo 30) (pda_cons (pd_callB call_abs dr_abs rfl (T.free 11) (by decide +kernel) (pda_cons (pd_var 0) pda_nil)) pda_nil))) (dg_tup (dgs_cons 3 nd (dgs_cons 4 nd dgs_nil))) (pds_cons (ds_if (pdt_cmp (op_eqM hr.units) dr_eq (pd_op op_modN dr_mod (pd_var 4) pd_int) pd_int) (pds_one (ds_set 1 nd (pd_op or_mul dr_mul (pd_var 1) (pd_var 3)))) pds_nil)
    (pds_one (ds_for PassesOwn.never (pdi_rg1 (T.free 1) (pda_cons (pd_op op_fdivN dr_div (pd_var 4) pd_int) pda_nil)) (dg_name 5 nd) (pds_one (ds_set 2 nd (pd_op or_mul dr_mul (pd_var 2) (pd_var 3))))))))
    (pds_one (ds_ret (pd_tup (pda_cons (pd_var 1) (pda_cons (pd_var 2) pda_nil))))))))))
/-! is_prime -/
theorem sc_is_prime : FnScope ["n"] ["n"] (defScope (top 23)) := ⟨rfl, rfl, rfl, by decide +kernel, rfl, by decide +kernel, by decide +kernel⟩
def g_is_prime : Env → Option Res :=
  (sRet (dAndV (cll (aCons (dVar 0) aNil) d_is_whole_numbers) (dAndV (bop gGt (dVar 0) (dC (.int 1))) (bop gEq (cll (aCons (dVar 0) aNil) d_primes_of) (fun env => bnd ((nLst (aCons (dTup (aCons (dVar 0) (aCons (dC (.int 1)) aNil))) aNil)) env) fun ds => some (.lst ds))))))
def d_is_prime : List D → Option D := runD 1 1 g_is_prime
theorem ok_is_prime (T : TX K mg) : OkD P w K mg base 4 (He.fAd K ("is_prime", none)) ["n"] (spD K d_is_prime) := by
  obtain ⟨fd, F⟩ := T.says.def_ 9 (d := dd_is_prime) rfl
  have F : FunD K "is_prime" "is_prime" (defArgs (top 23)) (defBody (top 23)) (defScope (top 23)) [] [] (He.fAd K ("is_prime", none)) fd := F
  refine ⟨fd, fn_den (N := ["n"]) (ps := ["n"]) F sc_is_prime g_is_prime (fun cdv A outer s H E hr => ?_), FunD.bindsN F (fun _ _ _ _ _ _ us hl => match us, hl with | [_], _ => rfl), F.kp⟩
  have nd := sc_is_prime.nd
  exact (pds_one (ds_ret (pd_and (pd_callO (ok_is_whole_numbers T) (hr.mono (by first | decide | omega)) (T.glo 28) (pda_cons (pd_var 0) pda_nil)) (pd_and (pd_cmp op_gt dr_gt (pd_var 0) pd_int) (pd_one (pd_cmp (op_eqM hr.units) dr_eq (pd_callO (ok_primes_of T) (hr.mono (by first | decide | omega)) (T.glo 30) (pda_cons (pd_var 0) pda_nil)) (pd_ofN (pn_lst (pda_cons (pd_tup (pda_cons (pd_var 0) (pda_cons pd_int pda_nil))) pda_nil)))))))))
/-! power_by -/
theorem sc_power_by : FnScope ["n", "often", "prime", "found"] ["n", "often", "prime"] (defScope (top 24)) := ⟨rfl, rfl, rfl, by decide +kernel, rfl, by decide +kernel, by decide +kernel⟩
def g_power_by : Env → Option Res :=
  (sSeq (sSet 3 (dC (.int 1)))
    (sSeq (sWhile big (tOfD (bop gGt (dVar 1) (dC (.int 0)))) (sSeq (sIf (tOfD (bop gEq (bop gMod (dVar 1) (dC (.int 2))) (dC (.int 1)))) (sSet 3 (bop gMod (bop gMul (dVar 3) (dVar 0)) (dVar 2))) sNil)
    (sSeq (sSet 0 (bop gMod (bop gMul (dVar 0) (dVar 0)) (dVar 2)))
    (sSet 1 (bop gDiv (dVar 1) (dC (.int 2)))))))
    (sRet (dVar 3))))
def d_power_by : List D → Option D := runD 3 4 g_power_by
theorem ok_power_by (T : TX K mg) : OkD P w K mg base 1 (He.fAd K ("power_by", none)) ["n", "often", "prime"] (spD K d_power_by) := by
  obtain ⟨fd, F⟩ := T.says.def_ 10 (d := dd_power_by) rfl
  have F : FunD K "power_by" "power_by" (defArgs (top 24)) (defBody (top 24)) (defScope (top 24)) [] [] (He.fAd K ("power_by", none)) fd := F
  refine ⟨fd, fn_den (N := ["n", "often", "prime", "found"]) (ps := ["n", "often", "prime"]) F sc_power_by g_power_by (fun cdv A outer s H E hr => ?_), FunD.bindsN F (fun _ _ _ _ _ _ us hl => match us, hl with | [_, _, _], _ => rfl), F.kp⟩
  have nd := sc_power_by.nd
  exact (pds_cons (ds_set 3 nd pd_int)
    (pds_cons (ds_while big PassesOwn.never (pdt_cmp op_gt dr_gt (pd_var 1) pd_int) (pds_cons (ds_if (pdt_cmp (op_eqM hr.units) dr_eq (pd_op op_modN dr_mod (pd_var 1) pd_int) pd_int) (pds_one (ds_set 3 nd (pd_op op_modN dr_mod (pd_op or_mul dr_mul (pd_var 3) (pd_var 0)) (pd_var 2)))) pds_nil)
    (pds_cons (ds_set 0 nd (pd_op op_modN dr_mod (pd_op or_mul dr_mul (pd_var 0) (pd_var 0)) (pd_var 2)))
    (pds_one (ds_set 1 nd (pd_op op_fdivN dr_div (pd_var 1) pd_int))))))
    (pds_one (ds_ret (pd_var 3)))))
/-! is_rest -/
theorem sc_is_rest : FnScope ["n", "p"] ["n", "p"] (defScope (top 25)) := ⟨rfl, rfl, rfl, by decide +kernel, rfl, by decide +kernel, by decide +kernel⟩
def g_is_rest : Env → Option Res :=
  (sSeq (sIf (tOrD (tNotD (tOfD (cll (aCons (dVar 0) aNil) d_is_whole_numbers))) (tNotD (tOfD (cll (aCons (dVar 1) aNil) d_is_prime)))) sNever sNil)
    (sRet (dOrV (bop gEq (dVar 1) (dC (.int 2))) (dOrV (bop gEq (bop gMod (dVar 0) (dVar 1)) (dC (.int 0))) (bop gEq (cll (aCons (bop gMod (dVar 0) (dVar 1)) (aCons (bop gDiv (dVar 1) (dC (.int 2))) (aCons (dVar 1) aNil))) d_power_by) (dC (.int 1)))))))
def d_is_rest : List D → Option D := runD 2 2 g_is_rest
theorem ok_is_rest (T : TX K mg) : OkD P w K mg base 5 (He.fAd K ("is_rest", none)) ["n", "p"] (spD K d_is_rest) := by
  obtain ⟨fd, F⟩ := T.says.def_ 11 (d := dd_is_rest) rfl
  have F : FunD K "is_rest" "is_rest" (defArgs (top 25)) (defBody (top 25)) (defScope (top 25)) [] [] (He.fAd K ("is_rest", none)) fd := F
  refine ⟨fd, fn_den (N := ["n", "p"]) (ps := ["n", "p"]) F sc_is_rest g_is_rest (fun cdv A outer s H E hr => ?_), FunD.bindsN F (fun _ _ _ _ _ _ us hl => match us, hl with | [_, _], _ => rfl), F.kp⟩
  have nd := sc_is_rest.nd
  exact (pds_cons (ds_if (pdw_pt (pdw_or (pdt_not (pdt_val (pd_callO (ok_is_whole_numbers T) (hr.mono (by first | decide | omega)) (T.glo 28) (pda_cons (pd_var 0) pda_nil)))) (pdw_or1 (pdt_not (pdt_val (pd_callO (ok_is_prime T) (hr.mono (by first | decide | omega)) (T.glo 33) (pda_cons (pd_var 1) pda_nil))))))) pds_never pds_nil)
    (pds_one (ds_ret (pd_or (pd_cmp (op_eqM hr.units) dr_eq (pd_var 1) pd_int) (pd_or (pd_cmp (op_eqM hr.units) dr_eq (pd_op op_modN dr_mod (pd_var 0) (pd_var 1)) pd_int) (pd_one (pd_cmp (op_eqM hr.units) dr_eq (pd_callO (ok_power_by T) (hr.mono (by first | decide | omega)) (T.glo 34) (pda_cons (pd_op op_modN dr_mod (pd_var 0) (pd_var 1)) (pda_cons (pd_op op_fdivN dr_div (pd_var 1) pd_int) (pda_cons (pd_var 1) pda_nil)))) pd_int)))))))
end
end EM
end
set_option maxHeartbeats 4000000
noncomputable section
namespace EM
open PySem PySem.Spec PyProof.Rows L2
section
variable {P : Program} {w : World} {K : PySem.W.Frag} {mg : Str → Option Value} {base : Heap}
/-! trimmed -/
theorem sc_trimmed : FnScope ["row", "end"] ["row"] (defScope (top 41)) := ⟨rfl, rfl, rfl, by decide +kernel, rfl, by decide +kernel, by decide +kernel⟩
def g_trimmed : Env → Option Res :=
  (sSeq (sSet 1 (cll (aCons (dVar 0) aNil) gLen))
    (sSeq (sWhile big (tAndD (tOfD (bop gGt (dVar 1) (dC (.int 0)))) (tOfD (bop gEq (bop gIx (dVar 0) (bop gSub (dVar 1) (dC (.int 1)))) (dC (.int 0))))) (sAug 1 gSubI (dC (.int 1))))
    (sRet (cll (aCons (dSl (dVar 0) oNone (oSome (dVar 1))) aNil) gTuple))))
def d_trimmed : List D → Option D := runD 1 2 g_trimmed
theorem ok_trimmed (T : TX K mg) : OkD P w K mg base 1 (He.fAd K ("trimmed", none)) ["row"] (spD K d_trimmed) := by
  obtain ⟨fd, F⟩ := T.says.def_ 22 (d := dd_trimmed) rfl
  have F : FunD K "trimmed" "trimmed" (defArgs (top 41)) (defBody (top 41)) (defScope (top 41)) [] [] (He.fAd K ("trimmed", none)) fd := F
  refine ⟨fd, fn_den (N := ["row", "end"]) (ps := ["row"]) F sc_trimmed g_trimmed (fun cdv A outer s H E hr => ?_), FunD.bindsN F (fun _ _ _ _ _ _ us hl => match us, hl with | [_], _ => rfl), F.kp⟩
  have nd := sc_trimmed.nd
  exact (pds_cons (ds_set 1 nd (pd_callB call_len dr_len rfl (T.free 0) PySem.boot_len (pda_cons (pd_var 0) pda_nil)))
    (pds_cons (ds_while big PassesOwn.never (pdw_pt (pdw_and (pdt_cmp op_gt dr_gt (pd_var 1) pd_int) (pdw_and1 (pdt_cmp (op_eqM hr.units) dr_eq (pd_ix ix_or dr_ix (pd_var 0) (pd_op op_sub dr_sub (pd_var 1) pd_int)) pd_int)))) (pds_one (ds_aug 1 nd (pip_of iop_sub) dr_subI pd_int)))
    (pds_one (ds_ret (pd_callTy call_tuple_of dr_tuple rfl (T.free 3) (by decide +kernel) (pda_cons (pd_sl (pd_var 0) pdo_none (pdo_some (pd_var 1))) pda_nil))))))
/-! row_times -/
theorem sc_row_times : FnScope ["p", "one", "other", "found", "i", "j"] ["p", "one", "other"] (defScope (top 42)) := ⟨rfl, rfl, rfl, by decide +kernel, rfl, by decide +kernel, by decide +kernel⟩
def g_row_times : Env → Option Res :=
  (sSeq (sSetN 3 (nRep (fun env => bnd ((nLst (aCons (dC (.int 0)) aNil)) env) fun ds => some (.lst ds)) (bop gAdd (cll (aCons (dVar 1) aNil) gLen) (cll (aCons (dVar 2) aNil) gLen))))
    (sSeq (sFor (iRg1 (aCons (cll (aCons (dVar 1) aNil) gLen) aNil)) (setN 4) (sFor (iRg1 (aCons (cll (aCons (dVar 2) aNil) gLen) aNil)) (setN 5) (sPut 3 (bop gAdd (dVar 4) (dVar 5)) (bop gMod (bop gAdd (dIxOwn 3 (bop gAdd (dVar 4) (dVar 5))) (bop gMul (bop gIx (dVar 1) (dVar 4)) (bop gIx (dVar 2) (dVar 5)))) (dVar 0)))))
    (sFrz 3 (sRet (cll (aCons (dVar 3) aNil) d_trimmed)))))
def d_row_times : List D → Option D := runD 3 6 g_row_times
theorem ok_row_times (T : TX K mg) : OkD P w K mg base 2 (He.fAd K ("row_times", none)) ["p", "one", "other"] (spD K d_row_times) := by
  obtain ⟨fd, F⟩ := T.says.def_ 23 (d := dd_row_times) rfl
  have F : FunD K "row_times" "row_times" (defArgs (top 42)) (defBody (top 42)) (defScope (top 42)) [] [] (He.fAd K ("row_times", none)) fd := F
  refine ⟨fd, fn_den (N := ["p", "one", "other", "found", "i", "j"]) (ps := ["p", "one", "other"]) F sc_row_times g_row_times (fun cdv A outer s H E hr => ?_), FunD.bindsN F (fun _ _ _ _ _ _ us hl => match us, hl with | [_, _, _], _ => rfl), F.kp⟩
  have nd := sc_row_times.nd
  exact (pds_cons (ds_setN 3 nd (pn_rep (pd_ofN (pn_lst (pda_cons pd_int pda_nil))) (pd_op or_add dr_add (pd_callB call_len dr_len rfl (T.free 0) PySem.boot_len (pda_cons (pd_var 1) pda_nil)) (pd_callB call_len dr_len rfl (T.free 0) PySem.boot_len (pda_cons (pd_var 2) pda_nil)))))
    (pds_cons (ds_for PassesOwn.never (pdi_rg1 (T.free 1) (pda_cons (pd_callB call_len dr_len rfl (T.free 0) PySem.boot_len (pda_cons (pd_var 1) pda_nil)) pda_nil)) (dg_name 4 nd) (pds_one (ds_for PassesOwn.never (pdi_rg1 (T.free 1) (pda_cons (pd_callB call_len dr_len rfl (T.free 0) PySem.boot_len (pda_cons (pd_var 2) pda_nil)) pda_nil)) (dg_name 5 nd) (pds_one (ds_put 3 (pd_op or_add dr_add (pd_var 4) (pd_var 5)) (pd_op op_modN dr_mod (pd_op or_add dr_add (pd_ixOwn 3 (pd_op or_add dr_add (pd_var 4) (pd_var 5))) (pd_op or_mul dr_mul (pd_ix ix_or dr_ix (pd_var 1) (pd_var 4)) (pd_ix ix_or dr_ix (pd_var 2) (pd_var 5)))) (pd_var 0)))))))
    (pds_one (ds_frz 3 (ds_ret (pd_callO (ok_trimmed T) (hr.mono (by first | decide | omega)) (T.glo 46) (pda_cons (pd_var 3) pda_nil)))))))
/-! row_rest -/
theorem sc_row_rest : FnScope ["p", "one", "by", "left", "top", "much", "start", "k", "number"] ["p", "one", "by"] (defScope (top 43)) := ⟨rfl, rfl, rfl, by decide +kernel, rfl, by decide +kernel, by decide +kernel⟩
def g_row_rest : Env → Option Res :=
  (sSeq (sSetN 3 (nLc [8] (iAny (dVar 1)) (setN 8) tYesD (bop gMod (dVar 8) (dVar 0))))
    (sSeq (sFor (iRgD (aCons (bop gSub (dLenOwn 3) (dC (.int 1))) (aCons (bop gSub (cll (aCons (dVar 2) aNil) gLen) (dC (.int 2))) (aCons (uop gNeg (dC (.int 1))) aNil)))) (setN 4) (sSeq (sSet 5 (dIxOwn 3 (dVar 4)))
    (sSeq (sSet 6 (bop gAdd (bop gSub (dVar 4) (cll (aCons (dVar 2) aNil) gLen)) (dC (.int 1))))
    (sFor (iRg1 (aCons (cll (aCons (dVar 2) aNil) gLen) aNil)) (setN 7) (sPut 3 (bop gAdd (dVar 6) (dVar 7)) (bop gMod (bop gSub (dIxOwn 3 (bop gAdd (dVar 6) (dVar 7))) (bop gMul (dVar 5) (bop gIx (dVar 2) (dVar 7)))) (dVar 0)))))))
    (sFrz 3 (sRet (cll (aCons (dVar 3) aNil) d_trimmed)))))
def d_row_rest : List D → Option D := runD 3 9 g_row_rest
theorem ok_row_rest (T : TX K mg) : OkD P w K mg base 2 (He.fAd K ("row_rest", none)) ["p", "one", "by"] (spD K d_row_rest) := by
  obtain ⟨fd, F⟩ := T.says.def_ 24 (d := dd_row_rest) rfl
  have F : FunD K "row_rest" "row_rest" (defArgs (top 43)) (defBody (top 43)) (defScope (top 43)) [] [] (He.fAd K ("row_rest", none)) fd := F
  refine ⟨fd, fn_den (N := ["p", "one", "by", "left", "top", "much", "start", "k", "number"]) (ps := ["p", "one", "by"]) F sc_row_rest g_row_rest (fun cdv A outer s H E hr => ?_), FunD.bindsN F (fun _ _ _ _ _ _ us hl => match us, hl with | [_, _, _], _ => rfl), F.kp⟩
  have nd := sc_row_rest.nd
  exact (pds_cons (ds_setLc 3 [("number", 8)] nd (tgOk_name 8) (pdi_any (pd_var 1)) (blkOk_by (by kernel_rfl)) (fun _ _ _ _ _ => pg_name (i := 8) nd rfl (by first | exact Or.inl rfl | exact Or.inr rfl)) (fun _ _ _ _ _ => pts_no) (fun _ _ _ _ _ => (pd_op op_modN dr_mod (pd_var 8) (pd_var 0))))
    (pds_cons (ds_for PassesOwn.never (pdi_rgD (T.free 1) (pda_cons (pd_op op_sub dr_sub (pd_lenOwn 3 (hm := (T.free 0))) pd_int) (pda_cons (pd_op op_sub dr_sub (pd_callB call_len dr_len rfl (T.free 0) PySem.boot_len (pda_cons (pd_var 2) pda_nil)) pd_int) (pda_cons (pd_un un_neg dr_neg pd_int) pda_nil)))) (dg_name 4 nd) (pds_cons (ds_set 5 nd (pd_ixOwn 3 (pd_var 4)))
    (pds_cons (ds_set 6 nd (pd_op or_add dr_add (pd_op op_sub dr_sub (pd_var 4) (pd_callB call_len dr_len rfl (T.free 0) PySem.boot_len (pda_cons (pd_var 2) pda_nil))) pd_int))
    (pds_one (ds_for PassesOwn.never (pdi_rg1 (T.free 1) (pda_cons (pd_callB call_len dr_len rfl (T.free 0) PySem.boot_len (pda_cons (pd_var 2) pda_nil)) pda_nil)) (dg_name 7 nd) (pds_one (ds_put 3 (pd_op or_add dr_add (pd_var 6) (pd_var 7)) (pd_op op_modN dr_mod (pd_op op_sub dr_sub (pd_ixOwn 3 (pd_op or_add dr_add (pd_var 6) (pd_var 7))) (pd_op or_mul dr_mul (pd_var 5) (pd_ix ix_or dr_ix (pd_var 2) (pd_var 7)))) (pd_var 0)))))))))
    (pds_one (ds_frz 3 (ds_ret (pd_callO (ok_trimmed T) (hr.mono (by first | decide | omega)) (T.glo 46) (pda_cons (pd_var 3) pda_nil)))))))
/-! digits_of -/
theorem sc_digits_of : FnScope ["number", "base", "many", "found", "k"] ["number", "base", "many"] (defScope (top 44)) := ⟨rfl, rfl, rfl, by decide +kernel, rfl, by decide +kernel, by decide +kernel⟩
def g_digits_of : Env → Option Res :=
  (sSeq (sSetN 3 (nLst aNil))
    (sSeq (sFor (iRg1 (aCons (dVar 2) aNil)) (setN 4) (sSeq (sApp 3 (bop gMod (dVar 0) (dVar 1)))
    (sAug 0 gDivP (dVar 1))))
    (sFrz 3 (sRet (dVar 3)))))
def d_digits_of : List D → Option D := runD 3 5 g_digits_of
theorem ok_digits_of (T : TX K mg) : OkD P w K mg base 1 (He.fAd K ("digits_of", none)) ["number", "base", "many"] (spD K d_digits_of) := by
  obtain ⟨fd, F⟩ := T.says.def_ 25 (d := dd_digits_of) rfl
  have F : FunD K "digits_of" "digits_of" (defArgs (top 44)) (defBody (top 44)) (defScope (top 44)) [] [] (He.fAd K ("digits_of", none)) fd := F
  refine ⟨fd, fn_den (N := ["number", "base", "many", "found", "k"]) (ps := ["number", "base", "many"]) F sc_digits_of g_digits_of (fun cdv A outer s H E hr => ?_), FunD.bindsN F (fun _ _ _ _ _ _ us hl => match us, hl with | [_, _, _], _ => rfl), F.kp⟩
  have nd := sc_digits_of.nd
  exact (pds_cons (ds_setN 3 nd (pn_lst pda_nil))
    (pds_cons (ds_for PassesOwn.never (pdi_rg1 (T.free 1) (pda_cons (pd_var 2) pda_nil)) (dg_name 4 nd) (pds_cons (ds_app 3 (pd_op op_modN dr_mod (pd_var 0) (pd_var 1)))
    (pds_one (ds_aug 0 nd (pip_of iop_fdiv) dr_divP (pd_var 1)))))
    (pds_one (ds_frz 3 (ds_ret (pd_var 3))))))
/-! power_of -/
theorem sc_power_of : FnScope ["number", "many", "found", "k"] ["number", "many"] (defScope (top 45)) := ⟨rfl, rfl, rfl, by decide +kernel, rfl, by decide +kernel, by decide +kernel⟩
def g_power_of : Env → Option Res :=
  (sSeq (sSet 2 (dC (.int 1)))
    (sSeq (sFor (iRg1 (aCons (dVar 1) aNil)) (setN 3) (sAug 2 gMulI (dVar 0)))
    (sRet (dVar 2))))
def d_power_of : List D → Option D := runD 2 4 g_power_of
theorem ok_power_of (T : TX K mg) : OkD P w K mg base 1 (He.fAd K ("power_of", none)) ["number", "many"] (spD K d_power_of) := by
  obtain ⟨fd, F⟩ := T.says.def_ 26 (d := dd_power_of) rfl
  have F : FunD K "power_of" "power_of" (defArgs (top 45)) (defBody (top 45)) (defScope (top 45)) [] [] (He.fAd K ("power_of", none)) fd := F
  refine ⟨fd, fn_den (N := ["number", "many", "found", "k"]) (ps := ["number", "many"]) F sc_power_of g_power_of (fun cdv A outer s H E hr => ?_), FunD.bindsN F (fun _ _ _ _ _ _ us hl => match us, hl with | [_, _], _ => rfl), F.kp⟩
  have nd := sc_power_of.nd
  exact (pds_cons (ds_set 2 nd pd_int)
    (pds_cons (ds_for PassesOwn.never (pdi_rg1 (T.free 1) (pda_cons (pd_var 1) pda_nil)) (dg_name 3 nd) (pds_one (ds_aug 2 nd (pip_of iop_mul) dr_mulI (pd_var 0))))
    (pds_one (ds_ret (pd_var 2)))))
/-! row_factor -/
theorem sc_row_factor : FnScope ["p", "row", "degree", "number", "by"] ["p", "row"] (defScope (top 46)) := ⟨rfl, rfl, rfl, by decide +kernel, rfl, by decide +kernel, by decide +kernel⟩
def g_row_factor : Env → Option Res :=
  (sSeq (sFor (iRg2 (aCons (dC (.int 1)) (aCons (bop gAdd (bop gDiv (bop gSub (cll (aCons (dVar 1) aNil) gLen) (dC (.int 1))) (dC (.int 2))) (dC (.int 1))) aNil))) (setN 2) (sFor (iRg1 (aCons (cll (aCons (dVar 0) (aCons (dVar 2) aNil)) d_power_of) aNil)) (setN 3) (sSeq (sSet 4 (bop gAdd (cll (aCons (cll (aCons (dVar 3) (aCons (dVar 0) (aCons (dVar 2) aNil))) d_digits_of) aNil) gTuple) (dTup (aCons (dC (.int 1)) aNil))))
    (sIf (tOfD (bop gEq (cll (aCons (dVar 0) (aCons (dVar 1) (aCons (dVar 4) aNil))) d_row_rest) (dTup aNil))) (sRet (dVar 4)) sNil))))
    (sRet (dC .non)))
def d_row_factor : List D → Option D := runD 2 5 g_row_factor
theorem ok_row_factor (T : TX K mg) : OkD P w K mg base 3 (He.fAd K ("row_factor", none)) ["p", "row"] (spD K d_row_factor) := by
  obtain ⟨fd, F⟩ := T.says.def_ 27 (d := dd_row_factor) rfl
  have F : FunD K "row_factor" "row_factor" (defArgs (top 46)) (defBody (top 46)) (defScope (top 46)) [] [] (He.fAd K ("row_factor", none)) fd := F
  refine ⟨fd, fn_den (N := ["p", "row", "degree", "number", "by"]) (ps := ["p", "row"]) F sc_row_factor g_row_factor (fun cdv A outer s H E hr => ?_), FunD.bindsN F (fun _ _ _ _ _ _ us hl => match us, hl with | [_, _], _ => rfl), F.kp⟩
  have nd := sc_row_factor.nd
  exact (pds_cons (ds_for PassesOwn.never (pdi_rg2 (T.free 1) (pda_cons pd_int (pda_cons (pd_op or_add dr_add (pd_op op_fdivN dr_div (pd_op op_sub dr_sub (pd_callB call_len dr_len rfl (T.free 0) PySem.boot_len (pda_cons (pd_var 1) pda_nil)) pd_int) pd_int) pd_int) pda_nil))) (dg_name 2 nd) (pds_one (ds_for PassesOwn.never (pdi_rg1 (T.free 1) (pda_cons (pd_callO (ok_power_of T) (hr.mono (by first | decide | omega)) (T.glo 50) (pda_cons (pd_var 0) (pda_cons (pd_var 2) pda_nil))) pda_nil)) (dg_name 3 nd) (pds_cons (ds_set 4 nd (pd_op or_add dr_add (pd_callTy call_tuple_of dr_tuple rfl (T.free 3) (by decide +kernel) (pda_cons (pd_callO (ok_digits_of T) (hr.mono (by first | decide | omega)) (T.glo 49) (pda_cons (pd_var 3) (pda_cons (pd_var 0) (pda_cons (pd_var 2) pda_nil)))) pda_nil)) (pd_tup (pda_cons pd_int pda_nil))))
    (pds_one (ds_if (pdt_cmp (op_eqM hr.units) dr_eq (pd_callO (ok_row_rest T) (hr.mono (by first | decide | omega)) (T.glo 48) (pda_cons (pd_var 0) (pda_cons (pd_var 1) (pda_cons (pd_var 4) pda_nil)))) (pd_tup pda_nil)) (pds_one (ds_ret (pd_var 4))) pds_nil))))))
    (pds_one (ds_ret pd_non)))
/-! is_whole_fields -/
theorem sc_is_whole_fields : FnScope ["thing"] ["thing"] (defScope (top 49)) := ⟨rfl, rfl, rfl, by decide +kernel, rfl, by decide +kernel, by decide +kernel⟩
def g_is_whole_fields : Env → Option Res :=
  (sRet (dAndV (cll (aCons (dVar 0) aNil) (gIsi .int)) (dNotV (cll (aCons (dVar 0) aNil) (gIsi .bool)))))
def d_is_whole_fields : List D → Option D := runD 1 1 g_is_whole_fields
theorem ok_is_whole_fields (T : TX K mg) : OkD P w K mg base 1 (He.fAd K ("is_whole_fields", none)) ["thing"] (spD K d_is_whole_fields) := by
  obtain ⟨fd, F⟩ := T.says.def_ 28 (d := dd_is_whole_fields) rfl
  have F : FunD K "is_whole" "is_whole" (defArgs (top 49)) (defBody (top 49)) (defScope (top 49)) [] [] (He.fAd K ("is_whole_fields", none)) fd := F
  refine ⟨fd, fn_den (N := ["thing"]) (ps := ["thing"]) F sc_is_whole_fields g_is_whole_fields (fun cdv A outer s H E hr => ?_), FunD.bindsN F (fun _ _ _ _ _ _ us hl => match us, hl with | [_], _ => rfl), F.kp⟩
  have nd := sc_is_whole_fields.nd
  exact (pds_one (ds_ret (pd_and (pd_isi .int (T.free 4) (T.free 5) (pd_var 0)) (pd_one (pd_not (pd_isi .bool (T.free 4) (T.free 6) (pd_var 0)))))))
/-! is_row -/
theorem sc_is_row : FnScope ["p", "row", "number"] ["p", "row"] (defScope (top 51)) := ⟨rfl, rfl, rfl, by decide +kernel, rfl, by decide +kernel, by decide +kernel⟩
def g_is_row : Env → Option Res :=
  (sSeq (sIf (tOrD (tNotD (tOfD (cll (aCons (dVar 1) aNil) (gIsi .tuple)))) (tOfD (bop gLt (cll (aCons (dVar 1) aNil) gLen) (dC (.int 2))))) (sRet (dC (.bl false))) sNil)
    (sRet (dAndV (cll (aCons (fun env => bnd ((nLc [2] (iAny (dVar 1)) (setN 2) tYesD (dAndV (cll (aCons (dVar 2) aNil) d_is_whole_fields) (dChain gLe gLt (dC (.int 0)) (dVar 2) (dVar 0)))) env) fun ds => some (.lst ds)) aNil) gAll) (bop gEq (bop gIx (dVar 1) (uop gNeg (dC (.int 1)))) (dC (.int 1))))))
def d_is_row : List D → Option D := runD 2 3 g_is_row
theorem ok_is_row (T : TX K mg) : OkD P w K mg base 2 (He.fAd K ("is_row", none)) ["p", "row"] (spD K d_is_row) := by
  obtain ⟨fd, F⟩ := T.says.def_ 29 (d := dd_is_row) rfl
  have F : FunD K "is_row" "is_row" (defArgs (top 51)) (defBody (top 51)) (defScope (top 51)) [] [] (He.fAd K ("is_row", none)) fd := F
  refine ⟨fd, fn_den (N := ["p", "row", "number"]) (ps := ["p", "row"]) F sc_is_row g_is_row (fun cdv A outer s H E hr => ?_), FunD.bindsN F (fun _ _ _ _ _ _ us hl => match us, hl with | [_, _], _ => rfl), F.kp⟩
  have nd := sc_is_row.nd
  exact (pds_cons (ds_if (pdw_pt (pdw_or (pdt_not (pdt_val (pd_isi .tuple (T.free 4) (T.free 3) (pd_var 1)))) (pdw_or1 (pdt_cmp op_lt dr_lt (pd_callB call_len dr_len rfl (T.free 0) PySem.boot_len (pda_cons (pd_var 1) pda_nil)) pd_int)))) (pds_one (ds_ret pd_bl)) pds_nil)
    (pds_one (ds_ret (pd_and (pd_callB (cr_all rfl) dr_all rfl (T.free 14) (by decide +kernel) (pda_cons (pd_ofN (pn_lc [("number", 2)] nd (tgOk_name 2) (pdi_any (pd_var 1)) (blkOk_by (by kernel_rfl)) (fun _ _ _ _ _ => pg_name (i := 2) nd rfl (by first | exact Or.inl rfl | exact Or.inr rfl)) (fun _ _ _ _ _ => pts_no) (fun _ _ _ _ _ => (pd_and (pd_callO (ok_is_whole_fields T) (hr.mono (by first | decide | omega)) (T.glo 52) (pda_cons (pd_var 2) pda_nil)) (pd_one (pd_chain op_le dr_le op_lt dr_lt pd_int (pd_var 2) (pd_var 0))))))) pda_nil)) (pd_one (pd_cmp (op_eqM hr.units) dr_eq (pd_ix ix_or dr_ix (pd_var 1) (pd_un un_neg dr_neg pd_int)) pd_int))))))
/-! least_divisor -/
theorem sc_least_divisor : FnScope ["number", "found"] ["number"] (defScope (top 52)) := ⟨rfl, rfl, rfl, by decide +kernel, rfl, by decide +kernel, by decide +kernel⟩
def g_least_divisor : Env → Option Res :=
  (sSeq (sSet 1 (dC (.int 2)))
    (sSeq (sWhile big (tOfD (bop gNe (bop gMod (dVar 0) (dVar 1)) (dC (.int 0)))) (sAug 1 gAddI (dC (.int 1))))
    (sRet (dVar 1))))
def d_least_divisor : List D → Option D := runD 1 2 g_least_divisor
theorem ok_least_divisor (T : TX K mg) : OkD P w K mg base 1 (He.fAd K ("least_divisor", none)) ["number"] (spD K d_least_divisor) := by
  obtain ⟨fd, F⟩ := T.says.def_ 30 (d := dd_least_divisor) rfl
  have F : FunD K "least_divisor" "least_divisor" (defArgs (top 52)) (defBody (top 52)) (defScope (top 52)) [] [] (He.fAd K ("least_divisor", none)) fd := F
  refine ⟨fd, fn_den (N := ["number", "found"]) (ps := ["number"]) F sc_least_divisor g_least_divisor (fun cdv A outer s H E hr => ?_), FunD.bindsN F (fun _ _ _ _ _ _ us hl => match us, hl with | [_], _ => rfl), F.kp⟩
  have nd := sc_least_divisor.nd
  exact (pds_cons (ds_set 1 nd pd_int)
    (pds_cons (ds_while big PassesOwn.never (pdt_cmp (op_neM hr.units) dr_ne (pd_op op_modN dr_mod (pd_var 0) (pd_var 1)) pd_int) (pds_one (ds_aug 1 nd (pip_of iop_add) dr_addI pd_int)))
    (pds_one (ds_ret (pd_var 1)))))
/-! size_by -/
theorem sc_size_by : FnScope ["p", "row", "found", "k"] ["p", "row"] (defScope (top 53)) := ⟨rfl, rfl, rfl, by decide +kernel, rfl, by decide +kernel, by decide +kernel⟩
def g_size_by : Env → Option Res :=
  (sSeq (sSet 2 (dC (.int 1)))
    (sSeq (sFor (iRg1 (aCons (bop gSub (cll (aCons (dVar 1) aNil) gLen) (dC (.int 1))) aNil)) (setN 3) (sSet 2 (cll (aCons (bop gMul (dVar 2) (dVar 0)) (aCons (bop gAdd (dC (.int 32)) (dC (.int 1))) aNil)) gMin2)))
    (sRet (dVar 2))))
def d_size_by : List D → Option D := runD 2 4 g_size_by
theorem ok_size_by (T : TX K mg) : OkD P w K mg base 1 (He.fAd K ("size_by", none)) ["p", "row"] (spD K d_size_by) := by
  obtain ⟨fd, F⟩ := T.says.def_ 31 (d := dd_size_by) rfl
  have F : FunD K "size_by" "size_by" (defArgs (top 53)) (defBody (top 53)) (defScope (top 53)) [] [] (He.fAd K ("size_by", none)) fd := F
  refine ⟨fd, fn_den (N := ["p", "row", "found", "k"]) (ps := ["p", "row"]) F sc_size_by g_size_by (fun cdv A outer s H E hr => ?_), FunD.bindsN F (fun _ _ _ _ _ _ us hl => match us, hl with | [_, _], _ => rfl), F.kp⟩
  have nd := sc_size_by.nd
  exact (pds_cons (ds_set 2 nd pd_int)
    (pds_cons (ds_for PassesOwn.never (pdi_rg1 (T.free 1) (pda_cons (pd_op op_sub dr_sub (pd_callB call_len dr_len rfl (T.free 0) PySem.boot_len (pda_cons (pd_var 1) pda_nil)) pd_int) pda_nil)) (dg_name 3 nd) (pds_one (ds_set 2 nd (pd_callB (call_min2 rfl) dr_min2 rfl (T.free 12) (by decide +kernel) (pda_cons (pd_op or_mul dr_mul (pd_var 2) (pd_var 0)) (pda_cons (pd_op or_add dr_add (T.cst 17 rfl) pd_int) pda_nil))))))
    (pds_one (ds_ret (pd_var 2)))))
/-! check_field -/
theorem sc_check_field : FnScope ["p", "row", "factor"] ["p", "row"] (defScope (top 54)) := ⟨rfl, rfl, rfl, by decide +kernel, rfl, by decide +kernel, by decide +kernel⟩
def g_check_field : Env → Option Res :=
  (sSeq (sIf (tOrD (tNotD (tOfD (cll (aCons (dVar 0) aNil) d_is_whole_fields))) (tOrD (tOfD (bop gLt (dVar 0) (dC (.int 2)))) (tOrD (tNotD (tOfD (cll (aCons (dVar 0) (aCons (dVar 1) aNil)) d_is_row))) (tOfD (bop gGt (cll (aCons (dVar 0) (aCons (dVar 1) aNil)) d_size_by) (dC (.int 32))))))) sNever sNil)
    (sSeq (sIf (tOfD (bop gNe (cll (aCons (dVar 0) aNil) d_least_divisor) (dVar 0))) sNever sNil)
    (sSeq (sSet 2 (cll (aCons (dVar 0) (aCons (dVar 1) aNil)) d_row_factor))
    (sIf (tOfD (bop gNotN (dVar 2) (dC .non))) sNever sNil))))
def d_check_field : List D → Option D := runD 2 3 g_check_field
theorem ok_check_field (T : TX K mg) : OkD P w K mg base 4 (He.fAd K ("check_field", none)) ["p", "row"] (spD K d_check_field) := by
  obtain ⟨fd, F⟩ := T.says.def_ 32 (d := dd_check_field) rfl
  have F : FunD K "check_field" "check_field" (defArgs (top 54)) (defBody (top 54)) (defScope (top 54)) [] [] (He.fAd K ("check_field", none)) fd := F
  refine ⟨fd, fn_den (N := ["p", "row", "factor"]) (ps := ["p", "row"]) F sc_check_field g_check_field (fun cdv A outer s H E hr => ?_), FunD.bindsN F (fun _ _ _ _ _ _ us hl => match us, hl with | [_, _], _ => rfl), F.kp⟩
  have nd := sc_check_field.nd
  exact (pds_cons (ds_if (pdw_pt (pdw_or (pdt_not (pdt_val (pd_callO (ok_is_whole_fields T) (hr.mono (by first | decide | omega)) (T.glo 52) (pda_cons (pd_var 0) pda_nil)))) (pdw_or (pdt_cmp op_lt dr_lt (pd_var 0) pd_int) (pdw_or (pdt_not (pdt_val (pd_callO (ok_is_row T) (hr.mono (by first | decide | omega)) (T.glo 53) (pda_cons (pd_var 0) (pda_cons (pd_var 1) pda_nil))))) (pdw_or1 (pdt_cmp op_gt dr_gt (pd_callO (ok_size_by T) (hr.mono (by first | decide | omega)) (T.glo 55) (pda_cons (pd_var 0) (pda_cons (pd_var 1) pda_nil))) (T.cst 17 rfl))))))) pds_never pds_nil)
    (pds_cons (ds_if (pdt_cmp (op_neM hr.units) dr_ne (pd_callO (ok_least_divisor T) (hr.mono (by first | decide | omega)) (T.glo 54) (pda_cons (pd_var 0) pda_nil)) (pd_var 0)) pds_never pds_nil)
    (pds_cons (ds_set 2 nd (pd_callO (ok_row_factor T) (hr.mono (by first | decide | omega)) (T.glo 51) (pda_cons (pd_var 0) (pda_cons (pd_var 1) pda_nil))))
    (pds_one (ds_if (pdt_cmp op_notN dr_notN (pd_var 2) pd_non) pds_never pds_nil)))))
/-! Field_size -/
theorem sc_Field_size : FnScope ["self"] ["self"] (defScope (inClass (top 55) 1)) := ⟨rfl, rfl, rfl, by decide +kernel, rfl, by decide +kernel, by decide +kernel⟩
def g_Field_size : Env → Option Res :=
  (sRet (cll (aCons (uop gP (dVar 0)) (aCons (uop gRow (dVar 0)) aNil)) d_size_by))
def d_Field_size : List D → Option D := runD 1 1 g_Field_size
theorem ok_Field_size (T : TX K mg) : OkD P w K mg base 2 (He.fAd K ("Field", some "size")) ["self"] (spD K d_Field_size) := by
  obtain ⟨fd, F⟩ := T.says.def_ 34 (d := dd_Field_size) rfl
  have F : FunD K "size" "Field.size" (defArgs (inClass (top 55) 1)) (defBody (inClass (top 55) 1)) (defScope (inClass (top 55) 1)) [] [] (He.fAd K ("Field", some "size")) fd := F
  refine ⟨fd, fn_den (N := ["self"]) (ps := ["self"]) F sc_Field_size g_Field_size (fun cdv A outer s H E hr => ?_), FunD.bindsN F (fun _ _ _ _ _ _ us hl => match us, hl with | [_], _ => rfl), F.kp⟩
  have nd := sc_Field_size.nd
  exact (pds_one (ds_ret (pd_callO (ok_size_by T) (hr.mono (by first | decide | omega)) (T.glo 55) (pda_cons (pd_fldP T.field T.na_p (pd_var 0)) (pda_cons (pd_fldRow T.field T.na_row (pd_var 0)) pda_nil)))))
/-! Field_digits -/
theorem sc_Field_digits : FnScope ["self", "a"] ["self", "a"] (defScope (inClass (top 55) 2)) := ⟨rfl, rfl, rfl, by decide +kernel, rfl, by decide +kernel, by decide +kernel⟩
def g_Field_digits : Env → Option Res :=
  (sSeq (sIf (tOrD (tNotD (tOfD (cll (aCons (dVar 1) aNil) d_is_whole_fields))) (tNotD (tOfD (dChain gLe gLt (dC (.int 0)) (dVar 1) (mll (dVar 0) aNil d_Field_size))))) sNever sNil)
    (sRet (cll (aCons (dVar 1) (aCons (uop gP (dVar 0)) (aCons (bop gSub (cll (aCons (uop gRow (dVar 0)) aNil) gLen) (dC (.int 1))) aNil))) d_digits_of)))
def d_Field_digits : List D → Option D := runD 2 2 g_Field_digits
theorem ok_Field_digits (T : TX K mg) : OkD P w K mg base 3 (He.fAd K ("Field", some "digits")) ["self", "a"] (spD K d_Field_digits) := by
  obtain ⟨fd, F⟩ := T.says.def_ 35 (d := dd_Field_digits) rfl
  have F : FunD K "digits" "Field.digits" (defArgs (inClass (top 55) 2)) (defBody (inClass (top 55) 2)) (defScope (inClass (top 55) 2)) [] [] (He.fAd K ("Field", some "digits")) fd := F
  refine ⟨fd, fn_den (N := ["self", "a"]) (ps := ["self", "a"]) F sc_Field_digits g_Field_digits (fun cdv A outer s H E hr => ?_), FunD.bindsN F (fun _ _ _ _ _ _ us hl => match us, hl with | [_, _], _ => rfl), F.kp⟩
  have nd := sc_Field_digits.nd
  exact (pds_cons (ds_if (pdw_pt (pdw_or (pdt_not (pdt_val (pd_callO (ok_is_whole_fields T) (hr.mono (by first | decide | omega)) (T.glo 52) (pda_cons (pd_var 1) pda_nil)))) (pdw_or1 (pdt_not (pdt_chain op_le dr_le op_lt dr_lt pd_int (pd_var 1) (pd_fmethO0 T.field (T.meth 125) (ok_Field_size T) (hr.mono (by first | decide | omega)) (pd_var 0))))))) pds_never pds_nil)
    (pds_one (ds_ret (pd_callO (ok_digits_of T) (hr.mono (by first | decide | omega)) (T.glo 49) (pda_cons (pd_var 1) (pda_cons (pd_fldP T.field T.na_p (pd_var 0)) (pda_cons (pd_op op_sub dr_sub (pd_callB call_len dr_len rfl (T.free 0) PySem.boot_len (pda_cons (pd_fldRow T.field T.na_row (pd_var 0)) pda_nil)) pd_int) pda_nil)))))))
/-! Field_number_by -/
theorem sc_Field_number_by : FnScope ["self", "digits", "found", "digit"] ["self", "digits"] (defScope (inClass (top 55) 3)) := ⟨rfl, rfl, rfl, by decide +kernel, rfl, by decide +kernel, by decide +kernel⟩
def g_Field_number_by : Env → Option Res :=
  (sSeq (sSet 2 (dC (.int 0)))
    (sSeq (sFor (iAny (fun env => bnd ((revL (fun env => bnd ((clN (aCons (dVar 1) aNil) gList) env) fun ds => some (.lst ds))) env) fun ds => some (.lst ds))) (setN 3) (sSet 2 (bop gAdd (bop gMul (dVar 2) (uop gP (dVar 0))) (dVar 3))))
    (sRet (dVar 2))))
def d_Field_number_by : List D → Option D := runD 2 4 g_Field_number_by
theorem ok_Field_number_by (T : TX K mg) : OkD P w K mg base 1 (He.fAd K ("Field", some "number_by")) ["self", "digits"] (spD K d_Field_number_by) := by
  obtain ⟨fd, F⟩ := T.says.def_ 36 (d := dd_Field_number_by) rfl
  have F : FunD K "number_by" "Field.number_by" (defArgs (inClass (top 55) 3)) (defBody (inClass (top 55) 3)) (defScope (inClass (top 55) 3)) [] [] (He.fAd K ("Field", some "number_by")) fd := F
  refine ⟨fd, fn_den (N := ["self", "digits", "found", "digit"]) (ps := ["self", "digits"]) F sc_Field_number_by g_Field_number_by (fun cdv A outer s H E hr => ?_), FunD.bindsN F (fun _ _ _ _ _ _ us hl => match us, hl with | [_, _], _ => rfl), F.kp⟩
  have nd := sc_Field_number_by.nd
  exact (pds_cons (ds_set 2 nd pd_int)
    (pds_cons (ds_for PassesOwn.never (pdi_any (pd_ofN (pn_revL (pd_ofN (pn_callTy call_list_of dr_list rfl (T.free 2) (by decide +kernel) (pda_cons (pd_var 1) pda_nil)))))) (dg_name 3 nd) (pds_one (ds_set 2 nd (pd_op or_add dr_add (pd_op or_mul dr_mul (pd_var 2) (pd_fldP T.field T.na_p (pd_var 0))) (pd_var 3)))))
    (pds_one (ds_ret (pd_var 2)))))
/-! Field_plus -/
theorem sc_Field_plus : FnScope ["self", "a", "b", "one", "other", "k"] ["self", "a", "b"] (defScope (inClass (top 55) 4)) := ⟨rfl, rfl, rfl, by decide +kernel, rfl, by decide +kernel, by decide +kernel⟩
def g_Field_plus : Env → Option Res :=
  (sSeq (fun env => bnd ((dTup (aCons (mll (dVar 0) (aCons (dVar 1) aNil) d_Field_digits) (aCons (mll (dVar 0) (aCons (dVar 2) aNil) d_Field_digits) aNil))) env) fun d => bnd ((setT [3, 4]) d env) fun e => some (.nx e))
    (sRet (mll (dVar 0) (aCons (fun env => bnd ((nLc [5] (iRg1 (aCons (cll (aCons (dVar 3) aNil) gLen) aNil)) (setN 5) tYesD (bop gMod (bop gAdd (bop gIx (dVar 3) (dVar 5)) (bop gIx (dVar 4) (dVar 5))) (uop gP (dVar 0)))) env) fun ds => some (.lst ds)) aNil) d_Field_number_by)))
def d_Field_plus : List D → Option D := runD 3 6 g_Field_plus
theorem ok_Field_plus (T : TX K mg) : OkD P w K mg base 4 (He.fAd K ("Field", some "plus")) ["self", "a", "b"] (spD K d_Field_plus) := by
  obtain ⟨fd, F⟩ := T.says.def_ 37 (d := dd_Field_plus) rfl
  have F : FunD K "plus" "Field.plus" (defArgs (inClass (top 55) 4)) (defBody (inClass (top 55) 4)) (defScope (inClass (top 55) 4)) [] [] (He.fAd K ("Field", some "plus")) fd := F
  refine ⟨fd, fn_den (N := ["self", "a", "b", "one", "other", "k"]) (ps := ["self", "a", "b"]) F sc_Field_plus g_Field_plus (fun cdv A outer s H E hr => ?_), FunD.bindsN F (fun _ _ _ _ _ _ us hl => match us, hl with | [_, _, _], _ => rfl), F.kp⟩
  have nd := sc_Field_plus.nd
  exact (pds_cons (ds_asg (pd_tup (pda_cons (pd_fmethO T.field (T.meth 126) (ok_Field_digits T) (hr.mono (by first | decide | omega)) (pd_var 0) (pda_cons (pd_var 1) pda_nil)) (pda_cons (pd_fmethO T.field (T.meth 126) (ok_Field_digits T) (hr.mono (by first | decide | omega)) (pd_var 0) (pda_cons (pd_var 2) pda_nil)) pda_nil))) (dg_tup (dgs_cons 3 nd (dgs_cons 4 nd dgs_nil))))
    (pds_one (ds_ret (pd_fmethO T.field (T.meth 127) (ok_Field_number_by T) (hr.mono (by first | decide | omega)) (pd_var 0) (pda_cons (pd_ofN (pn_lc [("k", 5)] nd (tgOk_name 5) (pdi_rg1 (T.free 1) (pda_cons (pd_callB call_len dr_len rfl (T.free 0) PySem.boot_len (pda_cons (pd_var 3) pda_nil)) pda_nil)) (blkOk_by (by kernel_rfl)) (fun _ _ _ _ _ => pg_name (i := 5) nd rfl (by first | exact Or.inl rfl | exact Or.inr rfl)) (fun _ _ _ _ _ => pts_no) (fun _ _ _ _ _ => (pd_op op_modN dr_mod (pd_op or_add dr_add (pd_ix ix_or dr_ix (pd_var 3) (pd_var 5)) (pd_ix ix_or dr_ix (pd_var 4) (pd_var 5))) (pd_fldP T.field T.na_p (pd_var 0)))))) pda_nil)))))
/-! Field_times -/
theorem sc_Field_times : FnScope ["self", "a", "b"] ["self", "a", "b"] (defScope (inClass (top 55) 6)) := ⟨rfl, rfl, rfl, by decide +kernel, rfl, by decide +kernel, by decide +kernel⟩
def g_Field_times : Env → Option Res :=
  (sRet (mll (dVar 0) (aCons (cll (aCons (uop gP (dVar 0)) (aCons (cll (aCons (uop gP (dVar 0)) (aCons (mll (dVar 0) (aCons (dVar 1) aNil) d_Field_digits) (aCons (mll (dVar 0) (aCons (dVar 2) aNil) d_Field_digits) aNil))) d_row_times) (aCons (uop gRow (dVar 0)) aNil))) d_row_rest) aNil) d_Field_number_by))
def d_Field_times : List D → Option D := runD 3 3 g_Field_times
theorem ok_Field_times (T : TX K mg) : OkD P w K mg base 4 (He.fAd K ("Field", some "times")) ["self", "a", "b"] (spD K d_Field_times) := by
  obtain ⟨fd, F⟩ := T.says.def_ 38 (d := dd_Field_times) rfl
  have F : FunD K "times" "Field.times" (defArgs (inClass (top 55) 6)) (defBody (inClass (top 55) 6)) (defScope (inClass (top 55) 6)) [] [] (He.fAd K ("Field", some "times")) fd := F
  refine ⟨fd, fn_den (N := ["self", "a", "b"]) (ps := ["self", "a", "b"]) F sc_Field_times g_Field_times (fun cdv A outer s H E hr => ?_), FunD.bindsN F (fun _ _ _ _ _ _ us hl => match us, hl with | [_, _, _], _ => rfl), F.kp⟩
  have nd := sc_Field_times.nd
  exact (pds_one (ds_ret (pd_fmethO T.field (T.meth 127) (ok_Field_number_by T) (hr.mono (by first | decide | omega)) (pd_var 0) (pda_cons (pd_callO (ok_row_rest T) (hr.mono (by first | decide | omega)) (T.glo 48) (pda_cons (pd_fldP T.field T.na_p (pd_var 0)) (pda_cons (pd_callO (ok_row_times T) (hr.mono (by first | decide | omega)) (T.glo 47) (pda_cons (pd_fldP T.field T.na_p (pd_var 0)) (pda_cons (pd_fmethO T.field (T.meth 126) (ok_Field_digits T) (hr.mono (by first | decide | omega)) (pd_var 0) (pda_cons (pd_var 1) pda_nil)) (pda_cons (pd_fmethO T.field (T.meth 126) (ok_Field_digits T) (hr.mono (by first | decide | omega)) (pd_var 0) (pda_cons (pd_var 2) pda_nil)) pda_nil)))) (pda_cons (pd_fldRow T.field T.na_row (pd_var 0)) pda_nil)))) pda_nil))))
end
end EM
end
set_option maxHeartbeats 4000000
noncomputable section
namespace EM
open PySem PySem.Spec PyProof.Rows L2
section
variable {P : Program} {w : World} {K : PySem.W.Frag} {mg : Str → Option Value} {base : Heap}
/-! law_cell -/
theorem sc_law_cell : FnScope ["_law_script", "_law_k", "_law_state", "_law_cell_here"] ["_law_script", "_law_k"] (defScope (top 117)) := ⟨rfl, rfl, rfl, by decide +kernel, rfl, by decide +kernel, by decide +kernel⟩
def g_law_cell : Env → Option Res :=
  (sSeq (sIf (tOfD (bop gLt (dVar 1) (cll (aCons (dVar 0) aNil) gLen))) (sRet (bop gIx (dVar 0) (dVar 1))) sNil)
    (sSeq (sSet 2 (bop gMod (bop gMul (dC (.int 48271)) (bop gAdd (bop gAdd (bop gMul (dVar 1) (dVar 1)) (bop gMul (dC (.int 7)) (dVar 1))) (dC (.int 11)))) (dC (.int 2147483647))))
    (sSeq (sFor (iAny (dSl (dVar 0) oNone (oSome (dC (.int 3))))) (setN 3) (sSet 2 (bop gMod (bop gAdd (bop gMul (dVar 2) (dC (.int 69621))) (dVar 3)) (dC (.int 2147483647)))))
    (sRet (dVar 2)))))
def d_law_cell : List D → Option D := runD 2 4 g_law_cell
theorem ok_law_cell (T : TX K mg) : OkD P w K mg base 1 (He.fAd K ("_law_cell", none)) ["_law_script", "_law_k"] (spD K d_law_cell) := by
  obtain ⟨fd, F⟩ := T.says.def_ 91 (d := dd_law_cell) rfl
  have F : FunD K "_law_cell" "_law_cell" (defArgs (top 117)) (defBody (top 117)) (defScope (top 117)) [] [] (He.fAd K ("_law_cell", none)) fd := F
  refine ⟨fd, fn_den (N := ["_law_script", "_law_k", "_law_state", "_law_cell_here"]) (ps := ["_law_script", "_law_k"]) F sc_law_cell g_law_cell (fun cdv A outer s H E hr => ?_), FunD.bindsN F (fun _ _ _ _ _ _ us hl => match us, hl with | [_, _], _ => rfl), F.kp⟩
  have nd := sc_law_cell.nd
  exact (pds_cons (ds_if (pdt_cmp op_lt dr_lt (pd_var 1) (pd_callB call_len dr_len rfl (T.free 0) PySem.boot_len (pda_cons (pd_var 0) pda_nil))) (pds_one (ds_ret (pd_ix ix_or dr_ix (pd_var 0) (pd_var 1)))) pds_nil)
    (pds_cons (ds_set 2 nd (pd_op op_modN dr_mod (pd_op or_mul dr_mul pd_int (pd_op or_add dr_add (pd_op or_add dr_add (pd_op or_mul dr_mul (pd_var 1) (pd_var 1)) (pd_op or_mul dr_mul pd_int (pd_var 1))) pd_int)) pd_int))
    (pds_cons (ds_for PassesOwn.never (pdi_any (pd_sl (pd_var 0) pdo_none (pdo_some pd_int))) (dg_name 3 nd) (pds_one (ds_set 2 nd (pd_op op_modN dr_mod (pd_op or_add dr_add (pd_op or_mul dr_mul (pd_var 2) pd_int) (pd_var 3)) pd_int))))
    (pds_one (ds_ret (pd_var 2))))))
/-! law_numbers -/
theorem sc_law_numbers : FnScope ["_law_cell_here", "_law_many", "_law_found", "_law_state", "_law_digits", "_law_k"] ["_law_cell_here", "_law_many"] (defScope (top 118)) := ⟨rfl, rfl, rfl, by decide +kernel, rfl, by decide +kernel, by decide +kernel⟩
def g_law_numbers : Env → Option Res :=
  (sSeq (sSetN 2 (nLst aNil))
    (sSeq (sSet 3 (bop gMod (bop gMul (bop gAdd (bop gMod (dVar 0) (dC (.int 1999999973))) (dC (.int 31))) (dC (.int 765432101))) (dC (.int 1999999973))))
    (sSeq (sSet 4 (dC (.int 0)))
    (sSeq (sIf (tOrD (tOfD (bop gLt (dVar 0) (dC (.int 0)))) (tOfD (bop gGe (dVar 0) (bop gPow (dC (.int 10)) (dC (.int 18)))))) (sSet 4 (cll (aCons (dVar 0) aNil) gAbs)) sNil)
    (sSeq (sFor (iRg1 (aCons (dVar 1) aNil)) (setN 5) (sSeq (sSet 3 (bop gMod (bop gAdd (bop gAdd (bop gMul (dVar 3) (bop gAdd (bop gMod (dVar 3) (dC (.int 65521))) (dC (.int 40487)))) (bop gMul (dC (.int 7)) (dVar 5))) (dC (.int 5))) (dC (.int 1999999973))))
    (sSeq (sApp 2 (bop gIx (fun env => bnd ((nLst (aCons (dVar 3) (aCons (bop gMod (dVar 4) (dC (.int 1000000))) aNil))) env) fun ds => some (.lst ds)) (cll (aCons (bop gGt (dVar 4) (dC (.int 0))) aNil) gInt)))
    (sSet 4 (bop gDiv (dVar 4) (dC (.int 1000000)))))))
    (sFrz 2 (sRet (dVar 2))))))))
def d_law_numbers : List D → Option D := runD 2 6 g_law_numbers
theorem ok_law_numbers (T : TX K mg) : OkD P w K mg base 1 (He.fAd K ("_law_numbers", none)) ["_law_cell_here", "_law_many"] (spD K d_law_numbers) := by
  obtain ⟨fd, F⟩ := T.says.def_ 92 (d := dd_law_numbers) rfl
  have F : FunD K "_law_numbers" "_law_numbers" (defArgs (top 118)) (defBody (top 118)) (defScope (top 118)) [] [] (He.fAd K ("_law_numbers", none)) fd := F
  refine ⟨fd, fn_den (N := ["_law_cell_here", "_law_many", "_law_found", "_law_state", "_law_digits", "_law_k"]) (ps := ["_law_cell_here", "_law_many"]) F sc_law_numbers g_law_numbers (fun cdv A outer s H E hr => ?_), FunD.bindsN F (fun _ _ _ _ _ _ us hl => match us, hl with | [_, _], _ => rfl), F.kp⟩
  have nd := sc_law_numbers.nd
  exact (pds_cons (ds_setN 2 nd (pn_lst pda_nil))
    (pds_cons (ds_set 3 nd (pd_op op_modN dr_mod (pd_op or_mul dr_mul (pd_op or_add dr_add (pd_op op_modN dr_mod (pd_var 0) pd_int) pd_int) pd_int) pd_int))
    (pds_cons (ds_set 4 nd pd_int)
    (pds_cons (ds_if (pdw_pt (pdw_or (pdt_cmp op_lt dr_lt (pd_var 0) pd_int) (pdw_or1 (pdt_cmp op_ge dr_ge (pd_var 0) (pd_op op_pow dr_pow pd_int pd_int))))) (pds_one (ds_set 4 nd (pd_callB call_abs dr_abs rfl (T.free 11) (by decide +kernel) (pda_cons (pd_var 0) pda_nil)))) pds_nil)
    (pds_cons (ds_for PassesOwn.never (pdi_rg1 (T.free 1) (pda_cons (pd_var 1) pda_nil)) (dg_name 5 nd) (pds_cons (ds_set 3 nd (pd_op op_modN dr_mod (pd_op or_add dr_add (pd_op or_add dr_add (pd_op or_mul dr_mul (pd_var 3) (pd_op or_add dr_add (pd_op op_modN dr_mod (pd_var 3) pd_int) pd_int)) (pd_op or_mul dr_mul pd_int (pd_var 5))) pd_int) pd_int))
    (pds_cons (ds_app 2 (pd_ix ix_or dr_ix (pd_ofN (pn_lst (pda_cons (pd_var 3) (pda_cons (pd_op op_modN dr_mod (pd_var 4) pd_int) pda_nil)))) (pd_callTy call_int1 dr_int rfl (T.free 5) (by decide +kernel) (pda_cons (pd_cmp op_gt dr_gt (pd_var 4) pd_int) pda_nil))))
    (pds_one (ds_set 4 nd (pd_op op_fdivN dr_div (pd_var 4) pd_int))))))
    (pds_one (ds_frz 2 (ds_ret (pd_var 2)))))))))
/-! law_of_size -/
theorem sc_law_of_size : FnScope ["_law_x", "_law_many", "_law_size", "_law_left"] ["_law_x", "_law_many", "_law_size"] (defScope (top 119)) := ⟨rfl, rfl, rfl, by decide +kernel, rfl, by decide +kernel, by decide +kernel⟩
def g_law_of_size : Env → Option Res :=
  (sSeq (sSetN 3 (nListRg (dVar 1)))
    (sSeq (sWhile big (tOfD (bop gGt (dLenOwn 3) (dVar 2))) (sSeq (sPopAt 3 (bop gMod (dVar 0) (dLenOwn 3)))
    (sSet 0 (bop gAdd (bop gDiv (dVar 0) (dC (.int 5))) (dC (.int 7))))))
    (sFrz 3 (sRet (cll (aCons (dVar 3) aNil) gTuple)))))
def d_law_of_size : List D → Option D := runD 3 4 g_law_of_size
theorem ok_law_of_size (T : TX K mg) : OkD P w K mg base 1 (He.fAd K ("_law_of_size", none)) ["_law_x", "_law_many", "_law_size"] (spD K d_law_of_size) := by
  obtain ⟨fd, F⟩ := T.says.def_ 93 (d := dd_law_of_size) rfl
  have F : FunD K "_law_of_size" "_law_of_size" (defArgs (top 119)) (defBody (top 119)) (defScope (top 119)) [] [] (He.fAd K ("_law_of_size", none)) fd := F
  refine ⟨fd, fn_den (N := ["_law_x", "_law_many", "_law_size", "_law_left"]) (ps := ["_law_x", "_law_many", "_law_size"]) F sc_law_of_size g_law_of_size (fun cdv A outer s H E hr => ?_), FunD.bindsN F (fun _ _ _ _ _ _ us hl => match us, hl with | [_, _, _], _ => rfl), F.kp⟩
  have nd := sc_law_of_size.nd
  exact (pds_cons (ds_setN 3 nd (pn_listRg (T.free 2) (T.free 1) (pd_var 1)))
    (pds_cons (ds_while big PassesOwn.never (pdt_cmp op_gt dr_gt (pd_lenOwn 3 (hm := (T.free 0))) (pd_var 2)) (pds_cons (ds_popAt 3 (pd_op op_modN dr_mod (pd_var 0) (pd_lenOwn 3 (hm := (T.free 0)))))
    (pds_one (ds_set 0 nd (pd_op or_add dr_add (pd_op op_fdivN dr_div (pd_var 0) pd_int) pd_int)))))
    (pds_one (ds_frz 3 (ds_ret (pd_callTy call_tuple_of dr_tuple rfl (T.free 3) (by decide +kernel) (pda_cons (pd_var 3) pda_nil)))))))
/-! law_far_wish -/
theorem sc_law_far_wish : FnScope ["_law_x", "_law_q", "_law_v", "_law_k", "_law_l"] ["_law_x"] (defScope (top 120)) := ⟨rfl, rfl, rfl, by decide +kernel, rfl, by decide +kernel, by decide +kernel⟩
def g_law_far_wish : Env → Option Res :=
  (sSeq (sSet 1 (bop gIx (fun env => bnd ((nLst (aCons (dC (.int 2)) (aCons (dC (.int 3)) (aCons (dC (.int 4)) (aCons (dC (.int 2)) (aCons (dC (.int 3)) (aCons (dC (.int 5)) (aCons (dC (.int 2)) (aCons (dC (.int 3)) (aCons (dC (.int 4)) (aCons (dC (.int 7)) aNil))))))))))) env) fun ds => some (.lst ds)) (bop gMod (bop gIx (dVar 0) (dC (.int 0))) (dC (.int 10)))))
    (sSeq (fun env => bnd ((bop gIx (fun env => bnd ((nLst (aCons (dTup (aCons (bop gAdd (bop gAdd (bop gMul (dVar 1) (dVar 1)) (dVar 1)) (dC (.int 1))) (aCons (bop gAdd (dVar 1) (dC (.int 1))) (aCons (dC (.int 1)) aNil)))) (aCons (dTup (aCons (bop gMul (dVar 1) (dVar 1)) (aCons (dVar 1) (aCons (dC (.int 1)) aNil)))) aNil))) env) fun ds => some (.lst ds)) (bop gMod (bop gIx (dVar 0) (dC (.int 1))) (dC (.int 2)))) env) fun d => bnd ((setT [2, 3, 4]) d env) fun e => some (.nx e))
    (sSeq (sIf (tOfD (bop gEq (bop gMod (bop gIx (dVar 0) (dC (.int 2))) (dC (.int 3))) (dC (.int 1)))) (sSeq (sSet 4 (bop gIx (fun env => bnd ((nLst (aCons (bop gSub (bop gMul (dVar 1) (dVar 1)) (dVar 1)) (aCons (bop gSub (bop gMul (dVar 1) (dVar 1)) (dC (.int 1))) aNil))) env) fun ds => some (.lst ds)) (bop gMod (bop gIx (dVar 0) (dC (.int 1))) (dC (.int 2)))))
    (sSet 3 (bop gSub (dVar 2) (dVar 3)))) sNil)
    (sSeq (sIf (tOfD (bop gEq (bop gMod (bop gIx (dVar 0) (dC (.int 2))) (dC (.int 3))) (dC (.int 2)))) (sSeq (sSet 2 (bop gAdd (dC (.int 2)) (bop gMod (bop gIx (dVar 0) (dC (.int 0))) (bop gIx (fun env => bnd ((nLst (aCons (dC (.int 59)) (aCons (dC (.int 199)) aNil))) env) fun ds => some (.lst ds)) (bop gMod (bop gIx (dVar 0) (dC (.int 6))) (dC (.int 2)))))))
    (sSeq (sSet 3 (bop gIx (fun env => bnd ((nLst (aCons (dC (.int 2)) (aCons (cll (aCons (dC (.int 2)) (aCons (bop gSub (dVar 2) (dC (.int 1))) aNil)) gMax2) (aCons (dVar 2) (aCons (bop gAdd (dC (.int 2)) (bop gMod (bop gIx (dVar 0) (dC (.int 1))) (bop gSub (dVar 2) (dC (.int 1))))) aNil))))) env) fun ds => some (.lst ds)) (bop gMod (bop gIx (dVar 0) (dC (.int 1))) (dC (.int 4)))))
    (sSet 4 (bop gAdd (dC (.int 1)) (bop gMod (bop gIx (dVar 0) (dC (.int 3))) (bop gIx (fun env => bnd ((nLst (aCons (dC (.int 6)) (aCons (dVar 2) aNil))) env) fun ds => some (.lst ds)) (bop gMod (bop gIx (dVar 0) (dC (.int 4))) (dC (.int 2))))))))) sNil)
    (sRet (dTup (aCons (dVar 2) (aCons (dVar 3) (aCons (bop gIx (fun env => bnd ((nLst (aCons (dVar 4) (aCons (bop gMul (dC (.int 2)) (dVar 4)) (aCons (dVar 4) (aCons (bop gAdd (dVar 4) (dC (.int 1))) aNil))))) env) fun ds => some (.lst ds)) (bop gMod (bop gIx (dVar 0) (dC (.int 5))) (dC (.int 4)))) (aCons (dTup aNil) aNil))))))))))
def d_law_far_wish : List D → Option D := runD 1 5 g_law_far_wish
theorem ok_law_far_wish (T : TX K mg) : OkD P w K mg base 1 (He.fAd K ("_law_far_wish", none)) ["_law_x"] (spD K d_law_far_wish) := by
  obtain ⟨fd, F⟩ := T.says.def_ 94 (d := dd_law_far_wish) rfl
  have F : FunD K "_law_far_wish" "_law_far_wish" (defArgs (top 120)) (defBody (top 120)) (defScope (top 120)) [] [] (He.fAd K ("_law_far_wish", none)) fd := F
  refine ⟨fd, fn_den (N := ["_law_x", "_law_q", "_law_v", "_law_k", "_law_l"]) (ps := ["_law_x"]) F sc_law_far_wish g_law_far_wish (fun cdv A outer s H E hr => ?_), FunD.bindsN F (fun _ _ _ _ _ _ us hl => match us, hl with | [_], _ => rfl), F.kp⟩
  have nd := sc_law_far_wish.nd
  exact (pds_cons (ds_set 1 nd (pd_ix ix_or dr_ix (pd_ofN (pn_lst (pda_cons pd_int (pda_cons pd_int (pda_cons pd_int (pda_cons pd_int (pda_cons pd_int (pda_cons pd_int (pda_cons pd_int (pda_cons pd_int (pda_cons pd_int (pda_cons pd_int pda_nil)))))))))))) (pd_op op_modN dr_mod (pd_ix ix_or dr_ix (pd_var 0) pd_int) pd_int)))
    (pds_cons (ds_asg (pd_ix ix_or dr_ix (pd_ofN (pn_lst (pda_cons (pd_tup (pda_cons (pd_op or_add dr_add (pd_op or_add dr_add (pd_op or_mul dr_mul (pd_var 1) (pd_var 1)) (pd_var 1)) pd_int) (pda_cons (pd_op or_add dr_add (pd_var 1) pd_int) (pda_cons pd_int pda_nil)))) (pda_cons (pd_tup (pda_cons (pd_op or_mul dr_mul (pd_var 1) (pd_var 1)) (pda_cons (pd_var 1) (pda_cons pd_int pda_nil)))) pda_nil)))) (pd_op op_modN dr_mod (pd_ix ix_or dr_ix (pd_var 0) pd_int) pd_int)) (dg_tup (dgs_cons 2 nd (dgs_cons 3 nd (dgs_cons 4 nd dgs_nil)))))
    (pds_cons (ds_if (pdt_cmp (op_eqM hr.units) dr_eq (pd_op op_modN dr_mod (pd_ix ix_or dr_ix (pd_var 0) pd_int) pd_int) pd_int) (pds_cons (ds_set 4 nd (pd_ix ix_or dr_ix (pd_ofN (pn_lst (pda_cons (pd_op op_sub dr_sub (pd_op or_mul dr_mul (pd_var 1) (pd_var 1)) (pd_var 1)) (pda_cons (pd_op op_sub dr_sub (pd_op or_mul dr_mul (pd_var 1) (pd_var 1)) pd_int) pda_nil)))) (pd_op op_modN dr_mod (pd_ix ix_or dr_ix (pd_var 0) pd_int) pd_int)))
    (pds_one (ds_set 3 nd (pd_op op_sub dr_sub (pd_var 2) (pd_var 3))))) pds_nil)
    (pds_cons (ds_if (pdt_cmp (op_eqM hr.units) dr_eq (pd_op op_modN dr_mod (pd_ix ix_or dr_ix (pd_var 0) pd_int) pd_int) pd_int) (pds_cons (ds_set 2 nd (pd_op or_add dr_add pd_int (pd_op op_modN dr_mod (pd_ix ix_or dr_ix (pd_var 0) pd_int) (pd_ix ix_or dr_ix (pd_ofN (pn_lst (pda_cons pd_int (pda_cons pd_int pda_nil)))) (pd_op op_modN dr_mod (pd_ix ix_or dr_ix (pd_var 0) pd_int) pd_int)))))
    (pds_cons (ds_set 3 nd (pd_ix ix_or dr_ix (pd_ofN (pn_lst (pda_cons pd_int (pda_cons (pd_callB (call_max2 rfl) dr_max2 rfl (T.free 13) (by decide +kernel) (pda_cons pd_int (pda_cons (pd_op op_sub dr_sub (pd_var 2) pd_int) pda_nil))) (pda_cons (pd_var 2) (pda_cons (pd_op or_add dr_add pd_int (pd_op op_modN dr_mod (pd_ix ix_or dr_ix (pd_var 0) pd_int) (pd_op op_sub dr_sub (pd_var 2) pd_int))) pda_nil)))))) (pd_op op_modN dr_mod (pd_ix ix_or dr_ix (pd_var 0) pd_int) pd_int)))
    (pds_one (ds_set 4 nd (pd_op or_add dr_add pd_int (pd_op op_modN dr_mod (pd_ix ix_or dr_ix (pd_var 0) pd_int) (pd_ix ix_or dr_ix (pd_ofN (pn_lst (pda_cons pd_int (pda_cons (pd_var 2) pda_nil)))) (pd_op op_modN dr_mod (pd_ix ix_or dr_ix (pd_var 0) pd_int) pd_int)))))))) pds_nil)
    (pds_one (ds_ret (pd_tup (pda_cons (pd_var 2) (pda_cons (pd_var 3) (pda_cons (pd_ix ix_or dr_ix (pd_ofN (pn_lst (pda_cons (pd_var 4) (pda_cons (pd_op or_mul dr_mul pd_int (pd_var 4)) (pda_cons (pd_var 4) (pda_cons (pd_op or_add dr_add (pd_var 4) pd_int) pda_nil)))))) (pd_op op_modN dr_mod (pd_ix ix_or dr_ix (pd_var 0) pd_int) pd_int)) (pda_cons (pd_tup pda_nil) pda_nil)))))))))))
/-! law_near_wish -/
theorem sc_law_near_wish : FnScope ["_law_x", "_law_v", "_law_k", "_law_blocks", "_law_y"] ["_law_x"] (defScope (top 121)) := ⟨rfl, rfl, rfl, by decide +kernel, rfl, by decide +kernel, by decide +kernel⟩
def g_law_near_wish : Env → Option Res :=
  (sSeq (sSet 1 (bop gAdd (dC (.int 3)) (bop gMod (bop gIx (dVar 0) (dC (.int 0))) (dC (.int 5)))))
    (sSeq (sSet 2 (bop gAdd (dC (.int 2)) (bop gMod (bop gIx (dVar 0) (dC (.int 1))) (dC (.int 3)))))
    (sSeq (sSet 2 (cll (aCons (dVar 2) (aCons (dVar 1) aNil)) gMin2))
    (sSeq (sSetN 3 (nLst aNil))
    (sSeq (sFor (iAny (dSl (dVar 0) (oSome (dC (.int 4))) (oSome (bop gAdd (dC (.int 4)) (bop gMod (bop gIx (dVar 0) (dC (.int 2))) (dC (.int 5))))))) (setN 4) (sApp 3 (cll (aCons (dVar 4) (aCons (dVar 1) (aCons (dVar 2) aNil))) d_law_of_size)))
    (sFrz 3 (sRet (dTup (aCons (dVar 1) (aCons (dVar 2) (aCons (bop gAdd (dC (.int 1)) (bop gMod (bop gIx (dVar 0) (dC (.int 3))) (dC (.int 3)))) (aCons (cll (aCons (dVar 3) aNil) gTuple) aNil))))))))))))
def d_law_near_wish : List D → Option D := runD 1 5 g_law_near_wish
theorem ok_law_near_wish (T : TX K mg) : OkD P w K mg base 2 (He.fAd K ("_law_near_wish", none)) ["_law_x"] (spD K d_law_near_wish) := by
  obtain ⟨fd, F⟩ := T.says.def_ 95 (d := dd_law_near_wish) rfl
  have F : FunD K "_law_near_wish" "_law_near_wish" (defArgs (top 121)) (defBody (top 121)) (defScope (top 121)) [] [] (He.fAd K ("_law_near_wish", none)) fd := F
  refine ⟨fd, fn_den (N := ["_law_x", "_law_v", "_law_k", "_law_blocks", "_law_y"]) (ps := ["_law_x"]) F sc_law_near_wish g_law_near_wish (fun cdv A outer s H E hr => ?_), FunD.bindsN F (fun _ _ _ _ _ _ us hl => match us, hl with | [_], _ => rfl), F.kp⟩
  have nd := sc_law_near_wish.nd
  exact (pds_cons (ds_set 1 nd (pd_op or_add dr_add pd_int (pd_op op_modN dr_mod (pd_ix ix_or dr_ix (pd_var 0) pd_int) pd_int)))
    (pds_cons (ds_set 2 nd (pd_op or_add dr_add pd_int (pd_op op_modN dr_mod (pd_ix ix_or dr_ix (pd_var 0) pd_int) pd_int)))
    (pds_cons (ds_set 2 nd (pd_callB (call_min2 rfl) dr_min2 rfl (T.free 12) (by decide +kernel) (pda_cons (pd_var 2) (pda_cons (pd_var 1) pda_nil))))
    (pds_cons (ds_setN 3 nd (pn_lst pda_nil))
    (pds_cons (ds_for PassesOwn.never (pdi_any (pd_sl (pd_var 0) (pdo_some pd_int) (pdo_some (pd_op or_add dr_add pd_int (pd_op op_modN dr_mod (pd_ix ix_or dr_ix (pd_var 0) pd_int) pd_int))))) (dg_name 4 nd) (pds_one (ds_app 3 (pd_callO (ok_law_of_size T) (hr.mono (by first | decide | omega)) (T.glo 103) (pda_cons (pd_var 4) (pda_cons (pd_var 1) (pda_cons (pd_var 2) pda_nil)))))))
    (pds_one (ds_frz 3 (ds_ret (pd_tup (pda_cons (pd_var 1) (pda_cons (pd_var 2) (pda_cons (pd_op or_add dr_add pd_int (pd_op op_modN dr_mod (pd_ix ix_or dr_ix (pd_var 0) pd_int) pd_int)) (pda_cons (pd_callTy call_tuple_of dr_tuple rfl (T.free 3) (by decide +kernel) (pda_cons (pd_var 3) pda_nil)) pda_nil)))))))))))))
end
end EM
end
set_option maxHeartbeats 4000000
noncomputable section
namespace EM
open PySem PySem.Spec PyProof.Rows L2
section
variable {P : Program} {w : World} {K : PySem.W.Frag} {mg : Str → Option Value} {base : Heap}
/-! check_bases -/
theorem sc_check_bases : FnScope ["n", "bases", "place"] ["n", "bases"] (defScope (top 27)) := ⟨rfl, rfl, rfl, by decide +kernel, rfl, by decide +kernel, by decide +kernel⟩
def g_check_bases : Env → Option Res :=
  (sSeq (sIf (tOrD (tNotD (tOfD (cll (aCons (dVar 0) aNil) d_is_whole_numbers))) (tOrD (tNotD (tOfD (dChain gLe gLe (dC (.int 1)) (dVar 0) (dC (.int 60))))) (tOfD (bop gGt (bop gMul (dVar 0) (cll (aCons (dVar 1) aNil) gLen)) (dC (.int 200)))))) sNever sNil)
    (sFor (iRg1 (aCons (cll (aCons (dVar 1) aNil) gLen) aNil)) (setN 2) (sIf (tNotD (tOfD (cll (aCons (bop gIx (dVar 1) (dVar 2)) (aCons (dVar 0) aNil)) d_is_block))) sNever sNil)))
def d_check_bases : List D → Option D := runD 2 3 g_check_bases
theorem ok_check_bases (T : TX K mg) : OkD P w K mg base 4 (He.fAd K ("check_bases", none)) ["n", "bases"] (spD K d_check_bases) := by
  obtain ⟨fd, F⟩ := T.says.def_ 12 (d := dd_check_bases) rfl
  have F : FunD K "check_bases" "check_bases" (defArgs (top 27)) (defBody (top 27)) (defScope (top 27)) [] [] (He.fAd K ("check_bases", none)) fd := F
  refine ⟨fd, fn_den (N := ["n", "bases", "place"]) (ps := ["n", "bases"]) F sc_check_bases g_check_bases (fun cdv A outer s H E hr => ?_), FunD.bindsN F (fun _ _ _ _ _ _ us hl => match us, hl with | [_, _], _ => rfl), F.kp⟩
  have nd := sc_check_bases.nd
  exact (pds_cons (ds_if (pdw_pt (pdw_or (pdt_not (pdt_val (pd_callO (ok_is_whole_numbers T) (hr.mono (by first | decide | omega)) (T.glo 28) (pda_cons (pd_var 0) pda_nil)))) (pdw_or (pdt_not (pdt_chain op_le dr_le op_le dr_le pd_int (pd_var 0) (T.cst 15 rfl))) (pdw_or1 (pdt_cmp op_gt dr_gt (pd_op or_mul dr_mul (pd_var 0) (pd_callB call_len dr_len rfl (T.free 0) PySem.boot_len (pda_cons (pd_var 1) pda_nil))) (T.cst 16 rfl)))))) pds_never pds_nil)
    (pds_one (ds_for PassesOwn.never (pdi_rg1 (T.free 1) (pda_cons (pd_callB call_len dr_len rfl (T.free 0) PySem.boot_len (pda_cons (pd_var 1) pda_nil)) pda_nil)) (dg_name 2 nd) (pds_one (ds_if (pdt_not (pdt_val (pd_callO (ok_is_block T) (hr.mono (by first | decide | omega)) (T.glo 26) (pda_cons (pd_ix ix_or dr_ix (pd_var 1) (pd_var 2)) (pda_cons (pd_var 0) pda_nil))))) pds_never pds_nil)))))
/-! turned -/
theorem sc_turned : FnScope ["block", "by", "n", "point"] ["block", "by", "n"] (defScope (top 28)) := ⟨rfl, rfl, rfl, by decide +kernel, rfl, by decide +kernel, by decide +kernel⟩
def g_turned : Env → Option Res :=
  (sRet (cll (aCons (fun env => bnd ((clN (aCons (fun env => bnd ((nLc [3] (iAny (dVar 0)) (setN 3) tYesD (bop gMod (bop gAdd (dVar 3) (dVar 1)) (dVar 2))) env) fun ds => some (.lst ds)) aNil) gSortedI) env) fun ds => some (.lst ds)) aNil) gTuple))
def d_turned : List D → Option D := runD 3 4 g_turned
theorem ok_turned (T : TX K mg) : OkD P w K mg base 1 (He.fAd K ("turned", none)) ["block", "by", "n"] (spD K d_turned) := by
  obtain ⟨fd, F⟩ := T.says.def_ 13 (d := dd_turned) rfl
  have F : FunD K "turned" "turned" (defArgs (top 28)) (defBody (top 28)) (defScope (top 28)) [] [] (He.fAd K ("turned", none)) fd := F
  refine ⟨fd, fn_den (N := ["block", "by", "n", "point"]) (ps := ["block", "by", "n"]) F sc_turned g_turned (fun cdv A outer s H E hr => ?_), FunD.bindsN F (fun _ _ _ _ _ _ us hl => match us, hl with | [_, _, _], _ => rfl), F.kp⟩
  have nd := sc_turned.nd
  exact (pds_one (ds_ret (pd_callTy call_tuple_of dr_tuple rfl (T.free 3) (by decide +kernel) (pda_cons (pd_ofN (pn_sortedI (T.free 9) (pda_cons (pd_ofN (pn_lc [("point", 3)] nd (tgOk_name 3) (pdi_any (pd_var 0)) (blkOk_by (by kernel_rfl)) (fun _ _ _ _ _ => pg_name (i := 3) nd rfl (by first | exact Or.inl rfl | exact Or.inr rfl)) (fun _ _ _ _ _ => pts_no) (fun _ _ _ _ _ => (pd_op op_modN dr_mod (pd_op or_add dr_add (pd_var 3) (pd_var 1)) (pd_var 2))))) pda_nil))) pda_nil))))
/-! developed -/
theorem sc_developed : FnScope ["n", "bases", "blocks", "base", "by"] ["n", "bases"] (defScope (top 29)) := ⟨rfl, rfl, rfl, by decide +kernel, rfl, by decide +kernel, by decide +kernel⟩
def g_developed : Env → Option Res :=
  (sSeq (sDrop (cll (aCons (dVar 0) (aCons (dVar 1) aNil)) d_check_bases))
    (sSeq (sSetN 2 (nLst aNil))
    (sSeq (sFor (iAny (dVar 1)) (setN 3) (sExt 2 (fun env => bnd ((nLc [4] (iRg1 (aCons (dVar 0) aNil)) (setN 4) tYesD (cll (aCons (dVar 3) (aCons (dVar 4) (aCons (dVar 0) aNil))) d_turned)) env) fun ds => some (.lst ds))))
    (sFrz 2 (sRet (dTup (aCons (dVar 0) (aCons (cll (aCons (dVar 2) aNil) gTuple) aNil))))))))
def d_developed : List D → Option D := runD 2 5 g_developed
theorem ok_developed (T : TX K mg) : OkD P w K mg base 5 (He.fAd K ("developed", none)) ["n", "bases"] (spD K d_developed) := by
  obtain ⟨fd, F⟩ := T.says.def_ 14 (d := dd_developed) rfl
  have F : FunD K "developed" "developed" (defArgs (top 29)) (defBody (top 29)) (defScope (top 29)) [] [] (He.fAd K ("developed", none)) fd := F
  refine ⟨fd, fn_den (N := ["n", "bases", "blocks", "base", "by"]) (ps := ["n", "bases"]) F sc_developed g_developed (fun cdv A outer s H E hr => ?_), FunD.bindsN F (fun _ _ _ _ _ _ us hl => match us, hl with | [_, _], _ => rfl), F.kp⟩
  have nd := sc_developed.nd
  exact (pds_cons (ds_drop (pd_callO (ok_check_bases T) (hr.mono (by first | decide | omega)) (T.glo 36) (pda_cons (pd_var 0) (pda_cons (pd_var 1) pda_nil))))
    (pds_cons (ds_setN 2 nd (pn_lst pda_nil))
    (pds_cons (ds_for PassesOwn.never (pdi_any (pd_var 1)) (dg_name 3 nd) (pds_one (ds_ext 2 (pd_ofN (pn_lc [("by", 4)] nd (tgOk_name 4) (pdi_rg1 (T.free 1) (pda_cons (pd_var 0) pda_nil)) (blkOk_by (by kernel_rfl)) (fun _ _ _ _ _ => pg_name (i := 4) nd rfl (by first | exact Or.inl rfl | exact Or.inr rfl)) (fun _ _ _ _ _ => pts_no) (fun _ _ _ _ _ => (pd_callO (ok_turned T) (hr.mono (by first | decide | omega)) (T.glo 37) (pda_cons (pd_var 3) (pda_cons (pd_var 4) (pda_cons (pd_var 0) pda_nil))))))))))
    (pds_one (ds_frz 2 (ds_ret (pd_tup (pda_cons (pd_var 0) (pda_cons (pd_callTy call_tuple_of dr_tuple rfl (T.free 3) (by decide +kernel) (pda_cons (pd_var 2) pda_nil)) pda_nil)))))))))
/-! differences -/
theorem sc_differences : FnScope ["n", "bases", "found", "base", "one", "other"] ["n", "bases"] (defScope (top 30)) := ⟨rfl, rfl, rfl, by decide +kernel, rfl, by decide +kernel, by decide +kernel⟩
def g_differences : Env → Option Res :=
  (sSeq (sDrop (cll (aCons (dVar 0) (aCons (dVar 1) aNil)) d_check_bases))
    (sSeq (sSetN 2 (nRep (fun env => bnd ((nLst (aCons (dC (.int 0)) aNil)) env) fun ds => some (.lst ds)) (dVar 0)))
    (sSeq (sFor (iAny (dVar 1)) (setN 3) (sFor (iAny (dVar 3)) (setN 4) (sFor (iAny (dVar 3)) (setN 5) (sPut 2 (bop gMod (bop gSub (dVar 4) (dVar 5)) (dVar 0)) (bop gAdd (dIxOwn 2 (bop gMod (bop gSub (dVar 4) (dVar 5)) (dVar 0))) (dC (.int 1)))))))
    (sFrz 2 (sRet (dSl (dVar 2) (oSome (dC (.int 1))) oNone))))))
def d_differences : List D → Option D := runD 2 6 g_differences
theorem ok_differences (T : TX K mg) : OkD P w K mg base 5 (He.fAd K ("differences", none)) ["n", "bases"] (spD K d_differences) := by
  obtain ⟨fd, F⟩ := T.says.def_ 15 (d := dd_differences) rfl
  have F : FunD K "differences" "differences" (defArgs (top 30)) (defBody (top 30)) (defScope (top 30)) [] [] (He.fAd K ("differences", none)) fd := F
  refine ⟨fd, fn_den (N := ["n", "bases", "found", "base", "one", "other"]) (ps := ["n", "bases"]) F sc_differences g_differences (fun cdv A outer s H E hr => ?_), FunD.bindsN F (fun _ _ _ _ _ _ us hl => match us, hl with | [_, _], _ => rfl), F.kp⟩
  have nd := sc_differences.nd
  exact (pds_cons (ds_drop (pd_callO (ok_check_bases T) (hr.mono (by first | decide | omega)) (T.glo 36) (pda_cons (pd_var 0) (pda_cons (pd_var 1) pda_nil))))
    (pds_cons (ds_setN 2 nd (pn_rep (pd_ofN (pn_lst (pda_cons pd_int pda_nil))) (pd_var 0)))
    (pds_cons (ds_for PassesOwn.never (pdi_any (pd_var 1)) (dg_name 3 nd) (pds_one (ds_for PassesOwn.never (pdi_any (pd_var 3)) (dg_name 4 nd) (pds_one (ds_for PassesOwn.never (pdi_any (pd_var 3)) (dg_name 5 nd) (pds_one (ds_put 2 (pd_op op_modN dr_mod (pd_op op_sub dr_sub (pd_var 4) (pd_var 5)) (pd_var 0)) (pd_op or_add dr_add (pd_ixOwn 2 (pd_op op_modN dr_mod (pd_op op_sub dr_sub (pd_var 4) (pd_var 5)) (pd_var 0))) pd_int))))))))
    (pds_one (ds_frz 2 (ds_ret (pd_sl (pd_var 2) (pdo_some pd_int) pdo_none)))))))
/-! sets_with_nought -/
theorem sc_sets_with_nought : FnScope ["n", "k", "found", "turn", "longer", "some", "other"] ["n", "k"] (defScope (top 32)) := ⟨rfl, rfl, rfl, by decide +kernel, rfl, by decide +kernel, by decide +kernel⟩
def g_sets_with_nought : Env → Option Res :=
  (sSeq (sSet 2 (fun env => bnd ((nLst (aCons (dTup (aCons (dC (.int 0)) aNil)) aNil)) env) fun ds => some (.lst ds)))
    (sSeq (sFor (iRg1 (aCons (bop gSub (dVar 1) (dC (.int 1))) aNil)) (setN 3) (sSeq (sSetN 4 (nLst aNil))
    (sSeq (sFor (iAny (dVar 2)) (setN 5) (sExt 4 (fun env => bnd ((nLc [6] (iRg2 (aCons (bop gAdd (bop gIx (dVar 5) (uop gNeg (dC (.int 1)))) (dC (.int 1))) (aCons (dVar 0) aNil))) (setN 6) tYesD (bop gAdd (dVar 5) (dTup (aCons (dVar 6) aNil)))) env) fun ds => some (.lst ds))))
    (sFrz 4 (sSet 2 (dVar 4))))))
    (sRet (dVar 2))))
def d_sets_with_nought : List D → Option D := runD 2 7 g_sets_with_nought
theorem ok_sets_with_nought (T : TX K mg) : OkD P w K mg base 1 (He.fAd K ("sets_with_nought", none)) ["n", "k"] (spD K d_sets_with_nought) := by
  obtain ⟨fd, F⟩ := T.says.def_ 16 (d := dd_sets_with_nought) rfl
  have F : FunD K "sets_with_nought" "sets_with_nought" (defArgs (top 32)) (defBody (top 32)) (defScope (top 32)) [] [] (He.fAd K ("sets_with_nought", none)) fd := F
  refine ⟨fd, fn_den (N := ["n", "k", "found", "turn", "longer", "some", "other"]) (ps := ["n", "k"]) F sc_sets_with_nought g_sets_with_nought (fun cdv A outer s H E hr => ?_), FunD.bindsN F (fun _ _ _ _ _ _ us hl => match us, hl with | [_, _], _ => rfl), F.kp⟩
  have nd := sc_sets_with_nought.nd
  exact (pds_cons (ds_set 2 nd (pd_ofN (pn_lst (pda_cons (pd_tup (pda_cons pd_int pda_nil)) pda_nil))))
    (pds_cons (ds_for PassesOwn.never (pdi_rg1 (T.free 1) (pda_cons (pd_op op_sub dr_sub (pd_var 1) pd_int) pda_nil)) (dg_name 3 nd) (pds_cons (ds_setN 4 nd (pn_lst pda_nil))
    (pds_cons (ds_for PassesOwn.never (pdi_any (pd_var 2)) (dg_name 5 nd) (pds_one (ds_ext 4 (pd_ofN (pn_lc [("other", 6)] nd (tgOk_name 6) (pdi_rg2 (T.free 1) (pda_cons (pd_op or_add dr_add (pd_ix ix_or dr_ix (pd_var 5) (pd_un un_neg dr_neg pd_int)) pd_int) (pda_cons (pd_var 0) pda_nil))) (blkOk_by (by kernel_rfl)) (fun _ _ _ _ _ => pg_name (i := 6) nd rfl (by first | exact Or.inl rfl | exact Or.inr rfl)) (fun _ _ _ _ _ => pts_no) (fun _ _ _ _ _ => (pd_op or_add dr_add (pd_var 5) (pd_tup (pda_cons (pd_var 6) pda_nil)))))))))
    (pds_one (ds_frz 4 (ds_set 2 nd (pd_var 4)))))))
    (pds_one (ds_ret (pd_var 2)))))
/-! gone_on -/
theorem sc_gone_on : FnScope ["lacks", "many", "rows", "spot", "base", "row", "left", "found", "lack", "here"] ["lacks", "many", "rows"] (defScope (top 33)) := ⟨rfl, rfl, rfl, by decide +kernel, rfl, by decide +kernel, by decide +kernel⟩
def g_gone_on (self_ : List D → Option D) : Env → Option Res :=
  (sSeq (sIf (tOfD (bop gEq (dVar 1) (dC (.int 0)))) (sRet (dIf (tOfD (bop gEq (cll (aCons (dVar 0) aNil) gMaxL) (dC (.int 0)))) (fun env => bnd ((nLst aNil) env) fun ds => some (.lst ds)) (dC .non))) sNil)
    (sSeq (sSet 3 (bop gIndex (dVar 0) (cll (aCons (dVar 0) aNil) gMaxL)))
    (sSeq (sFor (iAny (dVar 2)) (setT [4, 5]) (sSeq (sSet 6 fun env => bnd ((nLc [8, 9] (iZip (aCons (dVar 0) (aCons (dVar 5) aNil))) (setT [8, 9]) tYesD (bop gSub (dVar 8) (dVar 9))) env) fun ds => some (.lst ds))
    (sIf (tAndD (tOfD (bop gGt (bop gIx (dVar 5) (dVar 3)) (dC (.int 0)))) (tOfD (bop gGe (cll (aCons (dVar 6) aNil) gMinL) (dC (.int 0))))) (sSeq (sSet 7 (cll (aCons (dVar 6) (aCons (bop gSub (dVar 1) (dC (.int 1))) (aCons (dVar 2) aNil))) self_))
    (sIf (tOfD (bop gNotN (dVar 7) (dC .non))) (sRet (bop gAdd (fun env => bnd ((nLst (aCons (fun env => bnd ((clN (aCons (dVar 4) aNil) gList) env) fun ds => some (.lst ds)) aNil)) env) fun ds => some (.lst ds)) (dVar 7))) sNil)) sNil)))
    (sRet (dC .non)))))
def d_gone_on : Nat → List D → Option D
  | 0 => fun _ => none
  | n + 1 => runD 3 10 (g_gone_on (d_gone_on n))
theorem ok_gone_on (T : TX K mg) : ∀ n : Nat, OkD P w K mg base (n + 0) (He.fAd K ("gone_on", none)) ["lacks", "many", "rows"] (spD K (d_gone_on n))
  | 0 => by
    obtain ⟨fd, F⟩ := T.says.def_ 17 (d := dd_gone_on) rfl
    have F : FunD K "gone_on" "gone_on" (defArgs (top 33)) (defBody (top 33)) (defScope (top 33)) [] [] (He.fAd K ("gone_on", none)) fd := F
    exact okD_none F.kp (FunD.bindsN F (fun _ _ _ _ _ _ us hl => match us, hl with | [_, _, _], _ => rfl))
  | n + 1 => by
    obtain ⟨fd, F⟩ := T.says.def_ 17 (d := dd_gone_on) rfl
    have F : FunD K "gone_on" "gone_on" (defArgs (top 33)) (defBody (top 33)) (defScope (top 33)) [] [] (He.fAd K ("gone_on", none)) fd := F
    have IH := ok_gone_on T n
    have hl : n + 1 + 0 = (n + 0) + 1 := by omega
    rw [hl]
    refine ⟨fd, fn_den (N := ["lacks", "many", "rows", "spot", "base", "row", "left", "found", "lack", "here"]) (ps := ["lacks", "many", "rows"]) F sc_gone_on (g_gone_on (d_gone_on n)) (fun cdv A outer s H E hr => ?_), FunD.bindsN F (fun _ _ _ _ _ _ us hl => match us, hl with | [_, _, _], _ => rfl), F.kp⟩
    have nd := sc_gone_on.nd
    exact (pds_cons (ds_if (pdt_cmp (op_eqM hr.units) dr_eq (pd_var 1) pd_int) (pds_one (ds_ret (pd_if (pdt_cmp (op_eqM hr.units) dr_eq (pd_callB (cr_max rfl) dr_maxL rfl (T.free 13) (by decide +kernel) (pda_cons (pd_var 0) pda_nil)) pd_int) (pd_ofN (pn_lst pda_nil)) pd_non))) pds_nil)
    (pds_cons (ds_set 3 nd (pd_index (pd_var 0) (pd_callB (cr_max rfl) dr_maxL rfl (T.free 13) (by decide +kernel) (pda_cons (pd_var 0) pda_nil))))
    (pds_cons (ds_for PassesOwn.never (pdi_any (pd_var 2)) (dg_tup (dgs_cons 4 nd (dgs_cons 5 nd dgs_nil))) (pds_cons (ds_setLcF 6 [("lack", 8), ("here", 9)] nd (tgOk_pair 8 9 (by decide)) (pdi_zip (T.free 8) (pda_cons (pd_var 0) (pda_cons (pd_var 5) pda_nil))) (blkOk_by (by kernel_rfl)) (fun _ _ _ _ _ => pg_tup rfl (pgs_cons (pg_name (i := 8) nd rfl (by first | exact Or.inl rfl | exact Or.inr rfl)) (pgs_cons (pg_name (i := 9) nd rfl (by first | exact Or.inl rfl | exact Or.inr rfl)) pgs_nil))) (fun _ _ _ _ _ => pts_no) (fun _ _ _ _ _ => (pd_op op_sub dr_sub (pd_var 8) (pd_var 9))))
    (pds_one (ds_if (pdw_pt (pdw_and (pdt_cmp op_gt dr_gt (pd_ix ix_or dr_ix (pd_var 5) (pd_var 3)) pd_int) (pdw_and1 (pdt_cmp op_ge dr_ge (pd_callB (cr_min rfl) dr_minL rfl (T.free 12) (by decide +kernel) (pda_cons (pd_var 6) pda_nil)) pd_int)))) (pds_cons (ds_set 7 nd (pd_callO IH (hr.mono (by first | decide | omega)) (T.glo 41) (pda_cons (pd_var 6) (pda_cons (pd_op op_sub dr_sub (pd_var 1) pd_int) (pda_cons (pd_var 2) pda_nil)))))
    (pds_one (ds_if (pdt_cmp op_notN dr_notN (pd_var 7) pd_non) (pds_one (ds_ret (pd_op or_add dr_add (pd_ofN (pn_lst (pda_cons (pd_ofN (pn_callTy call_list_of dr_list rfl (T.free 2) (by decide +kernel) (pda_cons (pd_var 4) pda_nil))) pda_nil))) (pd_var 7)))) pds_nil))) pds_nil))))
    (pds_one (ds_ret pd_non)))))
/-! bases_for -/
theorem sc_bases_for : FnScope ["n", "k", "l", "many", "rows", "found", "some"] ["n", "k", "l"] (defScope (top 34)) := ⟨rfl, rfl, rfl, by decide +kernel, rfl, by decide +kernel, by decide +kernel⟩
def g_bases_for : Env → Option Res :=
  (sSeq (sSet 3 (bop gDiv (bop gMul (dVar 2) (bop gSub (dVar 0) (dC (.int 1)))) (bop gMul (dVar 1) (bop gSub (dVar 1) (dC (.int 1))))))
    (sSeq (sIf (tOfD (bop gNe (bop gMul (bop gMul (dVar 3) (dVar 1)) (bop gSub (dVar 1) (dC (.int 1)))) (bop gMul (dVar 2) (bop gSub (dVar 0) (dC (.int 1)))))) (sRet (dTup (aCons (dC (.str "none")) aNil))) sNil)
    (sSeq (sSet 4 fun env => bnd ((nLc [6] (iAny (cll (aCons (dVar 0) (aCons (dVar 1) aNil)) d_sets_with_nought)) (setN 6) tYesD (dTup (aCons (fun env => bnd ((clN (aCons (dVar 6) aNil) gList) env) fun ds => some (.lst ds)) (aCons (cll (aCons (dVar 0) (aCons (fun env => bnd ((nLst (aCons (dVar 6) aNil)) env) fun ds => some (.lst ds)) aNil)) d_differences) aNil)))) env) fun ds => some (.lst ds))
    (sSeq (sSet 5 (cll (aCons (fun env => bnd ((nRep (fun env => bnd ((nLst (aCons (dVar 2) aNil)) env) fun ds => some (.lst ds)) (bop gSub (dVar 0) (dC (.int 1)))) env) fun ds => some (.lst ds)) (aCons (dVar 3) (aCons (dVar 4) aNil))) (d_gone_on 5)))
    (sSeq (sIf (tOfD (bop gIsN (dVar 5) (dC .non))) (sRet (dTup (aCons (dC (.str "none")) aNil))) sNil)
    (sRet (dTup (aCons (dC (.str "bases")) (aCons (dVar 5) aNil)))))))))
def d_bases_for : List D → Option D := runD 3 7 g_bases_for
theorem ok_bases_for (T : TX K mg) : OkD P w K mg base 6 (He.fAd K ("bases_for", none)) ["n", "k", "l"] (spD K d_bases_for) := by
  obtain ⟨fd, F⟩ := T.says.def_ 18 (d := dd_bases_for) rfl
  have F : FunD K "bases_for" "bases_for" (defArgs (top 34)) (defBody (top 34)) (defScope (top 34)) [] [] (He.fAd K ("bases_for", none)) fd := F
  refine ⟨fd, fn_den (N := ["n", "k", "l", "many", "rows", "found", "some"]) (ps := ["n", "k", "l"]) F sc_bases_for g_bases_for (fun cdv A outer s H E hr => ?_), FunD.bindsN F (fun _ _ _ _ _ _ us hl => match us, hl with | [_, _, _], _ => rfl), F.kp⟩
  have nd := sc_bases_for.nd
  exact (pds_cons (ds_set 3 nd (pd_op op_fdivN dr_div (pd_op or_mul dr_mul (pd_var 2) (pd_op op_sub dr_sub (pd_var 0) pd_int)) (pd_op or_mul dr_mul (pd_var 1) (pd_op op_sub dr_sub (pd_var 1) pd_int))))
    (pds_cons (ds_if (pdt_cmp (op_neM hr.units) dr_ne (pd_op or_mul dr_mul (pd_op or_mul dr_mul (pd_var 3) (pd_var 1)) (pd_op op_sub dr_sub (pd_var 1) pd_int)) (pd_op or_mul dr_mul (pd_var 2) (pd_op op_sub dr_sub (pd_var 0) pd_int))) (pds_one (ds_ret (pd_tup (pda_cons pd_str pda_nil)))) pds_nil)
    (pds_cons (ds_setLcF 4 [("some", 6)] nd (tgOk_name 6) (pdi_any (pd_callO (ok_sets_with_nought T) (hr.mono (by first | decide | omega)) (T.glo 40) (pda_cons (pd_var 0) (pda_cons (pd_var 1) pda_nil)))) (blkOk_by (by kernel_rfl)) (fun _ _ _ _ _ => pg_name (i := 6) nd rfl (by first | exact Or.inl rfl | exact Or.inr rfl)) (fun _ _ _ _ _ => pts_no) (fun _ _ _ _ _ => (pd_tup (pda_cons (pd_ofN (pn_callTy call_list_of dr_list rfl (T.free 2) (by decide +kernel) (pda_cons (pd_var 6) pda_nil))) (pda_cons (pd_callO (ok_differences T) (hr.mono (by first | decide | omega)) (T.glo 39) (pda_cons (pd_var 0) (pda_cons (pd_ofN (pn_lst (pda_cons (pd_var 6) pda_nil))) pda_nil))) pda_nil)))))
    (pds_cons (ds_set 5 nd (pd_callO (ok_gone_on T 5) (hr.mono (by first | decide | omega)) (T.glo 41) (pda_cons (pd_ofN (pn_rep (pd_ofN (pn_lst (pda_cons (pd_var 2) pda_nil))) (pd_op op_sub dr_sub (pd_var 0) pd_int))) (pda_cons (pd_var 3) (pda_cons (pd_var 4) pda_nil)))))
    (pds_cons (ds_if (pdt_cmp op_isN dr_isN (pd_var 5) pd_non) (pds_one (ds_ret (pd_tup (pda_cons pd_str pda_nil)))) pds_nil)
    (pds_one (ds_ret (pd_tup (pda_cons pd_str (pda_cons (pd_var 5) pda_nil))))))))))
/-! complement -/
theorem sc_complement : FnScope ["layout", "blocks", "block", "point"] ["layout"] (defScope (top 36)) := ⟨rfl, rfl, rfl, by decide +kernel, rfl, by decide +kernel, by decide +kernel⟩
def g_complement : Env → Option Res :=
  (sSeq (sSet 1 fun env => bnd ((nLc [2] (iAny (bop gIx (dVar 0) (dC (.int 1)))) (setN 2) tYesD (cll (aCons (fun env => bnd ((nLc [3] (iRg1 (aCons (bop gIx (dVar 0) (dC (.int 0))) aNil)) (setN 3) (tOfD (bop (gInN true) (dVar 3) (dVar 2))) (dVar 3)) env) fun ds => some (.lst ds)) aNil) gTuple)) env) fun ds => some (.lst ds))
    (sRet (dTup (aCons (bop gIx (dVar 0) (dC (.int 0))) (aCons (cll (aCons (dVar 1) aNil) gTuple) aNil)))))
def d_complement : List D → Option D := runD 1 4 g_complement
theorem ok_complement (T : TX K mg) : OkD P w K mg base 1 (He.fAd K ("complement", none)) ["layout"] (spD K d_complement) := by
  obtain ⟨fd, F⟩ := T.says.def_ 19 (d := dd_complement) rfl
  have F : FunD K "complement" "complement" (defArgs (top 36)) (defBody (top 36)) (defScope (top 36)) [] [] (He.fAd K ("complement", none)) fd := F
  refine ⟨fd, fn_den (N := ["layout", "blocks", "block", "point"]) (ps := ["layout"]) F sc_complement g_complement (fun cdv A outer s H E hr => ?_), FunD.bindsN F (fun _ _ _ _ _ _ us hl => match us, hl with | [_], _ => rfl), F.kp⟩
  have nd := sc_complement.nd
  exact (pds_cons (ds_setLcF 1 [("block", 2)] nd (tgOk_name 2) (pdi_any (pd_ix ix_or dr_ix (pd_var 0) pd_int)) (blkOk_by (by kernel_rfl)) (fun _ _ _ _ _ => pg_name (i := 2) nd rfl (by first | exact Or.inl rfl | exact Or.inr rfl)) (fun _ _ _ _ _ => pts_no) (fun _ _ _ _ _ => (pd_callTy call_tuple_of dr_tuple rfl (T.free 3) (by decide +kernel) (pda_cons (pd_ofN (pn_lc [("point", 3)] nd (tgOk_name 3) (pdi_rg1 (T.free 1) (pda_cons (pd_ix ix_or dr_ix (pd_var 0) pd_int) pda_nil)) (blkOk_by (by kernel_rfl)) (fun _ _ _ _ _ => pg_name (i := 3) nd rfl (by first | exact Or.inl rfl | exact Or.inr rfl)) (fun _ _ _ _ _ => pts_if (pdt_cmp op_notIn_seq (dr_in true) (pd_var 3) (pd_var 2))) (fun _ _ _ _ _ => (pd_var 3)))) pda_nil))))
    (pds_one (ds_ret (pd_tup (pda_cons (pd_ix ix_or dr_ix (pd_var 0) pd_int) (pda_cons (pd_callTy call_tuple_of dr_tuple rfl (T.free 3) (by decide +kernel) (pda_cons (pd_var 1) pda_nil)) pda_nil))))))
/-! count_of -/
theorem sc_count_of : FnScope ["layout", "points", "block", "point"] ["layout", "points"] (defScope (top 38)) := ⟨rfl, rfl, rfl, by decide +kernel, rfl, by decide +kernel, by decide +kernel⟩
def g_count_of : Env → Option Res :=
  (sRet (cll (aCons (fun env => bnd ((nLc [2] (iAny (bop gIx (dVar 0) (dC (.int 1)))) (setN 2) (tOfD (cll (aCons (fun env => bnd ((nLc [3] (iAny (dVar 1)) (setN 3) tYesD (bop (gInN false) (dVar 3) (dVar 2))) env) fun ds => some (.lst ds)) aNil) gAll)) (dVar 2)) env) fun ds => some (.lst ds)) aNil) gLen))
def d_count_of : List D → Option D := runD 2 4 g_count_of
theorem ok_count_of (T : TX K mg) : OkD P w K mg base 1 (He.fAd K ("count_of", none)) ["layout", "points"] (spD K d_count_of) := by
  obtain ⟨fd, F⟩ := T.says.def_ 20 (d := dd_count_of) rfl
  have F : FunD K "count_of" "count_of" (defArgs (top 38)) (defBody (top 38)) (defScope (top 38)) [] [] (He.fAd K ("count_of", none)) fd := F
  refine ⟨fd, fn_den (N := ["layout", "points", "block", "point"]) (ps := ["layout", "points"]) F sc_count_of g_count_of (fun cdv A outer s H E hr => ?_), FunD.bindsN F (fun _ _ _ _ _ _ us hl => match us, hl with | [_, _], _ => rfl), F.kp⟩
  have nd := sc_count_of.nd
  exact (pds_one (ds_ret (pd_callB call_len dr_len rfl (T.free 0) PySem.boot_len (pda_cons (pd_ofN (pn_lc [("block", 2)] nd (tgOk_name 2) (pdi_any (pd_ix ix_or dr_ix (pd_var 0) pd_int)) (blkOk_by (by kernel_rfl)) (fun _ _ _ _ _ => pg_name (i := 2) nd rfl (by first | exact Or.inl rfl | exact Or.inr rfl)) (fun _ _ _ _ _ => pts_if (pdt_val (pd_callB (cr_all rfl) dr_all rfl (T.free 14) (by decide +kernel) (pda_cons (pd_ofN (pn_lc [("point", 3)] nd (tgOk_name 3) (pdi_any (pd_var 1)) (blkOk_by (by kernel_rfl)) (fun _ _ _ _ _ => pg_name (i := 3) nd rfl (by first | exact Or.inl rfl | exact Or.inr rfl)) (fun _ _ _ _ _ => pts_no) (fun _ _ _ _ _ => (pd_cmp op_in_seq (dr_in false) (pd_var 3) (pd_var 2))))) pda_nil)))) (fun _ _ _ _ _ => (pd_var 2)))) pda_nil))))
/-! pairs_of -/
theorem sc_pairs_of : FnScope ["points", "found", "a", "b"] ["points"] (defScope (top 39)) := ⟨rfl, rfl, rfl, by decide +kernel, rfl, by decide +kernel, by decide +kernel⟩
def g_pairs_of : Env → Option Res :=
  (sSeq (sSetN 1 (nLst aNil))
    (sSeq (sFor (iRg1 (aCons (dVar 0) aNil)) (setN 2) (sExt 1 (fun env => bnd ((nLc [3] (iRg2 (aCons (bop gAdd (dVar 2) (dC (.int 1))) (aCons (dVar 0) aNil))) (setN 3) tYesD (dTup (aCons (dVar 2) (aCons (dVar 3) aNil)))) env) fun ds => some (.lst ds))))
    (sFrz 1 (sRet (dVar 1)))))
def d_pairs_of : List D → Option D := runD 1 4 g_pairs_of
theorem ok_pairs_of (T : TX K mg) : OkD P w K mg base 1 (He.fAd K ("pairs_of", none)) ["points"] (spD K d_pairs_of) := by
  obtain ⟨fd, F⟩ := T.says.def_ 21 (d := dd_pairs_of) rfl
  have F : FunD K "pairs_of" "pairs_of" (defArgs (top 39)) (defBody (top 39)) (defScope (top 39)) [] [] (He.fAd K ("pairs_of", none)) fd := F
  refine ⟨fd, fn_den (N := ["points", "found", "a", "b"]) (ps := ["points"]) F sc_pairs_of g_pairs_of (fun cdv A outer s H E hr => ?_), FunD.bindsN F (fun _ _ _ _ _ _ us hl => match us, hl with | [_], _ => rfl), F.kp⟩
  have nd := sc_pairs_of.nd
  exact (pds_cons (ds_setN 1 nd (pn_lst pda_nil))
    (pds_cons (ds_for PassesOwn.never (pdi_rg1 (T.free 1) (pda_cons (pd_var 0) pda_nil)) (dg_name 2 nd) (pds_one (ds_ext 1 (pd_ofN (pn_lc [("b", 3)] nd (tgOk_name 3) (pdi_rg2 (T.free 1) (pda_cons (pd_op or_add dr_add (pd_var 2) pd_int) (pda_cons (pd_var 0) pda_nil))) (blkOk_by (by kernel_rfl)) (fun _ _ _ _ _ => pg_name (i := 3) nd rfl (by first | exact Or.inl rfl | exact Or.inr rfl)) (fun _ _ _ _ _ => pts_no) (fun _ _ _ _ _ => (pd_tup (pda_cons (pd_var 2) (pda_cons (pd_var 3) pda_nil)))))))))
    (pds_one (ds_frz 1 (ds_ret (pd_var 1))))))
end
end EM
end
set_option maxHeartbeats 4000000
noncomputable section
namespace EM
open PySem PySem.Spec PyProof.Rows L2
section
variable {P : Program} {w : World} {K : PySem.W.Frag} {mg : Str → Option Value} {base : Heap}
/-! check_parts -/
theorem sc_check_parts : FnScope ["a", "b"] ["a", "b"] (defScope (top 57)) := ⟨rfl, rfl, rfl, by decide +kernel, rfl, by decide +kernel, by decide +kernel⟩
def g_check_parts : Env → Option Res :=
  (sIf (tOrD (tNotD (tOfD (cll (aCons (dVar 0) aNil) d_is_whole_numbers))) (tOrD (tNotD (tOfD (cll (aCons (dVar 1) aNil) d_is_whole_numbers))) (tOrD (tOfD (bop gEq (dVar 0) (dC (.int 0)))) (tOfD (bop gEq (dVar 1) (dC (.int 0))))))) sNever sNil)
def d_check_parts : List D → Option D := runD 2 2 g_check_parts
theorem ok_check_parts (T : TX K mg) : OkD P w K mg base 2 (He.fAd K ("check_parts", none)) ["a", "b"] (spD K d_check_parts) := by
  obtain ⟨fd, F⟩ := T.says.def_ 41 (d := dd_check_parts) rfl
  have F : FunD K "check_parts" "check_parts" (defArgs (top 57)) (defBody (top 57)) (defScope (top 57)) [] [] (He.fAd K ("check_parts", none)) fd := F
  refine ⟨fd, fn_den (N := ["a", "b"]) (ps := ["a", "b"]) F sc_check_parts g_check_parts (fun cdv A outer s H E hr => ?_), FunD.bindsN F (fun _ _ _ _ _ _ us hl => match us, hl with | [_, _], _ => rfl), F.kp⟩
  have nd := sc_check_parts.nd
  exact (pds_one (ds_if (pdw_pt (pdw_or (pdt_not (pdt_val (pd_callO (ok_is_whole_numbers T) (hr.mono (by first | decide | omega)) (T.glo 28) (pda_cons (pd_var 0) pda_nil)))) (pdw_or (pdt_not (pdt_val (pd_callO (ok_is_whole_numbers T) (hr.mono (by first | decide | omega)) (T.glo 28) (pda_cons (pd_var 1) pda_nil)))) (pdw_or (pdt_cmp (op_eqM hr.units) dr_eq (pd_var 0) pd_int) (pdw_or1 (pdt_cmp (op_eqM hr.units) dr_eq (pd_var 1) pd_int)))))) pds_never pds_nil))
/-! shuts_plain -/
theorem sc_shuts_plain : FnScope ["s", "t", "p"] ["s", "t", "p"] (defScope (top 58)) := ⟨rfl, rfl, rfl, by decide +kernel, rfl, by decide +kernel, by decide +kernel⟩
def g_shuts_plain : Env → Option Res :=
  (sSeq (sIf (tAndD (tOfD (bop gEq (bop gMod (dVar 0) (dVar 2)) (dC (.int 0)))) (tOfD (bop gEq (bop gMod (dVar 1) (dVar 2)) (dC (.int 0))))) (sRet (dNotV (cll (aCons (bop gSub (dC (.int 0)) (bop gMul (bop gDiv (dVar 0) (dVar 2)) (bop gDiv (dVar 1) (dVar 2)))) (aCons (dVar 2) aNil)) d_is_rest))) sNil)
    (sSeq (sIf (tOfD (bop gEq (bop gMod (dVar 0) (dVar 2)) (dC (.int 0)))) (sRet (dNotV (cll (aCons (dVar 1) (aCons (dVar 2) aNil)) d_is_rest))) sNil)
    (sRet (dAndV (bop gEq (bop gMod (dVar 1) (dVar 2)) (dC (.int 0))) (dNotV (cll (aCons (dVar 0) (aCons (dVar 2) aNil)) d_is_rest))))))
def d_shuts_plain : List D → Option D := runD 3 3 g_shuts_plain
theorem ok_shuts_plain (T : TX K mg) : OkD P w K mg base 6 (He.fAd K ("shuts_plain", none)) ["s", "t", "p"] (spD K d_shuts_plain) := by
  obtain ⟨fd, F⟩ := T.says.def_ 42 (d := dd_shuts_plain) rfl
  have F : FunD K "shuts_plain" "shuts_plain" (defArgs (top 58)) (defBody (top 58)) (defScope (top 58)) [] [] (He.fAd K ("shuts_plain", none)) fd := F
  refine ⟨fd, fn_den (N := ["s", "t", "p"]) (ps := ["s", "t", "p"]) F sc_shuts_plain g_shuts_plain (fun cdv A outer s H E hr => ?_), FunD.bindsN F (fun _ _ _ _ _ _ us hl => match us, hl with | [_, _, _], _ => rfl), F.kp⟩
  have nd := sc_shuts_plain.nd
  exact (pds_cons (ds_if (pdw_pt (pdw_and (pdt_cmp (op_eqM hr.units) dr_eq (pd_op op_modN dr_mod (pd_var 0) (pd_var 2)) pd_int) (pdw_and1 (pdt_cmp (op_eqM hr.units) dr_eq (pd_op op_modN dr_mod (pd_var 1) (pd_var 2)) pd_int)))) (pds_one (ds_ret (pd_not (pd_callO (ok_is_rest T) (hr.mono (by first | decide | omega)) (T.glo 35) (pda_cons (pd_op op_sub dr_sub pd_int (pd_op or_mul dr_mul (pd_op op_fdivN dr_div (pd_var 0) (pd_var 2)) (pd_op op_fdivN dr_div (pd_var 1) (pd_var 2)))) (pda_cons (pd_var 2) pda_nil)))))) pds_nil)
    (pds_cons (ds_if (pdt_cmp (op_eqM hr.units) dr_eq (pd_op op_modN dr_mod (pd_var 0) (pd_var 2)) pd_int) (pds_one (ds_ret (pd_not (pd_callO (ok_is_rest T) (hr.mono (by first | decide | omega)) (T.glo 35) (pda_cons (pd_var 1) (pda_cons (pd_var 2) pda_nil)))))) pds_nil)
    (pds_one (ds_ret (pd_and (pd_cmp (op_eqM hr.units) dr_eq (pd_op op_modN dr_mod (pd_var 1) (pd_var 2)) pd_int) (pd_one (pd_not (pd_callO (ok_is_rest T) (hr.mono (by first | decide | omega)) (T.glo 35) (pda_cons (pd_var 0) (pda_cons (pd_var 2) pda_nil))))))))))
/-! shuts -/
theorem sc_shuts : FnScope ["a", "b", "p", "s", "t"] ["a", "b", "p"] (defScope (top 59)) := ⟨rfl, rfl, rfl, by decide +kernel, rfl, by decide +kernel, by decide +kernel⟩
def g_shuts : Env → Option Res :=
  (sSeq (sDrop (cll (aCons (dVar 0) (aCons (dVar 1) aNil)) d_check_parts))
    (sSeq (sSet 3 (bop gIx (cll (aCons (dVar 0) aNil) d_plain_part) (dC (.int 0))))
    (sSeq (sSet 4 (bop gIx (cll (aCons (dVar 1) aNil) d_plain_part) (dC (.int 0))))
    (sSeq (sIf (tOrD (tOfD (bop gLt (dVar 2) (dC (.int 3)))) (tOrD (tOfD (bop gNe (bop gMod (bop gMul (dVar 3) (dVar 4)) (dVar 2)) (dC (.int 0)))) (tNotD (tOfD (cll (aCons (dVar 2) aNil) d_is_prime))))) (sRet (dC (.bl false))) sNil)
    (sRet (cll (aCons (dVar 3) (aCons (dVar 4) (aCons (dVar 2) aNil))) d_shuts_plain))))))
def d_shuts : List D → Option D := runD 3 5 g_shuts
theorem ok_shuts (T : TX K mg) : OkD P w K mg base 7 (He.fAd K ("shuts", none)) ["a", "b", "p"] (spD K d_shuts) := by
  obtain ⟨fd, F⟩ := T.says.def_ 43 (d := dd_shuts) rfl
  have F : FunD K "shuts" "shuts" (defArgs (top 59)) (defBody (top 59)) (defScope (top 59)) [] [] (He.fAd K ("shuts", none)) fd := F
  refine ⟨fd, fn_den (N := ["a", "b", "p", "s", "t"]) (ps := ["a", "b", "p"]) F sc_shuts g_shuts (fun cdv A outer s H E hr => ?_), FunD.bindsN F (fun _ _ _ _ _ _ us hl => match us, hl with | [_, _, _], _ => rfl), F.kp⟩
  have nd := sc_shuts.nd
  exact (pds_cons (ds_drop (pd_callO (ok_check_parts T) (hr.mono (by first | decide | omega)) (T.glo 57) (pda_cons (pd_var 0) (pda_cons (pd_var 1) pda_nil))))
    (pds_cons (ds_set 3 nd (pd_ix ix_or dr_ix (pd_callO (ok_plain_part T) (hr.mono (by first | decide | omega)) (T.glo 32) (pda_cons (pd_var 0) pda_nil)) pd_int))
    (pds_cons (ds_set 4 nd (pd_ix ix_or dr_ix (pd_callO (ok_plain_part T) (hr.mono (by first | decide | omega)) (T.glo 32) (pda_cons (pd_var 1) pda_nil)) pd_int))
    (pds_cons (ds_if (pdw_pt (pdw_or (pdt_cmp op_lt dr_lt (pd_var 2) pd_int) (pdw_or (pdt_cmp (op_neM hr.units) dr_ne (pd_op op_modN dr_mod (pd_op or_mul dr_mul (pd_var 3) (pd_var 4)) (pd_var 2)) pd_int) (pdw_or1 (pdt_not (pdt_val (pd_callO (ok_is_prime T) (hr.mono (by first | decide | omega)) (T.glo 33) (pda_cons (pd_var 2) pda_nil)))))))) (pds_one (ds_ret pd_bl)) pds_nil)
    (pds_one (ds_ret (pd_callO (ok_shuts_plain T) (hr.mono (by first | decide | omega)) (T.glo 58) (pda_cons (pd_var 3) (pda_cons (pd_var 4) (pda_cons (pd_var 2) pda_nil))))))))))
/-! root_by -/
theorem sc_root_by : FnScope ["s", "t", "root"] ["s", "t"] (defScope (top 60)) := ⟨rfl, rfl, rfl, by decide +kernel, rfl, by decide +kernel, by decide +kernel⟩
def g_root_by : Env → Option Res :=
  (sSeq (sSet 2 (dC (.int 0)))
    (sSeq (sWhile big (tOfD (bop gNe (bop gMod (bop gSub (bop gMul (dVar 2) (dVar 2)) (dVar 0)) (dVar 1)) (dC (.int 0)))) (sSet 2 (bop gAdd (dVar 2) (dC (.int 1)))))
    (sRet (dVar 2))))
def d_root_by : List D → Option D := runD 2 3 g_root_by
theorem ok_root_by (T : TX K mg) : OkD P w K mg base 1 (He.fAd K ("root_by", none)) ["s", "t"] (spD K d_root_by) := by
  obtain ⟨fd, F⟩ := T.says.def_ 44 (d := dd_root_by) rfl
  have F : FunD K "root_by" "root_by" (defArgs (top 60)) (defBody (top 60)) (defScope (top 60)) [] [] (He.fAd K ("root_by", none)) fd := F
  refine ⟨fd, fn_den (N := ["s", "t", "root"]) (ps := ["s", "t"]) F sc_root_by g_root_by (fun cdv A outer s H E hr => ?_), FunD.bindsN F (fun _ _ _ _ _ _ us hl => match us, hl with | [_, _], _ => rfl), F.kp⟩
  have nd := sc_root_by.nd
  exact (pds_cons (ds_set 2 nd pd_int)
    (pds_cons (ds_while big PassesOwn.never (pdt_cmp (op_neM hr.units) dr_ne (pd_op op_modN dr_mod (pd_op op_sub dr_sub (pd_op or_mul dr_mul (pd_var 2) (pd_var 2)) (pd_var 0)) (pd_var 1)) pd_int) (pds_one (ds_set 2 nd (pd_op or_add dr_add (pd_var 2) pd_int))))
    (pds_one (ds_ret (pd_var 2)))))
/-! solved -/
theorem sc_solved : FnScope ["s", "t", "root", "less", "square", "x", "y", "z"] ["s", "t"] (defScope (top 61)) := ⟨rfl, rfl, rfl, by decide +kernel, rfl, by decide +kernel, by decide +kernel⟩
def g_solved (self_ : List D → Option D) : Env → Option Res :=
  (sSeq (sIf (tOfD (bop gEq (dVar 0) (dC (.int 1)))) (sRet (dTup (aCons (dC (.int 1)) (aCons (dC (.int 0)) (aCons (dC (.int 1)) aNil))))) sNil)
    (sSeq (sIf (tOfD (bop gEq (dVar 1) (dC (.int 1)))) (sRet (dTup (aCons (dC (.int 0)) (aCons (dC (.int 1)) (aCons (dC (.int 1)) aNil))))) sNil)
    (sSeq (sIf (tOfD (bop gEq (bop gAdd (dVar 0) (dVar 1)) (dC (.int 0)))) (sRet (dTup (aCons (dC (.int 1)) (aCons (dC (.int 1)) (aCons (dC (.int 0)) aNil))))) sNil)
    (sSeq (sIf (tOfD (bop gGt (cll (aCons (dVar 0) aNil) gAbs) (cll (aCons (dVar 1) aNil) gAbs))) (sSeq (fun env => bnd ((cll (aCons (dVar 1) (aCons (dVar 0) aNil)) self_) env) fun d => bnd ((setT [5, 6, 7]) d env) fun e => some (.nx e))
    (sRet (dTup (aCons (dVar 6) (aCons (dVar 5) (aCons (dVar 7) aNil)))))) sNil)
    (sSeq (sSet 2 (cll (aCons (dVar 0) (aCons (dVar 1) aNil)) d_root_by))
    (sSeq (fun env => bnd ((cll (aCons (bop gDiv (bop gSub (bop gMul (dVar 2) (dVar 2)) (dVar 0)) (dVar 1)) aNil) d_plain_part) env) fun d => bnd ((setT [3, 4]) d env) fun e => some (.nx e))
    (sSeq (fun env => bnd ((cll (aCons (dVar 0) (aCons (dVar 3) aNil)) self_) env) fun d => bnd ((setT [5, 6, 7]) d env) fun e => some (.nx e))
    (sRet (dTup (aCons (bop gAdd (bop gMul (dVar 2) (dVar 5)) (dVar 7)) (aCons (bop gMul (bop gMul (dVar 3) (dVar 4)) (dVar 6)) (aCons (bop gAdd (bop gMul (dVar 2) (dVar 7)) (bop gMul (dVar 0) (dVar 5))) aNil))))))))))))
def d_solved : Nat → List D → Option D
  | 0 => fun _ => none
  | n + 1 => runD 2 8 (g_solved (d_solved n))
theorem ok_solved (T : TX K mg) : ∀ n : Nat, OkD P w K mg base (n + 4) (He.fAd K ("solved", none)) ["s", "t"] (spD K (d_solved n))
  | 0 => by
    obtain ⟨fd, F⟩ := T.says.def_ 45 (d := dd_solved) rfl
    have F : FunD K "solved" "solved" (defArgs (top 61)) (defBody (top 61)) (defScope (top 61)) [] [] (He.fAd K ("solved", none)) fd := F
    exact okD_none F.kp (FunD.bindsN F (fun _ _ _ _ _ _ us hl => match us, hl with | [_, _], _ => rfl))
  | n + 1 => by
    obtain ⟨fd, F⟩ := T.says.def_ 45 (d := dd_solved) rfl
    have F : FunD K "solved" "solved" (defArgs (top 61)) (defBody (top 61)) (defScope (top 61)) [] [] (He.fAd K ("solved", none)) fd := F
    have IH := ok_solved T n
    have hl : n + 1 + 4 = (n + 4) + 1 := by omega
    rw [hl]
    refine ⟨fd, fn_den (N := ["s", "t", "root", "less", "square", "x", "y", "z"]) (ps := ["s", "t"]) F sc_solved (g_solved (d_solved n)) (fun cdv A outer s H E hr => ?_), FunD.bindsN F (fun _ _ _ _ _ _ us hl => match us, hl with | [_, _], _ => rfl), F.kp⟩
    have nd := sc_solved.nd
    exact (pds_cons (ds_if (pdt_cmp (op_eqM hr.units) dr_eq (pd_var 0) pd_int) (pds_one (ds_ret (pd_tup (pda_cons pd_int (pda_cons pd_int (pda_cons pd_int pda_nil)))))) pds_nil)
    (pds_cons (ds_if (pdt_cmp (op_eqM hr.units) dr_eq (pd_var 1) pd_int) (pds_one (ds_ret (pd_tup (pda_cons pd_int (pda_cons pd_int (pda_cons pd_int pda_nil)))))) pds_nil)
    (pds_cons (ds_if (pdt_cmp (op_eqM hr.units) dr_eq (pd_op or_add dr_add (pd_var 0) (pd_var 1)) pd_int) (pds_one (ds_ret (pd_tup (pda_cons pd_int (pda_cons pd_int (pda_cons pd_int pda_nil)))))) pds_nil)
    (pds_cons (ds_if (pdt_cmp op_gt dr_gt (pd_callB call_abs dr_abs rfl (T.free 11) (by decide +kernel) (pda_cons (pd_var 0) pda_nil)) (pd_callB call_abs dr_abs rfl (T.free 11) (by decide +kernel) (pda_cons (pd_var 1) pda_nil))) (pds_cons (ds_asg (pd_callO IH (hr.mono (by first | decide | omega)) (T.glo 61) (pda_cons (pd_var 1) (pda_cons (pd_var 0) pda_nil))) (dg_tup (dgs_cons 5 nd (dgs_cons 6 nd (dgs_cons 7 nd dgs_nil)))))
    (pds_one (ds_ret (pd_tup (pda_cons (pd_var 6) (pda_cons (pd_var 5) (pda_cons (pd_var 7) pda_nil))))))) pds_nil)
    (pds_cons (ds_set 2 nd (pd_callO (ok_root_by T) (hr.mono (by first | decide | omega)) (T.glo 60) (pda_cons (pd_var 0) (pda_cons (pd_var 1) pda_nil))))
    (pds_cons (ds_asg (pd_callO (ok_plain_part T) (hr.mono (by first | decide | omega)) (T.glo 32) (pda_cons (pd_op op_fdivN dr_div (pd_op op_sub dr_sub (pd_op or_mul dr_mul (pd_var 2) (pd_var 2)) (pd_var 0)) (pd_var 1)) pda_nil)) (dg_tup (dgs_cons 3 nd (dgs_cons 4 nd dgs_nil))))
    (pds_cons (ds_asg (pd_callO IH (hr.mono (by first | decide | omega)) (T.glo 61) (pda_cons (pd_var 0) (pda_cons (pd_var 3) pda_nil))) (dg_tup (dgs_cons 5 nd (dgs_cons 6 nd (dgs_cons 7 nd dgs_nil)))))
    (pds_one (ds_ret (pd_tup (pda_cons (pd_op or_add dr_add (pd_op or_mul dr_mul (pd_var 2) (pd_var 5)) (pd_var 7)) (pda_cons (pd_op or_mul dr_mul (pd_op or_mul dr_mul (pd_var 3) (pd_var 4)) (pd_var 6)) (pda_cons (pd_op or_add dr_add (pd_op or_mul dr_mul (pd_var 2) (pd_var 7)) (pd_op or_mul dr_mul (pd_var 0) (pd_var 5))) pda_nil)))))))))))))
/-! form_told -/
theorem sc_form_told : FnScope ["a", "b", "s", "f", "t", "g", "prime", "often", "x", "y", "z"] ["a", "b"] (defScope (top 62)) := ⟨rfl, rfl, rfl, by decide +kernel, rfl, by decide +kernel, by decide +kernel⟩
def g_form_told : Env → Option Res :=
  (sSeq (sDrop (cll (aCons (dVar 0) (aCons (dVar 1) aNil)) d_check_parts))
    (sSeq (fun env => bnd ((cll (aCons (dVar 0) aNil) d_plain_part) env) fun d => bnd ((setT [2, 3]) d env) fun e => some (.nx e))
    (sSeq (fun env => bnd ((cll (aCons (dVar 1) aNil) d_plain_part) env) fun d => bnd ((setT [4, 5]) d env) fun e => some (.nx e))
    (sSeq (sIf (tAndD (tOfD (bop gLt (dVar 2) (dC (.int 0)))) (tOfD (bop gLt (dVar 4) (dC (.int 0))))) (sRet (dTup (aCons (dC (.str "sign")) aNil))) sNil)
    (sSeq (sFor (iAny (bop gAdd (cll (aCons (cll (aCons (dVar 2) aNil) gAbs) aNil) d_primes_of) (cll (aCons (cll (aCons (dVar 4) aNil) gAbs) aNil) d_primes_of))) (setT [6, 7]) (sIf (tAndD (tOfD (bop gGt (dVar 6) (dC (.int 2)))) (tOfD (cll (aCons (dVar 2) (aCons (dVar 4) (aCons (dVar 6) aNil))) d_shuts_plain))) (sRet (dTup (aCons (dC (.str "rest")) (aCons (dVar 6) aNil)))) sNil))
    (sSeq (fun env => bnd ((cll (aCons (dVar 2) (aCons (dVar 4) aNil)) (d_solved 40)) env) fun d => bnd ((setT [8, 9, 10]) d env) fun e => some (.nx e))
    (sRet (dTup (aCons (dC (.str "point")) (aCons (bop gMul (dVar 5) (dVar 8)) (aCons (bop gMul (dVar 3) (dVar 9)) (aCons (bop gMul (bop gMul (dVar 3) (dVar 5)) (dVar 10)) aNil))))))))))))
def d_form_told : List D → Option D := runD 2 11 g_form_told
theorem ok_form_told (T : TX K mg) : OkD P w K mg base 45 (He.fAd K ("form_told", none)) ["a", "b"] (spD K d_form_told) := by
  obtain ⟨fd, F⟩ := T.says.def_ 46 (d := dd_form_told) rfl
  have F : FunD K "form_told" "form_told" (defArgs (top 62)) (defBody (top 62)) (defScope (top 62)) [] [] (He.fAd K ("form_told", none)) fd := F
  refine ⟨fd, fn_den (N := ["a", "b", "s", "f", "t", "g", "prime", "often", "x", "y", "z"]) (ps := ["a", "b"]) F sc_form_told g_form_told (fun cdv A outer s H E hr => ?_), FunD.bindsN F (fun _ _ _ _ _ _ us hl => match us, hl with | [_, _], _ => rfl), F.kp⟩
  have nd := sc_form_told.nd
  exact (pds_cons (ds_drop (pd_callO (ok_check_parts T) (hr.mono (by first | decide | omega)) (T.glo 57) (pda_cons (pd_var 0) (pda_cons (pd_var 1) pda_nil))))
    (pds_cons (ds_asg (pd_callO (ok_plain_part T) (hr.mono (by first | decide | omega)) (T.glo 32) (pda_cons (pd_var 0) pda_nil)) (dg_tup (dgs_cons 2 nd (dgs_cons 3 nd dgs_nil))))
    (pds_cons (ds_asg (pd_callO (ok_plain_part T) (hr.mono (by first | decide | omega)) (T.glo 32) (pda_cons (pd_var 1) pda_nil)) (dg_tup (dgs_cons 4 nd (dgs_cons 5 nd dgs_nil))))
    (pds_cons (ds_if (pdw_pt (pdw_and (pdt_cmp op_lt dr_lt (pd_var 2) pd_int) (pdw_and1 (pdt_cmp op_lt dr_lt (pd_var 4) pd_int)))) (pds_one (ds_ret (pd_tup (pda_cons pd_str pda_nil)))) pds_nil)
    (pds_cons (ds_for PassesOwn.never (pdi_any (pd_op or_add dr_add (pd_callO (ok_primes_of T) (hr.mono (by first | decide | omega)) (T.glo 30) (pda_cons (pd_callB call_abs dr_abs rfl (T.free 11) (by decide +kernel) (pda_cons (pd_var 2) pda_nil)) pda_nil)) (pd_callO (ok_primes_of T) (hr.mono (by first | decide | omega)) (T.glo 30) (pda_cons (pd_callB call_abs dr_abs rfl (T.free 11) (by decide +kernel) (pda_cons (pd_var 4) pda_nil)) pda_nil)))) (dg_tup (dgs_cons 6 nd (dgs_cons 7 nd dgs_nil))) (pds_one (ds_if (pdw_pt (pdw_and (pdt_cmp op_gt dr_gt (pd_var 6) pd_int) (pdw_and1 (pdt_val (pd_callO (ok_shuts_plain T) (hr.mono (by first | decide | omega)) (T.glo 58) (pda_cons (pd_var 2) (pda_cons (pd_var 4) (pda_cons (pd_var 6) pda_nil)))))))) (pds_one (ds_ret (pd_tup (pda_cons pd_str (pda_cons (pd_var 6) pda_nil))))) pds_nil)))
    (pds_cons (ds_asg (pd_callO (ok_solved T 40) (hr.mono (by first | decide | omega)) (T.glo 61) (pda_cons (pd_var 2) (pda_cons (pd_var 4) pda_nil))) (dg_tup (dgs_cons 8 nd (dgs_cons 9 nd (dgs_cons 10 nd dgs_nil)))))
    (pds_one (ds_ret (pd_tup (pda_cons pd_str (pda_cons (pd_op or_mul dr_mul (pd_var 5) (pd_var 8)) (pda_cons (pd_op or_mul dr_mul (pd_var 3) (pd_var 9)) (pda_cons (pd_op or_mul dr_mul (pd_op or_mul dr_mul (pd_var 3) (pd_var 5)) (pd_var 10)) pda_nil)))))))))))))
/-! triples_of -/
theorem sc_triples_of : FnScope ["field", "found", "z", "y"] ["field"] (defScope (top 64)) := ⟨rfl, rfl, rfl, by decide +kernel, rfl, by decide +kernel, by decide +kernel⟩
def g_triples_of : Env → Option Res :=
  (sSeq (sSetN 1 (nLst (aCons (dTup (aCons (dC (.int 0)) (aCons (dC (.int 0)) (aCons (dC (.int 1)) aNil)))) aNil)))
    (sSeq (sFor (iRg1 (aCons (mll (dVar 0) aNil d_Field_size) aNil)) (setN 2) (sApp 1 (dTup (aCons (dC (.int 0)) (aCons (dC (.int 1)) (aCons (dVar 2) aNil))))))
    (sSeq (sFor (iRg1 (aCons (mll (dVar 0) aNil d_Field_size) aNil)) (setN 3) (sFor (iRg1 (aCons (mll (dVar 0) aNil d_Field_size) aNil)) (setN 2) (sApp 1 (dTup (aCons (dC (.int 1)) (aCons (dVar 3) (aCons (dVar 2) aNil)))))))
    (sFrz 1 (sRet (dVar 1))))))
def d_triples_of : List D → Option D := runD 1 4 g_triples_of
theorem ok_triples_of (T : TX K mg) : OkD P w K mg base 3 (He.fAd K ("triples_of", none)) ["field"] (spD K d_triples_of) := by
  obtain ⟨fd, F⟩ := T.says.def_ 47 (d := dd_triples_of) rfl
  have F : FunD K "triples_of" "triples_of" (defArgs (top 64)) (defBody (top 64)) (defScope (top 64)) [] [] (He.fAd K ("triples_of", none)) fd := F
  refine ⟨fd, fn_den (N := ["field", "found", "z", "y"]) (ps := ["field"]) F sc_triples_of g_triples_of (fun cdv A outer s H E hr => ?_), FunD.bindsN F (fun _ _ _ _ _ _ us hl => match us, hl with | [_], _ => rfl), F.kp⟩
  have nd := sc_triples_of.nd
  exact (pds_cons (ds_setN 1 nd (pn_lst (pda_cons (pd_tup (pda_cons pd_int (pda_cons pd_int (pda_cons pd_int pda_nil)))) pda_nil)))
    (pds_cons (ds_for PassesOwn.never (pdi_rg1 (T.free 1) (pda_cons (pd_fmethO0 T.field (T.meth 125) (ok_Field_size T) (hr.mono (by first | decide | omega)) (pd_var 0)) pda_nil)) (dg_name 2 nd) (pds_one (ds_app 1 (pd_tup (pda_cons pd_int (pda_cons pd_int (pda_cons (pd_var 2) pda_nil)))))))
    (pds_cons (ds_for PassesOwn.never (pdi_rg1 (T.free 1) (pda_cons (pd_fmethO0 T.field (T.meth 125) (ok_Field_size T) (hr.mono (by first | decide | omega)) (pd_var 0)) pda_nil)) (dg_name 3 nd) (pds_one (ds_for PassesOwn.never (pdi_rg1 (T.free 1) (pda_cons (pd_fmethO0 T.field (T.meth 125) (ok_Field_size T) (hr.mono (by first | decide | omega)) (pd_var 0)) pda_nil)) (dg_name 2 nd) (pds_one (ds_app 1 (pd_tup (pda_cons pd_int (pda_cons (pd_var 3) (pda_cons (pd_var 2) pda_nil)))))))))
    (pds_one (ds_frz 1 (ds_ret (pd_var 1)))))))
/-! tables_of -/
theorem sc_tables_of : FnScope ["field", "numbers", "sums", "a", "b"] ["field"] (defScope (top 65)) := ⟨rfl, rfl, rfl, by decide +kernel, rfl, by decide +kernel, by decide +kernel⟩
def g_tables_of : Env → Option Res :=
  (sSeq (sSet 1 (fun env => bnd ((nListRg (mll (dVar 0) aNil d_Field_size)) env) fun ds => some (.lst ds)))
    (sSeq (sSet 2 fun env => bnd ((nLc [3] (iAny (dVar 1)) (setN 3) tYesD (fun env => bnd ((nLc [4] (iAny (dVar 1)) (setN 4) tYesD (mll (dVar 0) (aCons (dVar 3) (aCons (dVar 4) aNil)) d_Field_plus)) env) fun ds => some (.lst ds))) env) fun ds => some (.lst ds))
    (sRet (dTup (aCons (dVar 2) (aCons (fun env => bnd ((nLc [3] (iAny (dVar 1)) (setN 3) tYesD (fun env => bnd ((nLc [4] (iAny (dVar 1)) (setN 4) tYesD (mll (dVar 0) (aCons (dVar 3) (aCons (dVar 4) aNil)) d_Field_times)) env) fun ds => some (.lst ds))) env) fun ds => some (.lst ds)) aNil))))))
def d_tables_of : List D → Option D := runD 1 5 g_tables_of
theorem ok_tables_of (T : TX K mg) : OkD P w K mg base 5 (He.fAd K ("tables_of", none)) ["field"] (spD K d_tables_of) := by
  obtain ⟨fd, F⟩ := T.says.def_ 48 (d := dd_tables_of) rfl
  have F : FunD K "tables_of" "tables_of" (defArgs (top 65)) (defBody (top 65)) (defScope (top 65)) [] [] (He.fAd K ("tables_of", none)) fd := F
  refine ⟨fd, fn_den (N := ["field", "numbers", "sums", "a", "b"]) (ps := ["field"]) F sc_tables_of g_tables_of (fun cdv A outer s H E hr => ?_), FunD.bindsN F (fun _ _ _ _ _ _ us hl => match us, hl with | [_], _ => rfl), F.kp⟩
  have nd := sc_tables_of.nd
  exact (pds_cons (ds_set 1 nd (pd_ofN (pn_listRg (T.free 2) (T.free 1) (pd_fmethO0 T.field (T.meth 125) (ok_Field_size T) (hr.mono (by first | decide | omega)) (pd_var 0)))))
    (pds_cons (ds_setLcF 2 [("a", 3)] nd (tgOk_name 3) (pdi_any (pd_var 1)) (blkOk_by (by kernel_rfl)) (fun _ _ _ _ _ => pg_name (i := 3) nd rfl (by first | exact Or.inl rfl | exact Or.inr rfl)) (fun _ _ _ _ _ => pts_no) (fun _ _ _ _ _ => (pd_ofN (pn_lc [("b", 4)] nd (tgOk_name 4) (pdi_any (pd_var 1)) (blkOk_by (by kernel_rfl)) (fun _ _ _ _ _ => pg_name (i := 4) nd rfl (by first | exact Or.inl rfl | exact Or.inr rfl)) (fun _ _ _ _ _ => pts_no) (fun _ _ _ _ _ => (pd_fmethO T.field (T.meth 128) (ok_Field_plus T) (hr.mono (by first | decide | omega)) (pd_var 0) (pda_cons (pd_var 3) (pda_cons (pd_var 4) pda_nil))))))))
    (pds_one (ds_ret (pd_tup (pda_cons (pd_var 2) (pda_cons (pd_ofN (pn_lc [("a", 3)] nd (tgOk_name 3) (pdi_any (pd_var 1)) (blkOk_by (by kernel_rfl)) (fun _ _ _ _ _ => pg_name (i := 3) nd rfl (by first | exact Or.inl rfl | exact Or.inr rfl)) (fun _ _ _ _ _ => pts_no) (fun _ _ _ _ _ => (pd_ofN (pn_lc [("b", 4)] nd (tgOk_name 4) (pdi_any (pd_var 1)) (blkOk_by (by kernel_rfl)) (fun _ _ _ _ _ => pg_name (i := 4) nd rfl (by first | exact Or.inl rfl | exact Or.inr rfl)) (fun _ _ _ _ _ => pts_no) (fun _ _ _ _ _ => (pd_fmethO T.field (T.meth 129) (ok_Field_times T) (hr.mono (by first | decide | omega)) (pd_var 0) (pda_cons (pd_var 3) (pda_cons (pd_var 4) pda_nil))))))))) pda_nil)))))))
/-! meets -/
theorem sc_meets : FnScope ["tables", "one", "other", "total", "k", "sums", "products"] ["tables", "one", "other"] (defScope (top 66)) := ⟨rfl, rfl, rfl, by decide +kernel, rfl, by decide +kernel, by decide +kernel⟩
def g_meets : Env → Option Res :=
  (sSeq (fun env => bnd ((dVar 0) env) fun d => bnd ((setT [5, 6]) d env) fun e => some (.nx e))
    (sSeq (sSet 3 (dC (.int 0)))
    (sSeq (sFor (iRg1 (aCons (dC (.int 3)) aNil)) (setN 4) (sSet 3 (bop gIx (bop gIx (dVar 5) (dVar 3)) (bop gIx (bop gIx (dVar 6) (bop gIx (dVar 1) (dVar 4))) (bop gIx (dVar 2) (dVar 4))))))
    (sRet (bop gEq (dVar 3) (dC (.int 0)))))))
def d_meets : List D → Option D := runD 3 7 g_meets
theorem ok_meets (T : TX K mg) : OkD P w K mg base 1 (He.fAd K ("meets", none)) ["tables", "one", "other"] (spD K d_meets) := by
  obtain ⟨fd, F⟩ := T.says.def_ 49 (d := dd_meets) rfl
  have F : FunD K "meets" "meets" (defArgs (top 66)) (defBody (top 66)) (defScope (top 66)) [] [] (He.fAd K ("meets", none)) fd := F
  refine ⟨fd, fn_den (N := ["tables", "one", "other", "total", "k", "sums", "products"]) (ps := ["tables", "one", "other"]) F sc_meets g_meets (fun cdv A outer s H E hr => ?_), FunD.bindsN F (fun _ _ _ _ _ _ us hl => match us, hl with | [_, _, _], _ => rfl), F.kp⟩
  have nd := sc_meets.nd
  exact (pds_cons (ds_asg (pd_var 0) (dg_tup (dgs_cons 5 nd (dgs_cons 6 nd dgs_nil))))
    (pds_cons (ds_set 3 nd pd_int)
    (pds_cons (ds_for PassesOwn.never (pdi_rg1 (T.free 1) (pda_cons pd_int pda_nil)) (dg_name 4 nd) (pds_one (ds_set 3 nd (pd_ix ix_or dr_ix (pd_ix ix_or dr_ix (pd_var 5) (pd_var 3)) (pd_ix ix_or dr_ix (pd_ix ix_or dr_ix (pd_var 6) (pd_ix ix_or dr_ix (pd_var 1) (pd_var 4))) (pd_ix ix_or dr_ix (pd_var 2) (pd_var 4)))))))
    (pds_one (ds_ret (pd_cmp (op_eqM hr.units) dr_eq (pd_var 3) pd_int))))))
/-! plane_of -/
theorem sc_plane_of : FnScope ["field", "triples", "many", "tables", "blocks", "triple", "k"] ["field"] (defScope (top 67)) := ⟨rfl, rfl, rfl, by decide +kernel, rfl, by decide +kernel, by decide +kernel⟩
def g_plane_of : Env → Option Res :=
  (sSeq (sSet 1 (cll (aCons (dVar 0) aNil) d_triples_of))
    (sSeq (sSet 2 (cll (aCons (dVar 1) aNil) gLen))
    (sSeq (sSet 3 (cll (aCons (dVar 0) aNil) d_tables_of))
    (sSeq (sSetN 4 (nLst aNil))
    (sSeq (sFor (iAny (dVar 1)) (setN 5) (sApp 4 (fun env => bnd ((nLc [6] (iRg1 (aCons (dVar 2) aNil)) (setN 6) (tOfD (cll (aCons (dVar 3) (aCons (bop gIx (dVar 1) (dVar 6)) (aCons (dVar 5) aNil))) d_meets)) (dVar 6)) env) fun ds => some (.lst ds))))
    (sFrz 4 (sRet (cll (aCons (dVar 2) (aCons (dVar 4) aNil)) d_layout_of))))))))
def d_plane_of : List D → Option D := runD 1 7 g_plane_of
theorem ok_plane_of (T : TX K mg) : OkD P w K mg base 6 (He.fAd K ("plane_of", none)) ["field"] (spD K d_plane_of) := by
  obtain ⟨fd, F⟩ := T.says.def_ 50 (d := dd_plane_of) rfl
  have F : FunD K "plane_of" "plane_of" (defArgs (top 67)) (defBody (top 67)) (defScope (top 67)) [] [] (He.fAd K ("plane_of", none)) fd := F
  refine ⟨fd, fn_den (N := ["field", "triples", "many", "tables", "blocks", "triple", "k"]) (ps := ["field"]) F sc_plane_of g_plane_of (fun cdv A outer s H E hr => ?_), FunD.bindsN F (fun _ _ _ _ _ _ us hl => match us, hl with | [_], _ => rfl), F.kp⟩
  have nd := sc_plane_of.nd
  exact (pds_cons (ds_set 1 nd (pd_callO (ok_triples_of T) (hr.mono (by first | decide | omega)) (T.glo 63) (pda_cons (pd_var 0) pda_nil)))
    (pds_cons (ds_set 2 nd (pd_callB call_len dr_len rfl (T.free 0) PySem.boot_len (pda_cons (pd_var 1) pda_nil)))
    (pds_cons (ds_set 3 nd (pd_callO (ok_tables_of T) (hr.mono (by first | decide | omega)) (T.glo 64) (pda_cons (pd_var 0) pda_nil)))
    (pds_cons (ds_setN 4 nd (pn_lst pda_nil))
    (pds_cons (ds_for PassesOwn.never (pdi_any (pd_var 1)) (dg_name 5 nd) (pds_one (ds_app 4 (pd_ofN (pn_lc [("k", 6)] nd (tgOk_name 6) (pdi_rg1 (T.free 1) (pda_cons (pd_var 2) pda_nil)) (blkOk_by (by kernel_rfl)) (fun _ _ _ _ _ => pg_name (i := 6) nd rfl (by first | exact Or.inl rfl | exact Or.inr rfl)) (fun _ _ _ _ _ => pts_if (pdt_val (pd_callO (ok_meets T) (hr.mono (by first | decide | omega)) (T.glo 65) (pda_cons (pd_var 3) (pda_cons (pd_ix ix_or dr_ix (pd_var 1) (pd_var 6)) (pda_cons (pd_var 5) pda_nil)))))) (fun _ _ _ _ _ => (pd_var 6)))))))
    (pds_one (ds_frz 4 (ds_ret (pd_callO (ok_layout_of T) (hr.mono (by first | decide | omega)) (T.glo 27) (pda_cons (pd_var 2) (pda_cons (pd_var 4) pda_nil)))))))))))
/-! flat_of -/
theorem sc_flat_of : FnScope ["field", "size", "blocks", "m", "c", "y", "x"] ["field"] (defScope (top 68)) := ⟨rfl, rfl, rfl, by decide +kernel, rfl, by decide +kernel, by decide +kernel⟩
def g_flat_of : Env → Option Res :=
  (sSeq (sSet 1 (mll (dVar 0) aNil d_Field_size))
    (sSeq (sSetN 2 (nLst aNil))
    (sSeq (sFor (iRg1 (aCons (dVar 1) aNil)) (setN 3) (sFor (iRg1 (aCons (dVar 1) aNil)) (setN 4) (sApp 2 (fun env => bnd ((nLc [6] (iRg1 (aCons (dVar 1) aNil)) (setN 6) tYesD (bop gAdd (bop gMul (dVar 6) (dVar 1)) (mll (dVar 0) (aCons (mll (dVar 0) (aCons (dVar 3) (aCons (dVar 6) aNil)) d_Field_times) (aCons (dVar 4) aNil)) d_Field_plus))) env) fun ds => some (.lst ds)))))
    (sSeq (sFor (iRg1 (aCons (dVar 1) aNil)) (setN 4) (sApp 2 (fun env => bnd ((nLc [5] (iRg1 (aCons (dVar 1) aNil)) (setN 5) tYesD (bop gAdd (bop gMul (dVar 4) (dVar 1)) (dVar 5))) env) fun ds => some (.lst ds))))
    (sFrz 2 (sRet (cll (aCons (bop gMul (dVar 1) (dVar 1)) (aCons (dVar 2) aNil)) d_layout_of)))))))
def d_flat_of : List D → Option D := runD 1 7 g_flat_of
theorem ok_flat_of (T : TX K mg) : OkD P w K mg base 5 (He.fAd K ("flat_of", none)) ["field"] (spD K d_flat_of) := by
  obtain ⟨fd, F⟩ := T.says.def_ 51 (d := dd_flat_of) rfl
  have F : FunD K "flat_of" "flat_of" (defArgs (top 68)) (defBody (top 68)) (defScope (top 68)) [] [] (He.fAd K ("flat_of", none)) fd := F
  refine ⟨fd, fn_den (N := ["field", "size", "blocks", "m", "c", "y", "x"]) (ps := ["field"]) F sc_flat_of g_flat_of (fun cdv A outer s H E hr => ?_), FunD.bindsN F (fun _ _ _ _ _ _ us hl => match us, hl with | [_], _ => rfl), F.kp⟩
  have nd := sc_flat_of.nd
  exact (pds_cons (ds_set 1 nd (pd_fmethO0 T.field (T.meth 125) (ok_Field_size T) (hr.mono (by first | decide | omega)) (pd_var 0)))
    (pds_cons (ds_setN 2 nd (pn_lst pda_nil))
    (pds_cons (ds_for PassesOwn.never (pdi_rg1 (T.free 1) (pda_cons (pd_var 1) pda_nil)) (dg_name 3 nd) (pds_one (ds_for PassesOwn.never (pdi_rg1 (T.free 1) (pda_cons (pd_var 1) pda_nil)) (dg_name 4 nd) (pds_one (ds_app 2 (pd_ofN (pn_lc [("x", 6)] nd (tgOk_name 6) (pdi_rg1 (T.free 1) (pda_cons (pd_var 1) pda_nil)) (blkOk_by (by kernel_rfl)) (fun _ _ _ _ _ => pg_name (i := 6) nd rfl (by first | exact Or.inl rfl | exact Or.inr rfl)) (fun _ _ _ _ _ => pts_no) (fun _ _ _ _ _ => (pd_op or_add dr_add (pd_op or_mul dr_mul (pd_var 6) (pd_var 1)) (pd_fmethO T.field (T.meth 128) (ok_Field_plus T) (hr.mono (by first | decide | omega)) (pd_var 0) (pda_cons (pd_fmethO T.field (T.meth 129) (ok_Field_times T) (hr.mono (by first | decide | omega)) (pd_var 0) (pda_cons (pd_var 3) (pda_cons (pd_var 6) pda_nil))) (pda_cons (pd_var 4) pda_nil))))))))))))
    (pds_cons (ds_for PassesOwn.never (pdi_rg1 (T.free 1) (pda_cons (pd_var 1) pda_nil)) (dg_name 4 nd) (pds_one (ds_app 2 (pd_ofN (pn_lc [("y", 5)] nd (tgOk_name 5) (pdi_rg1 (T.free 1) (pda_cons (pd_var 1) pda_nil)) (blkOk_by (by kernel_rfl)) (fun _ _ _ _ _ => pg_name (i := 5) nd rfl (by first | exact Or.inl rfl | exact Or.inr rfl)) (fun _ _ _ _ _ => pts_no) (fun _ _ _ _ _ => (pd_op or_add dr_add (pd_op or_mul dr_mul (pd_var 4) (pd_var 1)) (pd_var 5))))))))
    (pds_one (ds_frz 2 (ds_ret (pd_callO (ok_layout_of T) (hr.mono (by first | decide | omega)) (T.glo 27) (pda_cons (pd_op or_mul dr_mul (pd_var 1) (pd_var 1)) (pda_cons (pd_var 2) pda_nil))))))))))
end
end EM
end
set_option maxHeartbeats 4000000
noncomputable section
namespace EM
open PySem PySem.Spec PyProof.Rows L2
section
variable {P : Program} {w : World} {K : PySem.W.Frag} {mg : Str → Option Value} {base : Heap}
/-! is_between -/
theorem sc_is_between : FnScope ["thing", "least", "greatest"] ["thing", "least", "greatest"] (defScope (top 73)) := ⟨rfl, rfl, rfl, by decide +kernel, rfl, by decide +kernel, by decide +kernel⟩
def g_is_between : Env → Option Res :=
  (sRet (dAndV (cll (aCons (dVar 0) aNil) (gIsi .int)) (dAndV (dNotV (cll (aCons (dVar 0) aNil) (gIsi .bool))) (dChain gLe gLe (dVar 1) (dVar 0) (dVar 2)))))
def d_is_between : List D → Option D := runD 3 3 g_is_between
theorem ok_is_between (T : TX K mg) : OkD P w K mg base 1 (He.fAd K ("is_between", none)) ["thing", "least", "greatest"] (spD K d_is_between) := by
  obtain ⟨fd, F⟩ := T.says.def_ 52 (d := dd_is_between) rfl
  have F : FunD K "is_between" "is_between" (defArgs (top 73)) (defBody (top 73)) (defScope (top 73)) [] [] (He.fAd K ("is_between", none)) fd := F
  refine ⟨fd, fn_den (N := ["thing", "least", "greatest"]) (ps := ["thing", "least", "greatest"]) F sc_is_between g_is_between (fun cdv A outer s H E hr => ?_), FunD.bindsN F (fun _ _ _ _ _ _ us hl => match us, hl with | [_, _, _], _ => rfl), F.kp⟩
  have nd := sc_is_between.nd
  exact (pds_one (ds_ret (pd_and (pd_isi .int (T.free 4) (T.free 5) (pd_var 0)) (pd_and (pd_not (pd_isi .bool (T.free 4) (T.free 6) (pd_var 0))) (pd_one (pd_chain op_le dr_le op_le dr_le (pd_var 1) (pd_var 0) (pd_var 2)))))))
/-! is_start -/
theorem sc_is_start : FnScope ["thing", "v", "k", "block", "point", "j"] ["thing", "v", "k"] (defScope (top 74)) := ⟨rfl, rfl, rfl, by decide +kernel, rfl, by decide +kernel, by decide +kernel⟩
def g_is_start : Env → Option Res :=
  (sSeq (sIf (tNotD (tOfD (cll (aCons (dVar 0) aNil) (gIsi .tuple)))) (sRet (dC (.bl false))) sNil)
    (sSeq (sFor (iAny (dVar 0)) (setN 3) (sSeq (sIf (tOrD (tNotD (tOfD (cll (aCons (dVar 3) aNil) (gIsi .tuple)))) (tOfD (bop gNe (cll (aCons (dVar 3) aNil) gLen) (dVar 2)))) (sRet (dC (.bl false))) sNil)
    (sSeq (sIf (tNotD (tOfD (cll (aCons (fun env => bnd ((nLc [4] (iAny (dVar 3)) (setN 4) tYesD (cll (aCons (dVar 4) (aCons (dC (.int 0)) (aCons (bop gSub (dVar 1) (dC (.int 1))) aNil))) d_is_between)) env) fun ds => some (.lst ds)) aNil) gAll))) (sRet (dC (.bl false))) sNil)
    (sIf (tNotD (tOfD (cll (aCons (fun env => bnd ((nLc [5] (iRg1 (aCons (bop gSub (dVar 2) (dC (.int 1))) aNil)) (setN 5) tYesD (bop gLt (bop gIx (dVar 3) (dVar 5)) (bop gIx (dVar 3) (bop gAdd (dVar 5) (dC (.int 1)))))) env) fun ds => some (.lst ds)) aNil) gAll))) (sRet (dC (.bl false))) sNil))))
    (sRet (dC (.bl true)))))
def d_is_start : List D → Option D := runD 3 6 g_is_start
theorem ok_is_start (T : TX K mg) : OkD P w K mg base 2 (He.fAd K ("is_start", none)) ["thing", "v", "k"] (spD K d_is_start) := by
  obtain ⟨fd, F⟩ := T.says.def_ 53 (d := dd_is_start) rfl
  have F : FunD K "is_start" "is_start" (defArgs (top 74)) (defBody (top 74)) (defScope (top 74)) [] [] (He.fAd K ("is_start", none)) fd := F
  refine ⟨fd, fn_den (N := ["thing", "v", "k", "block", "point", "j"]) (ps := ["thing", "v", "k"]) F sc_is_start g_is_start (fun cdv A outer s H E hr => ?_), FunD.bindsN F (fun _ _ _ _ _ _ us hl => match us, hl with | [_, _, _], _ => rfl), F.kp⟩
  have nd := sc_is_start.nd
  exact (pds_cons (ds_if (pdt_not (pdt_val (pd_isi .tuple (T.free 4) (T.free 3) (pd_var 0)))) (pds_one (ds_ret pd_bl)) pds_nil)
    (pds_cons (ds_for PassesOwn.never (pdi_any (pd_var 0)) (dg_name 3 nd) (pds_cons (ds_if (pdw_pt (pdw_or (pdt_not (pdt_val (pd_isi .tuple (T.free 4) (T.free 3) (pd_var 3)))) (pdw_or1 (pdt_cmp (op_neM hr.units) dr_ne (pd_callB call_len dr_len rfl (T.free 0) PySem.boot_len (pda_cons (pd_var 3) pda_nil)) (pd_var 2))))) (pds_one (ds_ret pd_bl)) pds_nil)
    (pds_cons (ds_if (pdt_not (pdt_val (pd_callB (cr_all rfl) dr_all rfl (T.free 14) (by decide +kernel) (pda_cons (pd_ofN (pn_lc [("point", 4)] nd (tgOk_name 4) (pdi_any (pd_var 3)) (blkOk_by (by kernel_rfl)) (fun _ _ _ _ _ => pg_name (i := 4) nd rfl (by first | exact Or.inl rfl | exact Or.inr rfl)) (fun _ _ _ _ _ => pts_no) (fun _ _ _ _ _ => (pd_callO (ok_is_between T) (hr.mono (by first | decide | omega)) (T.glo 68) (pda_cons (pd_var 4) (pda_cons pd_int (pda_cons (pd_op op_sub dr_sub (pd_var 1) pd_int) pda_nil))))))) pda_nil)))) (pds_one (ds_ret pd_bl)) pds_nil)
    (pds_one (ds_if (pdt_not (pdt_val (pd_callB (cr_all rfl) dr_all rfl (T.free 14) (by decide +kernel) (pda_cons (pd_ofN (pn_lc [("j", 5)] nd (tgOk_name 5) (pdi_rg1 (T.free 1) (pda_cons (pd_op op_sub dr_sub (pd_var 2) pd_int) pda_nil)) (blkOk_by (by kernel_rfl)) (fun _ _ _ _ _ => pg_name (i := 5) nd rfl (by first | exact Or.inl rfl | exact Or.inr rfl)) (fun _ _ _ _ _ => pts_no) (fun _ _ _ _ _ => (pd_cmp op_lt dr_lt (pd_ix ix_or dr_ix (pd_var 3) (pd_var 5)) (pd_ix ix_or dr_ix (pd_var 3) (pd_op or_add dr_add (pd_var 5) pd_int)))))) pda_nil)))) (pds_one (ds_ret pd_bl)) pds_nil)))))
    (pds_one (ds_ret pd_bl))))
/-! shares -/
theorem sc_shares : FnScope ["wish", "r", "v", "k", "l", "start"] ["wish"] (defScope (top 76)) := ⟨rfl, rfl, rfl, by decide +kernel, rfl, by decide +kernel, by decide +kernel⟩
def g_shares : Env → Option Res :=
  (sSeq (fun env => bnd ((dVar 0) env) fun d => bnd ((setT [2, 3, 4, 5]) d env) fun e => some (.nx e))
    (sSeq (sIf (tOfD (bop gNe (bop gMod (bop gMul (dVar 4) (bop gSub (dVar 2) (dC (.int 1)))) (bop gSub (dVar 3) (dC (.int 1)))) (dC (.int 0)))) (sRet (dC .non)) sNil)
    (sSeq (sSet 1 (bop gDiv (bop gMul (dVar 4) (bop gSub (dVar 2) (dC (.int 1)))) (bop gSub (dVar 3) (dC (.int 1)))))
    (sSeq (sIf (tOfD (bop gNe (bop gMod (bop gMul (dVar 2) (dVar 1)) (dVar 3)) (dC (.int 0)))) (sRet (dC .non)) sNil)
    (sRet (dTup (aCons (dVar 1) (aCons (bop gDiv (bop gMul (dVar 2) (dVar 1)) (dVar 3)) aNil))))))))
def d_shares : List D → Option D := runD 1 6 g_shares
theorem ok_shares (T : TX K mg) : OkD P w K mg base 1 (He.fAd K ("shares", none)) ["wish"] (spD K d_shares) := by
  obtain ⟨fd, F⟩ := T.says.def_ 55 (d := dd_shares) rfl
  have F : FunD K "shares" "shares" (defArgs (top 76)) (defBody (top 76)) (defScope (top 76)) [] [] (He.fAd K ("shares", none)) fd := F
  refine ⟨fd, fn_den (N := ["wish", "r", "v", "k", "l", "start"]) (ps := ["wish"]) F sc_shares g_shares (fun cdv A outer s H E hr => ?_), FunD.bindsN F (fun _ _ _ _ _ _ us hl => match us, hl with | [_], _ => rfl), F.kp⟩
  have nd := sc_shares.nd
  exact (pds_cons (ds_asg (pd_var 0) (dg_tup (dgs_cons 2 nd (dgs_cons 3 nd (dgs_cons 4 nd (dgs_cons 5 nd dgs_nil))))))
    (pds_cons (ds_if (pdt_cmp (op_neM hr.units) dr_ne (pd_op op_modN dr_mod (pd_op or_mul dr_mul (pd_var 4) (pd_op op_sub dr_sub (pd_var 2) pd_int)) (pd_op op_sub dr_sub (pd_var 3) pd_int)) pd_int) (pds_one (ds_ret pd_non)) pds_nil)
    (pds_cons (ds_set 1 nd (pd_op op_fdivN dr_div (pd_op or_mul dr_mul (pd_var 4) (pd_op op_sub dr_sub (pd_var 2) pd_int)) (pd_op op_sub dr_sub (pd_var 3) pd_int)))
    (pds_cons (ds_if (pdt_cmp (op_neM hr.units) dr_ne (pd_op op_modN dr_mod (pd_op or_mul dr_mul (pd_var 2) (pd_var 1)) (pd_var 3)) pd_int) (pds_one (ds_ret pd_non)) pds_nil)
    (pds_one (ds_ret (pd_tup (pda_cons (pd_var 1) (pda_cons (pd_op op_fdivN dr_div (pd_op or_mul dr_mul (pd_var 2) (pd_var 1)) (pd_var 3)) pda_nil)))))))))
/-! sets_of_building -/
theorem sc_sets_of_building : FnScope ["points", "many", "found", "at", "rest"] ["points", "many"] (defScope (top 81)) := ⟨rfl, rfl, rfl, by decide +kernel, rfl, by decide +kernel, by decide +kernel⟩
def g_sets_of_building (self_ : List D → Option D) : Env → Option Res :=
  (sSeq (sIf (tOfD (bop gEq (dVar 1) (dC (.int 0)))) (sRet (fun env => bnd ((nLst (aCons (dTup aNil) aNil)) env) fun ds => some (.lst ds))) sNil)
    (sSeq (sSetN 2 (nLst aNil))
    (sSeq (sFor (iRg1 (aCons (bop gAdd (bop gSub (cll (aCons (dVar 0) aNil) gLen) (dVar 1)) (dC (.int 1))) aNil)) (setN 3) (sFor (iAny (cll (aCons (dSl (dVar 0) (oSome (bop gAdd (dVar 3) (dC (.int 1)))) oNone) (aCons (bop gSub (dVar 1) (dC (.int 1))) aNil)) self_)) (setN 4) (sApp 2 (bop gAdd (dTup (aCons (bop gIx (dVar 0) (dVar 3)) aNil)) (dVar 4)))))
    (sFrz 2 (sRet (dVar 2))))))
def d_sets_of_building : Nat → List D → Option D
  | 0 => fun _ => none
  | n + 1 => runD 2 5 (g_sets_of_building (d_sets_of_building n))
theorem ok_sets_of_building (T : TX K mg) : ∀ n : Nat, OkD P w K mg base (n + 0) (He.fAd K ("sets_of_building", none)) ["points", "many"] (spD K (d_sets_of_building n))
  | 0 => by
    obtain ⟨fd, F⟩ := T.says.def_ 56 (d := dd_sets_of_building) rfl
    have F : FunD K "sets_of" "sets_of" (defArgs (top 81)) (defBody (top 81)) (defScope (top 81)) [] [] (He.fAd K ("sets_of_building", none)) fd := F
    exact okD_none F.kp (FunD.bindsN F (fun _ _ _ _ _ _ us hl => match us, hl with | [_, _], _ => rfl))
  | n + 1 => by
    obtain ⟨fd, F⟩ := T.says.def_ 56 (d := dd_sets_of_building) rfl
    have F : FunD K "sets_of" "sets_of" (defArgs (top 81)) (defBody (top 81)) (defScope (top 81)) [] [] (He.fAd K ("sets_of_building", none)) fd := F
    have IH := ok_sets_of_building T n
    have hl : n + 1 + 0 = (n + 0) + 1 := by omega
    rw [hl]
    refine ⟨fd, fn_den (N := ["points", "many", "found", "at", "rest"]) (ps := ["points", "many"]) F sc_sets_of_building (g_sets_of_building (d_sets_of_building n)) (fun cdv A outer s H E hr => ?_), FunD.bindsN F (fun _ _ _ _ _ _ us hl => match us, hl with | [_, _], _ => rfl), F.kp⟩
    have nd := sc_sets_of_building.nd
    exact (pds_cons (ds_if (pdt_cmp (op_eqM hr.units) dr_eq (pd_var 1) pd_int) (pds_one (ds_ret (pd_ofN (pn_lst (pda_cons (pd_tup pda_nil) pda_nil))))) pds_nil)
    (pds_cons (ds_setN 2 nd (pn_lst pda_nil))
    (pds_cons (ds_for PassesOwn.never (pdi_rg1 (T.free 1) (pda_cons (pd_op or_add dr_add (pd_op op_sub dr_sub (pd_callB call_len dr_len rfl (T.free 0) PySem.boot_len (pda_cons (pd_var 0) pda_nil)) (pd_var 1)) pd_int) pda_nil)) (dg_name 3 nd) (pds_one (ds_for PassesOwn.never (pdi_any (pd_callO IH (hr.mono (by first | decide | omega)) (T.glo 72) (pda_cons (pd_sl (pd_var 0) (pdo_some (pd_op or_add dr_add (pd_var 3) pd_int)) pdo_none) (pda_cons (pd_op op_sub dr_sub (pd_var 1) pd_int) pda_nil)))) (dg_name 4 nd) (pds_one (ds_app 2 (pd_op or_add dr_add (pd_tup (pda_cons (pd_ix ix_or dr_ix (pd_var 0) (pd_var 3)) pda_nil)) (pd_var 4)))))))
    (pds_one (ds_frz 2 (ds_ret (pd_var 2)))))))
/-! ways_of -/
theorem sc_ways_of : FnScope ["many", "some", "found", "k"] ["many", "some"] (defScope (top 83)) := ⟨rfl, rfl, rfl, by decide +kernel, rfl, by decide +kernel, by decide +kernel⟩
def g_ways_of : Env → Option Res :=
  (sSeq (sSet 2 (dC (.int 1)))
    (sSeq (sFor (iRg1 (aCons (dVar 1) aNil)) (setN 3) (sSet 2 (bop gDiv (bop gMul (dVar 2) (bop gSub (dVar 0) (dVar 3))) (bop gAdd (dVar 3) (dC (.int 1))))))
    (sRet (dVar 2))))
def d_ways_of : List D → Option D := runD 2 4 g_ways_of
theorem ok_ways_of (T : TX K mg) : OkD P w K mg base 1 (He.fAd K ("ways_of", none)) ["many", "some"] (spD K d_ways_of) := by
  obtain ⟨fd, F⟩ := T.says.def_ 57 (d := dd_ways_of) rfl
  have F : FunD K "ways_of" "ways_of" (defArgs (top 83)) (defBody (top 83)) (defScope (top 83)) [] [] (He.fAd K ("ways_of", none)) fd := F
  refine ⟨fd, fn_den (N := ["many", "some", "found", "k"]) (ps := ["many", "some"]) F sc_ways_of g_ways_of (fun cdv A outer s H E hr => ?_), FunD.bindsN F (fun _ _ _ _ _ _ us hl => match us, hl with | [_, _], _ => rfl), F.kp⟩
  have nd := sc_ways_of.nd
  exact (pds_cons (ds_set 2 nd pd_int)
    (pds_cons (ds_for PassesOwn.never (pdi_rg1 (T.free 1) (pda_cons (pd_var 1) pda_nil)) (dg_name 3 nd) (pds_one (ds_set 2 nd (pd_op op_fdivN dr_div (pd_op or_mul dr_mul (pd_var 2) (pd_op op_sub dr_sub (pd_var 0) (pd_var 3))) (pd_op or_add dr_add (pd_var 3) pd_int)))))
    (pds_one (ds_ret (pd_var 2)))))
/-! number_paper -/
theorem sc_number_paper : FnScope ["wish", "both", "told", "v", "k", "l", "start"] ["wish"] (defScope (top 84)) := ⟨rfl, rfl, rfl, by decide +kernel, rfl, by decide +kernel, by decide +kernel⟩
def g_number_paper : Env → Option Res :=
  (sSeq (fun env => bnd ((dVar 0) env) fun d => bnd ((setT [3, 4, 5, 6]) d env) fun e => some (.nx e))
    (sSeq (sSet 1 (cll (aCons (dVar 0) aNil) d_shares))
    (sSeq (sIf (tOfD (bop gIsN (dVar 1) (dC .non))) (sRet (dTup (aCons (dC (.str "share")) aNil))) sNil)
    (sSeq (sIf (tOrD (tOfD (bop gEq (dVar 4) (dVar 3))) (tOfD (bop gGt (bop gIx (dVar 1) (dC (.int 1))) (dVar 3)))) (sRet (dC .non)) sNil)
    (sSeq (sIf (tOfD (bop gLt (bop gIx (dVar 1) (dC (.int 1))) (dVar 3))) (sRet (dTup (aCons (dC (.str "fewer")) aNil))) sNil)
    (sSeq (sIf (tOfD (bop gEq (bop gMod (dVar 3) (dC (.int 2))) (dC (.int 0)))) (sSeq (sIf (tOfD (bop gEq (bop gMul (cll (aCons (bop gSub (dVar 4) (dVar 5)) aNil) d_root_of) (cll (aCons (bop gSub (dVar 4) (dVar 5)) aNil) d_root_of)) (bop gSub (dVar 4) (dVar 5)))) (sRet (dC .non)) sNil)
    (sRet (dTup (aCons (dC (.str "root")) aNil)))) sNil)
    (sSeq (sSet 2 (cll (aCons (bop gSub (dVar 4) (dVar 5)) (aCons (bop gIx (fun env => bnd ((nLst (aCons (dVar 5) (aCons (bop gSub (dC (.int 0)) (dVar 5)) aNil))) env) fun ds => some (.lst ds)) (bop gMod (bop gDiv (bop gSub (dVar 3) (dC (.int 1))) (dC (.int 2))) (dC (.int 2)))) aNil)) d_form_told))
    (sSeq (sIf (tOfD (bop gEq (bop gIx (dVar 2) (dC (.int 0))) (dC (.str "rest")))) (sRet (dTup (aCons (dC (.str "form")) (aCons (bop gIx (dVar 2) (dC (.int 1))) aNil)))) sNil)
    (sRet (dC .non))))))))))
def d_number_paper : List D → Option D := runD 1 7 g_number_paper
theorem ok_number_paper (T : TX K mg) : OkD P w K mg base 46 (He.fAd K ("number_paper", none)) ["wish"] (spD K d_number_paper) := by
  obtain ⟨fd, F⟩ := T.says.def_ 58 (d := dd_number_paper) rfl
  have F : FunD K "number_paper" "number_paper" (defArgs (top 84)) (defBody (top 84)) (defScope (top 84)) [] [] (He.fAd K ("number_paper", none)) fd := F
  refine ⟨fd, fn_den (N := ["wish", "both", "told", "v", "k", "l", "start"]) (ps := ["wish"]) F sc_number_paper g_number_paper (fun cdv A outer s H E hr => ?_), FunD.bindsN F (fun _ _ _ _ _ _ us hl => match us, hl with | [_], _ => rfl), F.kp⟩
  have nd := sc_number_paper.nd
  exact (pds_cons (ds_asg (pd_var 0) (dg_tup (dgs_cons 3 nd (dgs_cons 4 nd (dgs_cons 5 nd (dgs_cons 6 nd dgs_nil))))))
    (pds_cons (ds_set 1 nd (pd_callO (ok_shares T) (hr.mono (by first | decide | omega)) (T.glo 71) (pda_cons (pd_var 0) pda_nil)))
    (pds_cons (ds_if (pdt_cmp op_isN dr_isN (pd_var 1) pd_non) (pds_one (ds_ret (pd_tup (pda_cons pd_str pda_nil)))) pds_nil)
    (pds_cons (ds_if (pdw_pt (pdw_or (pdt_cmp (op_eqM hr.units) dr_eq (pd_var 4) (pd_var 3)) (pdw_or1 (pdt_cmp op_gt dr_gt (pd_ix ix_or dr_ix (pd_var 1) pd_int) (pd_var 3))))) (pds_one (ds_ret pd_non)) pds_nil)
    (pds_cons (ds_if (pdt_cmp op_lt dr_lt (pd_ix ix_or dr_ix (pd_var 1) pd_int) (pd_var 3)) (pds_one (ds_ret (pd_tup (pda_cons pd_str pda_nil)))) pds_nil)
    (pds_cons (ds_if (pdt_cmp (op_eqM hr.units) dr_eq (pd_op op_modN dr_mod (pd_var 3) pd_int) pd_int) (pds_cons (ds_if (pdt_cmp (op_eqM hr.units) dr_eq (pd_op or_mul dr_mul (pd_callO (ok_root_of T) (hr.mono (by first | decide | omega)) (T.glo 31) (pda_cons (pd_op op_sub dr_sub (pd_var 4) (pd_var 5)) pda_nil)) (pd_callO (ok_root_of T) (hr.mono (by first | decide | omega)) (T.glo 31) (pda_cons (pd_op op_sub dr_sub (pd_var 4) (pd_var 5)) pda_nil))) (pd_op op_sub dr_sub (pd_var 4) (pd_var 5))) (pds_one (ds_ret pd_non)) pds_nil)
    (pds_one (ds_ret (pd_tup (pda_cons pd_str pda_nil))))) pds_nil)
    (pds_cons (ds_set 2 nd (pd_callO (ok_form_told T) (hr.mono (by first | decide | omega)) (T.glo 62) (pda_cons (pd_op op_sub dr_sub (pd_var 4) (pd_var 5)) (pda_cons (pd_ix ix_or dr_ix (pd_ofN (pn_lst (pda_cons (pd_var 5) (pda_cons (pd_op op_sub dr_sub pd_int (pd_var 5)) pda_nil)))) (pd_op op_modN dr_mod (pd_op op_fdivN dr_div (pd_op op_sub dr_sub (pd_var 3) pd_int) pd_int) pd_int)) pda_nil))))
    (pds_cons (ds_if (pdt_cmp (op_eqM hr.units) dr_eq (pd_ix ix_or dr_ix (pd_var 2) pd_int) pd_str) (pds_one (ds_ret (pd_tup (pda_cons pd_str (pda_cons (pd_ix ix_or dr_ix (pd_var 2) pd_int) pda_nil))))) pds_nil)
    (pds_one (ds_ret pd_non))))))))))
/-! over_paper -/
theorem sc_over_paper : FnScope ["wish", "v", "k", "l", "start", "a", "b"] ["wish"] (defScope (top 85)) := ⟨rfl, rfl, rfl, by decide +kernel, rfl, by decide +kernel, by decide +kernel⟩
def g_over_paper : Env → Option Res :=
  (sSeq (fun env => bnd ((dVar 0) env) fun d => bnd ((setT [1, 2, 3, 4]) d env) fun e => some (.nx e))
    (sSeq (sFor (iAny (cll (aCons (dVar 1) aNil) d_pairs_of)) (setT [5, 6]) (sIf (tOfD (bop gGt (cll (aCons (dTup (aCons (dVar 1) (aCons (dVar 4) aNil))) (aCons (dTup (aCons (dVar 5) (aCons (dVar 6) aNil))) aNil)) d_count_of) (dVar 3))) (sRet (dTup (aCons (dC (.str "over")) (aCons (dVar 5) (aCons (dVar 6) aNil))))) sNil))
    (sRet (dC .non))))
def d_over_paper : List D → Option D := runD 1 7 g_over_paper
theorem ok_over_paper (T : TX K mg) : OkD P w K mg base 2 (He.fAd K ("over_paper", none)) ["wish"] (spD K d_over_paper) := by
  obtain ⟨fd, F⟩ := T.says.def_ 59 (d := dd_over_paper) rfl
  have F : FunD K "over_paper" "over_paper" (defArgs (top 85)) (defBody (top 85)) (defScope (top 85)) [] [] (He.fAd K ("over_paper", none)) fd := F
  refine ⟨fd, fn_den (N := ["wish", "v", "k", "l", "start", "a", "b"]) (ps := ["wish"]) F sc_over_paper g_over_paper (fun cdv A outer s H E hr => ?_), FunD.bindsN F (fun _ _ _ _ _ _ us hl => match us, hl with | [_], _ => rfl), F.kp⟩
  have nd := sc_over_paper.nd
  exact (pds_cons (ds_asg (pd_var 0) (dg_tup (dgs_cons 1 nd (dgs_cons 2 nd (dgs_cons 3 nd (dgs_cons 4 nd dgs_nil))))))
    (pds_cons (ds_for PassesOwn.never (pdi_any (pd_callO (ok_pairs_of T) (hr.mono (by first | decide | omega)) (T.glo 45) (pda_cons (pd_var 1) pda_nil))) (dg_tup (dgs_cons 5 nd (dgs_cons 6 nd dgs_nil))) (pds_one (ds_if (pdt_cmp op_gt dr_gt (pd_callO (ok_count_of T) (hr.mono (by first | decide | omega)) (T.glo 44) (pda_cons (pd_tup (pda_cons (pd_var 1) (pda_cons (pd_var 4) pda_nil))) (pda_cons (pd_tup (pda_cons (pd_var 5) (pda_cons (pd_var 6) pda_nil))) pda_nil))) (pd_var 3)) (pds_one (ds_ret (pd_tup (pda_cons pd_str (pda_cons (pd_var 5) (pda_cons (pd_var 6) pda_nil)))))) pds_nil)))
    (pds_one (ds_ret pd_non))))
/-! turned_design -/
theorem sc_turned_design : FnScope ["wish", "many", "told", "v", "k", "l", "start"] ["wish"] (defScope (top 88)) := ⟨rfl, rfl, rfl, by decide +kernel, rfl, by decide +kernel, by decide +kernel⟩
def g_turned_design : Env → Option Res :=
  (sSeq (fun env => bnd ((dVar 0) env) fun d => bnd ((setT [3, 4, 5, 6]) d env) fun e => some (.nx e))
    (sSeq (sSet 1 (bop gDiv (bop gMul (dVar 5) (bop gSub (dVar 3) (dC (.int 1)))) (bop gMul (dVar 4) (bop gSub (dVar 4) (dC (.int 1))))))
    (sSeq (sIf (tOrD (tOfD (bop gGt (dVar 3) (dC (.int 13)))) (tOrD (tOfD (bop gGt (dVar 4) (dC (.int 4)))) (tOrD (tOfD (bop gGt (dVar 1) (dC (.int 3)))) (tOfD (bop gNe (bop gMul (bop gMul (dVar 1) (dVar 4)) (bop gSub (dVar 4) (dC (.int 1)))) (bop gMul (dVar 5) (bop gSub (dVar 3) (dC (.int 1))))))))) (sRet (dC .non)) sNil)
    (sSeq (sSet 2 (cll (aCons (dVar 3) (aCons (dVar 4) (aCons (dVar 5) aNil))) d_bases_for))
    (sSeq (sIf (tOfD (bop gEq (bop gIx (dVar 2) (dC (.int 0))) (dC (.str "bases")))) (sRet (cll (aCons (dVar 3) (aCons (bop gIx (dVar 2) (dC (.int 1))) aNil)) d_developed)) sNil)
    (sRet (dC .non)))))))
def d_turned_design : List D → Option D := runD 1 7 g_turned_design
theorem ok_turned_design (T : TX K mg) : OkD P w K mg base 7 (He.fAd K ("turned_design", none)) ["wish"] (spD K d_turned_design) := by
  obtain ⟨fd, F⟩ := T.says.def_ 62 (d := dd_turned_design) rfl
  have F : FunD K "turned_design" "turned_design" (defArgs (top 88)) (defBody (top 88)) (defScope (top 88)) [] [] (He.fAd K ("turned_design", none)) fd := F
  refine ⟨fd, fn_den (N := ["wish", "many", "told", "v", "k", "l", "start"]) (ps := ["wish"]) F sc_turned_design g_turned_design (fun cdv A outer s H E hr => ?_), FunD.bindsN F (fun _ _ _ _ _ _ us hl => match us, hl with | [_], _ => rfl), F.kp⟩
  have nd := sc_turned_design.nd
  exact (pds_cons (ds_asg (pd_var 0) (dg_tup (dgs_cons 3 nd (dgs_cons 4 nd (dgs_cons 5 nd (dgs_cons 6 nd dgs_nil))))))
    (pds_cons (ds_set 1 nd (pd_op op_fdivN dr_div (pd_op or_mul dr_mul (pd_var 5) (pd_op op_sub dr_sub (pd_var 3) pd_int)) (pd_op or_mul dr_mul (pd_var 4) (pd_op op_sub dr_sub (pd_var 4) pd_int))))
    (pds_cons (ds_if (pdw_pt (pdw_or (pdt_cmp op_gt dr_gt (pd_var 3) (T.cst 22 rfl)) (pdw_or (pdt_cmp op_gt dr_gt (pd_var 4) pd_int) (pdw_or (pdt_cmp op_gt dr_gt (pd_var 1) pd_int) (pdw_or1 (pdt_cmp (op_neM hr.units) dr_ne (pd_op or_mul dr_mul (pd_op or_mul dr_mul (pd_var 1) (pd_var 4)) (pd_op op_sub dr_sub (pd_var 4) pd_int)) (pd_op or_mul dr_mul (pd_var 5) (pd_op op_sub dr_sub (pd_var 3) pd_int)))))))) (pds_one (ds_ret pd_non)) pds_nil)
    (pds_cons (ds_set 2 nd (pd_callO (ok_bases_for T) (hr.mono (by first | decide | omega)) (T.glo 42) (pda_cons (pd_var 3) (pda_cons (pd_var 4) (pda_cons (pd_var 5) pda_nil)))))
    (pds_cons (ds_if (pdt_cmp (op_eqM hr.units) dr_eq (pd_ix ix_or dr_ix (pd_var 2) pd_int) pd_str) (pds_one (ds_ret (pd_callO (ok_developed T) (hr.mono (by first | decide | omega)) (T.glo 38) (pda_cons (pd_var 3) (pda_cons (pd_ix ix_or dr_ix (pd_var 2) pd_int) pda_nil))))) pds_nil)
    (pds_one (ds_ret pd_non)))))))
end
end EM
end
set_option maxHeartbeats 4000000
noncomputable section
namespace EM
open PySem PySem.Spec PyProof.Rows L2
section
variable {P : Program} {w : World} {K : PySem.W.Frag} {mg : Str → Option Value} {base : Heap}
/-! is_whole_papers -/
theorem sc_is_whole_papers : FnScope ["thing"] ["thing"] (defScope (top 94)) := ⟨rfl, rfl, rfl, by decide +kernel, rfl, by decide +kernel, by decide +kernel⟩
def g_is_whole_papers : Env → Option Res :=
  (sRet (dAndV (cll (aCons (dVar 0) aNil) (gIsi .int)) (dNotV (cll (aCons (dVar 0) aNil) (gIsi .bool)))))
def d_is_whole_papers : List D → Option D := runD 1 1 g_is_whole_papers
theorem ok_is_whole_papers (T : TX K mg) : OkD P w K mg base 1 (He.fAd K ("is_whole_papers", none)) ["thing"] (spD K d_is_whole_papers) := by
  obtain ⟨fd, F⟩ := T.says.def_ 71 (d := dd_is_whole_papers) rfl
  have F : FunD K "is_whole" "is_whole" (defArgs (top 94)) (defBody (top 94)) (defScope (top 94)) [] [] (He.fAd K ("is_whole_papers", none)) fd := F
  refine ⟨fd, fn_den (N := ["thing"]) (ps := ["thing"]) F sc_is_whole_papers g_is_whole_papers (fun cdv A outer s H E hr => ?_), FunD.bindsN F (fun _ _ _ _ _ _ us hl => match us, hl with | [_], _ => rfl), F.kp⟩
  have nd := sc_is_whole_papers.nd
  exact (pds_one (ds_ret (pd_and (pd_isi .int (T.free 4) (T.free 5) (pd_var 0)) (pd_one (pd_not (pd_isi .bool (T.free 4) (T.free 6) (pd_var 0)))))))
/-! are_whole -/
theorem sc_are_whole : FnScope ["things", "thing"] ["things"] (defScope (top 96)) := ⟨rfl, rfl, rfl, by decide +kernel, rfl, by decide +kernel, by decide +kernel⟩
def g_are_whole : Env → Option Res :=
  (sRet (cll (aCons (fun env => bnd ((nLc [1] (iAny (dVar 0)) (setN 1) tYesD (cll (aCons (dVar 1) aNil) d_is_whole_papers)) env) fun ds => some (.lst ds)) aNil) gAll))
def d_are_whole : List D → Option D := runD 1 2 g_are_whole
theorem ok_are_whole (T : TX K mg) : OkD P w K mg base 2 (He.fAd K ("are_whole", none)) ["things"] (spD K d_are_whole) := by
  obtain ⟨fd, F⟩ := T.says.def_ 72 (d := dd_are_whole) rfl
  have F : FunD K "are_whole" "are_whole" (defArgs (top 96)) (defBody (top 96)) (defScope (top 96)) [] [] (He.fAd K ("are_whole", none)) fd := F
  refine ⟨fd, fn_den (N := ["things", "thing"]) (ps := ["things"]) F sc_are_whole g_are_whole (fun cdv A outer s H E hr => ?_), FunD.bindsN F (fun _ _ _ _ _ _ us hl => match us, hl with | [_], _ => rfl), F.kp⟩
  have nd := sc_are_whole.nd
  exact (pds_one (ds_ret (pd_callB (cr_all rfl) dr_all rfl (T.free 14) (by decide +kernel) (pda_cons (pd_ofN (pn_lc [("thing", 1)] nd (tgOk_name 1) (pdi_any (pd_var 0)) (blkOk_by (by kernel_rfl)) (fun _ _ _ _ _ => pg_name (i := 1) nd rfl (by first | exact Or.inl rfl | exact Or.inr rfl)) (fun _ _ _ _ _ => pts_no) (fun _ _ _ _ _ => (pd_callO (ok_is_whole_papers T) (hr.mono (by first | decide | omega)) (T.glo 81) (pda_cons (pd_var 1) pda_nil))))) pda_nil))))
/-! counted -/
theorem sc_counted : FnScope ["wish", "degree", "points", "size", "often", "start"] ["wish"] (defScope (top 97)) := ⟨rfl, rfl, rfl, by decide +kernel, rfl, by decide +kernel, by decide +kernel⟩
def g_counted : Env → Option Res :=
  (sSeq (fun env => bnd ((dVar 0) env) fun d => bnd ((setT [2, 3, 4, 5]) d env) fun e => some (.nx e))
    (sSeq (sIf (tOfD (bop gNe (bop gMod (bop gMul (dVar 4) (bop gSub (dVar 2) (dC (.int 1)))) (bop gSub (dVar 3) (dC (.int 1)))) (dC (.int 0)))) (sRet (dC .non)) sNil)
    (sSeq (sSet 1 (bop gDiv (bop gMul (dVar 4) (bop gSub (dVar 2) (dC (.int 1)))) (bop gSub (dVar 3) (dC (.int 1)))))
    (sSeq (sIf (tOfD (bop gNe (bop gMod (bop gMul (dVar 2) (dVar 1)) (dVar 3)) (dC (.int 0)))) (sRet (dC .non)) sNil)
    (sRet (dTup (aCons (dVar 1) (aCons (bop gDiv (bop gMul (dVar 2) (dVar 1)) (dVar 3)) aNil))))))))
def d_counted : List D → Option D := runD 1 6 g_counted
theorem ok_counted (T : TX K mg) : OkD P w K mg base 1 (He.fAd K ("counted", none)) ["wish"] (spD K d_counted) := by
  obtain ⟨fd, F⟩ := T.says.def_ 73 (d := dd_counted) rfl
  have F : FunD K "counted" "counted" (defArgs (top 97)) (defBody (top 97)) (defScope (top 97)) [] [] (He.fAd K ("counted", none)) fd := F
  refine ⟨fd, fn_den (N := ["wish", "degree", "points", "size", "often", "start"]) (ps := ["wish"]) F sc_counted g_counted (fun cdv A outer s H E hr => ?_), FunD.bindsN F (fun _ _ _ _ _ _ us hl => match us, hl with | [_], _ => rfl), F.kp⟩
  have nd := sc_counted.nd
  exact (pds_cons (ds_asg (pd_var 0) (dg_tup (dgs_cons 2 nd (dgs_cons 3 nd (dgs_cons 4 nd (dgs_cons 5 nd dgs_nil))))))
    (pds_cons (ds_if (pdt_cmp (op_neM hr.units) dr_ne (pd_op op_modN dr_mod (pd_op or_mul dr_mul (pd_var 4) (pd_op op_sub dr_sub (pd_var 2) pd_int)) (pd_op op_sub dr_sub (pd_var 3) pd_int)) pd_int) (pds_one (ds_ret pd_non)) pds_nil)
    (pds_cons (ds_set 1 nd (pd_op op_fdivN dr_div (pd_op or_mul dr_mul (pd_var 4) (pd_op op_sub dr_sub (pd_var 2) pd_int)) (pd_op op_sub dr_sub (pd_var 3) pd_int)))
    (pds_cons (ds_if (pdt_cmp (op_neM hr.units) dr_ne (pd_op op_modN dr_mod (pd_op or_mul dr_mul (pd_var 2) (pd_var 1)) (pd_var 3)) pd_int) (pds_one (ds_ret pd_non)) pds_nil)
    (pds_one (ds_ret (pd_tup (pda_cons (pd_var 1) (pda_cons (pd_op op_fdivN dr_div (pd_op or_mul dr_mul (pd_var 2) (pd_var 1)) (pd_var 3)) pda_nil)))))))))
/-! blocks_due -/
theorem sc_blocks_due : FnScope ["wish", "counts"] ["wish"] (defScope (top 98)) := ⟨rfl, rfl, rfl, by decide +kernel, rfl, by decide +kernel, by decide +kernel⟩
def g_blocks_due : Env → Option Res :=
  (sSeq (sSet 1 (cll (aCons (dVar 0) aNil) d_counted))
    (sSeq (sIf (tOrD (tOfD (bop gIsN (dVar 1) (dC .non))) (tOfD (bop gEq (bop gIx (dVar 0) (dC (.int 1))) (bop gIx (dVar 0) (dC (.int 0)))))) (sRet (dC .non)) sNil)
    (sRet (bop gIx (dVar 1) (dC (.int 1))))))
def d_blocks_due : List D → Option D := runD 1 2 g_blocks_due
theorem ok_blocks_due (T : TX K mg) : OkD P w K mg base 2 (He.fAd K ("blocks_due", none)) ["wish"] (spD K d_blocks_due) := by
  obtain ⟨fd, F⟩ := T.says.def_ 74 (d := dd_blocks_due) rfl
  have F : FunD K "blocks_due" "blocks_due" (defArgs (top 98)) (defBody (top 98)) (defScope (top 98)) [] [] (He.fAd K ("blocks_due", none)) fd := F
  refine ⟨fd, fn_den (N := ["wish", "counts"]) (ps := ["wish"]) F sc_blocks_due g_blocks_due (fun cdv A outer s H E hr => ?_), FunD.bindsN F (fun _ _ _ _ _ _ us hl => match us, hl with | [_], _ => rfl), F.kp⟩
  have nd := sc_blocks_due.nd
  exact (pds_cons (ds_set 1 nd (pd_callO (ok_counted T) (hr.mono (by first | decide | omega)) (T.glo 83) (pda_cons (pd_var 0) pda_nil)))
    (pds_cons (ds_if (pdw_pt (pdw_or (pdt_cmp op_isN dr_isN (pd_var 1) pd_non) (pdw_or1 (pdt_cmp (op_eqM hr.units) dr_eq (pd_ix ix_or dr_ix (pd_var 0) pd_int) (pd_ix ix_or dr_ix (pd_var 0) pd_int))))) (pds_one (ds_ret pd_non)) pds_nil)
    (pds_one (ds_ret (pd_ix ix_or dr_ix (pd_var 1) pd_int)))))
/-! share_taken -/
theorem sc_share_taken : FnScope ["wish"] ["wish"] (defScope (top 99)) := ⟨rfl, rfl, rfl, by decide +kernel, rfl, by decide +kernel, by decide +kernel⟩
def g_share_taken : Env → Option Res :=
  (sRet (bop gIsN (cll (aCons (dVar 0) aNil) d_counted) (dC .non)))
def d_share_taken : List D → Option D := runD 1 1 g_share_taken
theorem ok_share_taken (T : TX K mg) : OkD P w K mg base 2 (He.fAd K ("share_taken", none)) ["wish"] (spD K d_share_taken) := by
  obtain ⟨fd, F⟩ := T.says.def_ 75 (d := dd_share_taken) rfl
  have F : FunD K "share_taken" "share_taken" (defArgs (top 99)) (defBody (top 99)) (defScope (top 99)) [] [] (He.fAd K ("share_taken", none)) fd := F
  refine ⟨fd, fn_den (N := ["wish"]) (ps := ["wish"]) F sc_share_taken g_share_taken (fun cdv A outer s H E hr => ?_), FunD.bindsN F (fun _ _ _ _ _ _ us hl => match us, hl with | [_], _ => rfl), F.kp⟩
  have nd := sc_share_taken.nd
  exact (pds_one (ds_ret (pd_cmp op_isN dr_isN (pd_callO (ok_counted T) (hr.mono (by first | decide | omega)) (T.glo 83) (pda_cons (pd_var 0) pda_nil)) pd_non)))
/-! fewer_taken -/
theorem sc_fewer_taken : FnScope ["wish", "many"] ["wish"] (defScope (top 100)) := ⟨rfl, rfl, rfl, by decide +kernel, rfl, by decide +kernel, by decide +kernel⟩
def g_fewer_taken : Env → Option Res :=
  (sSeq (sSet 1 (cll (aCons (dVar 0) aNil) d_blocks_due))
    (sRet (dAndV (bop gNotN (dVar 1) (dC .non)) (bop gLt (dVar 1) (bop gIx (dVar 0) (dC (.int 0)))))))
def d_fewer_taken : List D → Option D := runD 1 2 g_fewer_taken
theorem ok_fewer_taken (T : TX K mg) : OkD P w K mg base 3 (He.fAd K ("fewer_taken", none)) ["wish"] (spD K d_fewer_taken) := by
  obtain ⟨fd, F⟩ := T.says.def_ 76 (d := dd_fewer_taken) rfl
  have F : FunD K "fewer_taken" "fewer_taken" (defArgs (top 100)) (defBody (top 100)) (defScope (top 100)) [] [] (He.fAd K ("fewer_taken", none)) fd := F
  refine ⟨fd, fn_den (N := ["wish", "many"]) (ps := ["wish"]) F sc_fewer_taken g_fewer_taken (fun cdv A outer s H E hr => ?_), FunD.bindsN F (fun _ _ _ _ _ _ us hl => match us, hl with | [_], _ => rfl), F.kp⟩
  have nd := sc_fewer_taken.nd
  exact (pds_cons (ds_set 1 nd (pd_callO (ok_blocks_due T) (hr.mono (by first | decide | omega)) (T.glo 84) (pda_cons (pd_var 0) pda_nil)))
    (pds_one (ds_ret (pd_and (pd_cmp op_notN dr_notN (pd_var 1) pd_non) (pd_one (pd_cmp op_lt dr_lt (pd_var 1) (pd_ix ix_or dr_ix (pd_var 0) pd_int)))))))
/-! root_taken -/
theorem sc_root_taken : FnScope ["wish", "points", "size", "often", "start"] ["wish"] (defScope (top 101)) := ⟨rfl, rfl, rfl, by decide +kernel, rfl, by decide +kernel, by decide +kernel⟩
def g_root_taken : Env → Option Res :=
  (sSeq (fun env => bnd ((dVar 0) env) fun d => bnd ((setT [1, 2, 3, 4]) d env) fun e => some (.nx e))
    (sSeq (sIf (tOrD (tOfD (bop gNe (cll (aCons (dVar 0) aNil) d_blocks_due) (dVar 1))) (tOfD (bop gEq (bop gMod (dVar 1) (dC (.int 2))) (dC (.int 1))))) (sRet (dC (.bl false))) sNil)
    (sRet (bop gNe (bop gPow (cll (aCons (bop gSub (dVar 2) (dVar 3)) aNil) d_root_of) (dC (.int 2))) (bop gSub (dVar 2) (dVar 3))))))
def d_root_taken : List D → Option D := runD 1 5 g_root_taken
theorem ok_root_taken (T : TX K mg) : OkD P w K mg base 4 (He.fAd K ("root_taken", none)) ["wish"] (spD K d_root_taken) := by
  obtain ⟨fd, F⟩ := T.says.def_ 77 (d := dd_root_taken) rfl
  have F : FunD K "root_taken" "root_taken" (defArgs (top 101)) (defBody (top 101)) (defScope (top 101)) [] [] (He.fAd K ("root_taken", none)) fd := F
  refine ⟨fd, fn_den (N := ["wish", "points", "size", "often", "start"]) (ps := ["wish"]) F sc_root_taken g_root_taken (fun cdv A outer s H E hr => ?_), FunD.bindsN F (fun _ _ _ _ _ _ us hl => match us, hl with | [_], _ => rfl), F.kp⟩
  have nd := sc_root_taken.nd
  exact (pds_cons (ds_asg (pd_var 0) (dg_tup (dgs_cons 1 nd (dgs_cons 2 nd (dgs_cons 3 nd (dgs_cons 4 nd dgs_nil))))))
    (pds_cons (ds_if (pdw_pt (pdw_or (pdt_cmp (op_neM hr.units) dr_ne (pd_callO (ok_blocks_due T) (hr.mono (by first | decide | omega)) (T.glo 84) (pda_cons (pd_var 0) pda_nil)) (pd_var 1)) (pdw_or1 (pdt_cmp (op_eqM hr.units) dr_eq (pd_op op_modN dr_mod (pd_var 1) pd_int) pd_int)))) (pds_one (ds_ret pd_bl)) pds_nil)
    (pds_one (ds_ret (pd_cmp (op_neM hr.units) dr_ne (pd_op op_pow dr_pow (pd_callO (ok_root_of T) (hr.mono (by first | decide | omega)) (T.glo 31) (pda_cons (pd_op op_sub dr_sub (pd_var 2) (pd_var 3)) pda_nil)) pd_int) (pd_op op_sub dr_sub (pd_var 2) (pd_var 3)))))))
/-! form_taken -/
theorem sc_form_taken : FnScope ["wish", "prime", "second", "points", "size", "often", "start"] ["wish", "prime"] (defScope (top 102)) := ⟨rfl, rfl, rfl, by decide +kernel, rfl, by decide +kernel, by decide +kernel⟩
def g_form_taken : Env → Option Res :=
  (sSeq (fun env => bnd ((dVar 0) env) fun d => bnd ((setT [3, 4, 5, 6]) d env) fun e => some (.nx e))
    (sSeq (sIf (tOrD (tOfD (bop gNe (cll (aCons (dVar 0) aNil) d_blocks_due) (dVar 3))) (tOrD (tOfD (bop gEq (bop gMod (dVar 3) (dC (.int 2))) (dC (.int 0)))) (tOfD (bop gLt (dVar 1) (dC (.int 3)))))) (sRet (dC (.bl false))) sNil)
    (sSeq (sSet 2 (dVar 5))
    (sSeq (sIf (tOfD (bop gNe (bop gMod (bop gSub (dVar 3) (dC (.int 1))) (dC (.int 4))) (dC (.int 0)))) (sSet 2 (bop gSub (dC (.int 0)) (dVar 5))) sNil)
    (sRet (cll (aCons (bop gSub (dVar 4) (dVar 5)) (aCons (dVar 2) (aCons (dVar 1) aNil))) d_shuts))))))
def d_form_taken : List D → Option D := runD 2 7 g_form_taken
theorem ok_form_taken (T : TX K mg) : OkD P w K mg base 8 (He.fAd K ("form_taken", none)) ["wish", "prime"] (spD K d_form_taken) := by
  obtain ⟨fd, F⟩ := T.says.def_ 78 (d := dd_form_taken) rfl
  have F : FunD K "form_taken" "form_taken" (defArgs (top 102)) (defBody (top 102)) (defScope (top 102)) [] [] (He.fAd K ("form_taken", none)) fd := F
  refine ⟨fd, fn_den (N := ["wish", "prime", "second", "points", "size", "often", "start"]) (ps := ["wish", "prime"]) F sc_form_taken g_form_taken (fun cdv A outer s H E hr => ?_), FunD.bindsN F (fun _ _ _ _ _ _ us hl => match us, hl with | [_, _], _ => rfl), F.kp⟩
  have nd := sc_form_taken.nd
  exact (pds_cons (ds_asg (pd_var 0) (dg_tup (dgs_cons 3 nd (dgs_cons 4 nd (dgs_cons 5 nd (dgs_cons 6 nd dgs_nil))))))
    (pds_cons (ds_if (pdw_pt (pdw_or (pdt_cmp (op_neM hr.units) dr_ne (pd_callO (ok_blocks_due T) (hr.mono (by first | decide | omega)) (T.glo 84) (pda_cons (pd_var 0) pda_nil)) (pd_var 3)) (pdw_or (pdt_cmp (op_eqM hr.units) dr_eq (pd_op op_modN dr_mod (pd_var 3) pd_int) pd_int) (pdw_or1 (pdt_cmp op_lt dr_lt (pd_var 1) pd_int))))) (pds_one (ds_ret pd_bl)) pds_nil)
    (pds_cons (ds_set 2 nd (pd_var 5))
    (pds_cons (ds_if (pdt_cmp (op_neM hr.units) dr_ne (pd_op op_modN dr_mod (pd_op op_sub dr_sub (pd_var 3) pd_int) pd_int) pd_int) (pds_one (ds_set 2 nd (pd_op op_sub dr_sub pd_int (pd_var 5)))) pds_nil)
    (pds_one (ds_ret (pd_callO (ok_shuts T) (hr.mono (by first | decide | omega)) (T.glo 59) (pda_cons (pd_op op_sub dr_sub (pd_var 4) (pd_var 5)) (pda_cons (pd_var 2) (pda_cons (pd_var 1) pda_nil))))))))))
/-! over_taken -/
theorem sc_over_taken : FnScope ["wish", "one", "other", "points", "size", "often", "start", "block"] ["wish", "one", "other"] (defScope (top 103)) := ⟨rfl, rfl, rfl, by decide +kernel, rfl, by decide +kernel, by decide +kernel⟩
def g_over_taken : Env → Option Res :=
  (sSeq (fun env => bnd ((dVar 0) env) fun d => bnd ((setT [3, 4, 5, 6]) d env) fun e => some (.nx e))
    (sSeq (sIf (tNotD (tOfD (dChain3 gLe gLt gLt (dC (.int 0)) (dVar 1) (dVar 2) (dVar 3)))) (sRet (dC (.bl false))) sNil)
    (sRet (bop gGt (cll (aCons (fun env => bnd ((nLc [7] (iAny (dVar 6)) (setN 7) (tAndD (tOfD (bop (gInN false) (dVar 1) (dVar 7))) (tOfD (bop (gInN false) (dVar 2) (dVar 7)))) (dVar 7)) env) fun ds => some (.lst ds)) aNil) gLen) (dVar 5)))))
def d_over_taken : List D → Option D := runD 3 8 g_over_taken
theorem ok_over_taken (T : TX K mg) : OkD P w K mg base 1 (He.fAd K ("over_taken", none)) ["wish", "one", "other"] (spD K d_over_taken) := by
  obtain ⟨fd, F⟩ := T.says.def_ 79 (d := dd_over_taken) rfl
  have F : FunD K "over_taken" "over_taken" (defArgs (top 103)) (defBody (top 103)) (defScope (top 103)) [] [] (He.fAd K ("over_taken", none)) fd := F
  refine ⟨fd, fn_den (N := ["wish", "one", "other", "points", "size", "often", "start", "block"]) (ps := ["wish", "one", "other"]) F sc_over_taken g_over_taken (fun cdv A outer s H E hr => ?_), FunD.bindsN F (fun _ _ _ _ _ _ us hl => match us, hl with | [_, _, _], _ => rfl), F.kp⟩
  have nd := sc_over_taken.nd
  exact (pds_cons (ds_asg (pd_var 0) (dg_tup (dgs_cons 3 nd (dgs_cons 4 nd (dgs_cons 5 nd (dgs_cons 6 nd dgs_nil))))))
    (pds_cons (ds_if (pdt_not (pdt_chain3 op_le dr_le op_lt dr_lt op_lt dr_lt pd_int (pd_var 1) (pd_var 2) (pd_var 3))) (pds_one (ds_ret pd_bl)) pds_nil)
    (pds_one (ds_ret (pd_cmp op_gt dr_gt (pd_callB call_len dr_len rfl (T.free 0) PySem.boot_len (pda_cons (pd_ofN (pn_lc [("block", 7)] nd (tgOk_name 7) (pdi_any (pd_var 6)) (blkOk_by (by kernel_rfl)) (fun _ _ _ _ _ => pg_name (i := 7) nd rfl (by first | exact Or.inl rfl | exact Or.inr rfl)) (fun _ _ _ _ _ => pts_if (pdw_pt (pdw_and (pdt_cmp op_in_seq (dr_in false) (pd_var 1) (pd_var 7)) (pdw_and1 (pdt_cmp op_in_seq (dr_in false) (pd_var 2) (pd_var 7)))))) (fun _ _ _ _ _ => (pd_var 7)))) pda_nil)) (pd_var 5))))))
/-! pairs_in -/
theorem sc_pairs_in : FnScope ["block", "found", "k", "j"] ["block"] (defScope (top 104)) := ⟨rfl, rfl, rfl, by decide +kernel, rfl, by decide +kernel, by decide +kernel⟩
def g_pairs_in : Env → Option Res :=
  (sSeq (sSetN 1 (nLst aNil))
    (sSeq (sFor (iRg1 (aCons (cll (aCons (dVar 0) aNil) gLen) aNil)) (setN 2) (sExt 1 (fun env => bnd ((nLc [3] (iRg1 (aCons (dVar 2) aNil)) (setN 3) tYesD (dTup (aCons (bop gIx (dVar 0) (dVar 3)) (aCons (bop gIx (dVar 0) (dVar 2)) aNil)))) env) fun ds => some (.lst ds))))
    (sFrz 1 (sRet (dVar 1)))))
def d_pairs_in : List D → Option D := runD 1 4 g_pairs_in
theorem ok_pairs_in (T : TX K mg) : OkD P w K mg base 1 (He.fAd K ("pairs_in", none)) ["block"] (spD K d_pairs_in) := by
  obtain ⟨fd, F⟩ := T.says.def_ 80 (d := dd_pairs_in) rfl
  have F : FunD K "pairs_in" "pairs_in" (defArgs (top 104)) (defBody (top 104)) (defScope (top 104)) [] [] (He.fAd K ("pairs_in", none)) fd := F
  refine ⟨fd, fn_den (N := ["block", "found", "k", "j"]) (ps := ["block"]) F sc_pairs_in g_pairs_in (fun cdv A outer s H E hr => ?_), FunD.bindsN F (fun _ _ _ _ _ _ us hl => match us, hl with | [_], _ => rfl), F.kp⟩
  have nd := sc_pairs_in.nd
  exact (pds_cons (ds_setN 1 nd (pn_lst pda_nil))
    (pds_cons (ds_for PassesOwn.never (pdi_rg1 (T.free 1) (pda_cons (pd_callB call_len dr_len rfl (T.free 0) PySem.boot_len (pda_cons (pd_var 0) pda_nil)) pda_nil)) (dg_name 2 nd) (pds_one (ds_ext 1 (pd_ofN (pn_lc [("j", 3)] nd (tgOk_name 3) (pdi_rg1 (T.free 1) (pda_cons (pd_var 2) pda_nil)) (blkOk_by (by kernel_rfl)) (fun _ _ _ _ _ => pg_name (i := 3) nd rfl (by first | exact Or.inl rfl | exact Or.inr rfl)) (fun _ _ _ _ _ => pts_no) (fun _ _ _ _ _ => (pd_tup (pda_cons (pd_ix ix_or dr_ix (pd_var 0) (pd_var 3)) (pda_cons (pd_ix ix_or dr_ix (pd_var 0) (pd_var 2)) pda_nil)))))))))
    (pds_one (ds_frz 1 (ds_ret (pd_var 1))))))
/-! sets_of_papers -/
theorem sc_sets_of_papers : FnScope ["points", "size", "found", "turn", "longer", "some", "point"] ["points", "size"] (defScope (top 107)) := ⟨rfl, rfl, rfl, by decide +kernel, rfl, by decide +kernel, by decide +kernel⟩
def g_sets_of_papers : Env → Option Res :=
  (sSeq (sSet 2 (fun env => bnd ((nLst (aCons (dTup aNil) aNil)) env) fun ds => some (.lst ds)))
    (sSeq (sFor (iRg1 (aCons (dVar 1) aNil)) (setN 3) (sSeq (sSetN 4 (nLst aNil))
    (sSeq (sFor (iAny (dVar 2)) (setN 5) (sExt 4 (fun env => bnd ((nLc [6] (iAny (dVar 0)) (setN 6) (tOrD (tOfD (bop gEq (dVar 5) (dTup aNil))) (tOfD (bop gLt (bop gIx (dVar 5) (uop gNeg (dC (.int 1)))) (dVar 6)))) (bop gAdd (dVar 5) (dTup (aCons (dVar 6) aNil)))) env) fun ds => some (.lst ds))))
    (sFrz 4 (sSet 2 (dVar 4))))))
    (sRet (dVar 2))))
def d_sets_of_papers : List D → Option D := runD 2 7 g_sets_of_papers
theorem ok_sets_of_papers (T : TX K mg) : OkD P w K mg base 1 (He.fAd K ("sets_of_papers", none)) ["points", "size"] (spD K d_sets_of_papers) := by
  obtain ⟨fd, F⟩ := T.says.def_ 83 (d := dd_sets_of_papers) rfl
  have F : FunD K "sets_of" "sets_of" (defArgs (top 107)) (defBody (top 107)) (defScope (top 107)) [] [] (He.fAd K ("sets_of_papers", none)) fd := F
  refine ⟨fd, fn_den (N := ["points", "size", "found", "turn", "longer", "some", "point"]) (ps := ["points", "size"]) F sc_sets_of_papers g_sets_of_papers (fun cdv A outer s H E hr => ?_), FunD.bindsN F (fun _ _ _ _ _ _ us hl => match us, hl with | [_, _], _ => rfl), F.kp⟩
  have nd := sc_sets_of_papers.nd
  exact (pds_cons (ds_set 2 nd (pd_ofN (pn_lst (pda_cons (pd_tup pda_nil) pda_nil))))
    (pds_cons (ds_for PassesOwn.never (pdi_rg1 (T.free 1) (pda_cons (pd_var 1) pda_nil)) (dg_name 3 nd) (pds_cons (ds_setN 4 nd (pn_lst pda_nil))
    (pds_cons (ds_for PassesOwn.never (pdi_any (pd_var 2)) (dg_name 5 nd) (pds_one (ds_ext 4 (pd_ofN (pn_lc [("point", 6)] nd (tgOk_name 6) (pdi_any (pd_var 0)) (blkOk_by (by kernel_rfl)) (fun _ _ _ _ _ => pg_name (i := 6) nd rfl (by first | exact Or.inl rfl | exact Or.inr rfl)) (fun _ _ _ _ _ => pts_if (pdw_pt (pdw_or (pdt_cmp (op_eqM hr.units) dr_eq (pd_var 5) (pd_tup pda_nil)) (pdw_or1 (pdt_cmp op_lt dr_lt (pd_ix ix_or dr_ix (pd_var 5) (pd_un un_neg dr_neg pd_int)) (pd_var 6)))))) (fun _ _ _ _ _ => (pd_op or_add dr_add (pd_var 5) (pd_tup (pda_cons (pd_var 6) pda_nil)))))))))
    (pds_one (ds_frz 4 (ds_set 2 nd (pd_var 4)))))))
    (pds_one (ds_ret (pd_var 2)))))
/-! is_son -/
theorem sc_is_son : FnScope ["son"] ["son"] (defScope (top 110)) := ⟨rfl, rfl, rfl, by decide +kernel, rfl, by decide +kernel, by decide +kernel⟩
def g_is_son : Env → Option Res :=
  (sRet (dAndV (cll (aCons (dVar 0) aNil) (gIsi .tuple)) (dAndV (bop gEq (cll (aCons (dVar 0) aNil) gLen) (dC (.int 2))) (dAndV (cll (aCons (bop gIx (dVar 0) (dC (.int 0))) aNil) (gIsi .tuple)) (cll (aCons (bop gIx (dVar 0) (dC (.int 0))) aNil) d_are_whole)))))
def d_is_son : List D → Option D := runD 1 1 g_is_son
theorem ok_is_son (T : TX K mg) : OkD P w K mg base 3 (He.fAd K ("is_son", none)) ["son"] (spD K d_is_son) := by
  obtain ⟨fd, F⟩ := T.says.def_ 85 (d := dd_is_son) rfl
  have F : FunD K "is_son" "is_son" (defArgs (top 110)) (defBody (top 110)) (defScope (top 110)) [] [] (He.fAd K ("is_son", none)) fd := F
  refine ⟨fd, fn_den (N := ["son"]) (ps := ["son"]) F sc_is_son g_is_son (fun cdv A outer s H E hr => ?_), FunD.bindsN F (fun _ _ _ _ _ _ us hl => match us, hl with | [_], _ => rfl), F.kp⟩
  have nd := sc_is_son.nd
  exact (pds_one (ds_ret (pd_and (pd_isi .tuple (T.free 4) (T.free 3) (pd_var 0)) (pd_and (pd_cmp (op_eqM hr.units) dr_eq (pd_callB call_len dr_len rfl (T.free 0) PySem.boot_len (pda_cons (pd_var 0) pda_nil)) pd_int) (pd_and (pd_isi .tuple (T.free 4) (T.free 3) (pd_ix ix_or dr_ix (pd_var 0) pd_int)) (pd_one (pd_callO (ok_are_whole T) (hr.mono (by first | decide | omega)) (T.glo 82) (pda_cons (pd_ix ix_or dr_ix (pd_var 0) pd_int) pda_nil))))))))
/-! is_node -/
theorem sc_is_node : FnScope ["wish", "node", "son"] ["wish", "node"] (defScope (top 111)) := ⟨rfl, rfl, rfl, by decide +kernel, rfl, by decide +kernel, by decide +kernel⟩
def g_is_node : Env → Option Res :=
  (sSeq (sIf (tOrD (tNotD (tOfD (cll (aCons (dVar 1) aNil) (gIsi .tuple)))) (tOrD (tOfD (bop gNe (cll (aCons (dVar 1) aNil) gLen) (dC (.int 3)))) (tOrD (tNotD (tOfD (cll (aCons (dSl (dVar 1) oNone (oSome (dC (.int 2)))) aNil) d_are_whole))) (tNotD (tOfD (cll (aCons (bop gIx (dVar 1) (dC (.int 2))) aNil) (gIsi .tuple))))))) (sRet (dC (.bl false))) sNil)
    (sRet (dAndV (dChain3 gLe gLt gLt (dC (.int 0)) (bop gIx (dVar 1) (dC (.int 0))) (bop gIx (dVar 1) (dC (.int 1))) (bop gIx (dVar 0) (dC (.int 0)))) (cll (aCons (fun env => bnd ((nLc [2] (iAny (bop gIx (dVar 1) (dC (.int 2)))) (setN 2) tYesD (cll (aCons (dVar 2) aNil) d_is_son)) env) fun ds => some (.lst ds)) aNil) gAll))))
def d_is_node : List D → Option D := runD 2 3 g_is_node
theorem ok_is_node (T : TX K mg) : OkD P w K mg base 4 (He.fAd K ("is_node", none)) ["wish", "node"] (spD K d_is_node) := by
  obtain ⟨fd, F⟩ := T.says.def_ 86 (d := dd_is_node) rfl
  have F : FunD K "is_node" "is_node" (defArgs (top 111)) (defBody (top 111)) (defScope (top 111)) [] [] (He.fAd K ("is_node", none)) fd := F
  refine ⟨fd, fn_den (N := ["wish", "node", "son"]) (ps := ["wish", "node"]) F sc_is_node g_is_node (fun cdv A outer s H E hr => ?_), FunD.bindsN F (fun _ _ _ _ _ _ us hl => match us, hl with | [_, _], _ => rfl), F.kp⟩
  have nd := sc_is_node.nd
  exact (pds_cons (ds_if (pdw_pt (pdw_or (pdt_not (pdt_val (pd_isi .tuple (T.free 4) (T.free 3) (pd_var 1)))) (pdw_or (pdt_cmp (op_neM hr.units) dr_ne (pd_callB call_len dr_len rfl (T.free 0) PySem.boot_len (pda_cons (pd_var 1) pda_nil)) pd_int) (pdw_or (pdt_not (pdt_val (pd_callO (ok_are_whole T) (hr.mono (by first | decide | omega)) (T.glo 82) (pda_cons (pd_sl (pd_var 1) pdo_none (pdo_some pd_int)) pda_nil)))) (pdw_or1 (pdt_not (pdt_val (pd_isi .tuple (T.free 4) (T.free 3) (pd_ix ix_or dr_ix (pd_var 1) pd_int))))))))) (pds_one (ds_ret pd_bl)) pds_nil)
    (pds_one (ds_ret (pd_and (pd_chain3 op_le dr_le op_lt dr_lt op_lt dr_lt pd_int (pd_ix ix_or dr_ix (pd_var 1) pd_int) (pd_ix ix_or dr_ix (pd_var 1) pd_int) (pd_ix ix_or dr_ix (pd_var 0) pd_int)) (pd_one (pd_callB (cr_all rfl) dr_all rfl (T.free 14) (by decide +kernel) (pda_cons (pd_ofN (pn_lc [("son", 2)] nd (tgOk_name 2) (pdi_any (pd_ix ix_or dr_ix (pd_var 1) pd_int)) (blkOk_by (by kernel_rfl)) (fun _ _ _ _ _ => pg_name (i := 2) nd rfl (by first | exact Or.inl rfl | exact Or.inr rfl)) (fun _ _ _ _ _ => pts_no) (fun _ _ _ _ _ => (pd_callO (ok_is_son T) (hr.mono (by first | decide | omega)) (T.glo 95) (pda_cons (pd_var 2) pda_nil))))) pda_nil)))))))
/-! word_taken -/
theorem sc_word_taken : FnScope ["wish", "word"] ["wish", "word"] (defScope (top 114)) := ⟨rfl, rfl, rfl, by decide +kernel, rfl, by decide +kernel, by decide +kernel⟩
def g_word_taken : Env → Option Res :=
  (sSeq (sIf (tOfD (bop gEq (dVar 1) (dC (.str "share")))) (sRet (cll (aCons (dVar 0) aNil) d_share_taken)) sNil)
    (sSeq (sIf (tOfD (bop gEq (dVar 1) (dC (.str "fewer")))) (sRet (cll (aCons (dVar 0) aNil) d_fewer_taken)) sNil)
    (sRet (dAndV (bop gEq (dVar 1) (dC (.str "root"))) (cll (aCons (dVar 0) aNil) d_root_taken)))))
def d_word_taken : List D → Option D := runD 2 2 g_word_taken
theorem ok_word_taken (T : TX K mg) : OkD P w K mg base 5 (He.fAd K ("word_taken", none)) ["wish", "word"] (spD K d_word_taken) := by
  obtain ⟨fd, F⟩ := T.says.def_ 89 (d := dd_word_taken) rfl
  have F : FunD K "word_taken" "word_taken" (defArgs (top 114)) (defBody (top 114)) (defScope (top 114)) [] [] (He.fAd K ("word_taken", none)) fd := F
  refine ⟨fd, fn_den (N := ["wish", "word"]) (ps := ["wish", "word"]) F sc_word_taken g_word_taken (fun cdv A outer s H E hr => ?_), FunD.bindsN F (fun _ _ _ _ _ _ us hl => match us, hl with | [_, _], _ => rfl), F.kp⟩
  have nd := sc_word_taken.nd
  exact (pds_cons (ds_if (pdt_cmp (op_eqM hr.units) dr_eq (pd_var 1) pd_str) (pds_one (ds_ret (pd_callO (ok_share_taken T) (hr.mono (by first | decide | omega)) (T.glo 85) (pda_cons (pd_var 0) pda_nil)))) pds_nil)
    (pds_cons (ds_if (pdt_cmp (op_eqM hr.units) dr_eq (pd_var 1) pd_str) (pds_one (ds_ret (pd_callO (ok_fewer_taken T) (hr.mono (by first | decide | omega)) (T.glo 86) (pda_cons (pd_var 0) pda_nil)))) pds_nil)
    (pds_one (ds_ret (pd_and (pd_cmp (op_eqM hr.units) dr_eq (pd_var 1) pd_str) (pd_one (pd_callO (ok_root_taken T) (hr.mono (by first | decide | omega)) (T.glo 87) (pda_cons (pd_var 0) pda_nil))))))))
end
end EM
end
set_option maxHeartbeats 4000000
noncomputable section
namespace EM
open PySem PySem.Spec PyProof.Rows L2
section
variable {P : Program} {w : World} {K : PySem.W.Frag} {mg : Str → Option Value} {base : Heap}
/-! Search_lacking -/
theorem sc_Search_lacking : FnScope ["self", "pair"] ["self"] (defScope (inClass (top 89) 1)) := ⟨rfl, rfl, rfl, by decide +kernel, rfl, by decide +kernel, by decide +kernel⟩
def g_Search_lacking : Env → Option Res :=
  (sSeq (sFor (iAny (cll (aCons (dSelf (fun S => S.spots)) aNil) d_pairs_of)) (setN 1) (sIf (tOfD (bop gLt (dOften (dVar 1)) (dSelf (fun S => S.most)))) (sRet (dVar 1)) sNil))
    (sRet (dC .non)))
def d_Search_lacking : SS → List D → Option D := runSr 1 2 g_Search_lacking
theorem ok_Search_lacking (T : TX K mg) : OkD P w K mg base 2 (He.fAd K ("Search", some "lacking")) ["self"] (spSr K d_Search_lacking) := by
  obtain ⟨fd, F⟩ := T.says.def_ 64 (d := dd_Search_lacking) rfl
  have F : FunD K "lacking" "Search.lacking" (defArgs (inClass (top 89) 1)) (defBody (inClass (top 89) 1)) (defScope (inClass (top 89) 1)) [] [] (He.fAd K ("Search", some "lacking")) fd := F
  refine ⟨fd, fn_denSr (N := ["self", "pair"]) (ps := ["self"]) F sc_Search_lacking g_Search_lacking (by decide) (fun cdv A outer s H E hr => ?_), FunD.bindsN F (fun _ _ _ _ _ _ us hl => match us, hl with | [_], _ => rfl), F.kp⟩
  have nd := sc_Search_lacking.nd
  exact (pds_cons (ds_for PassesOwn.never (pdi_any (pd_callO (ok_pairs_of T) (hr.mono (by first | decide | omega)) (T.glo 45) (pda_cons (pd_self (fun S => S.spots) T.search (T.noat 121) (fun _ _ => rfl)) pda_nil))) (dg_name 1 nd) (pds_one (ds_if (pdt_cmp op_lt dr_lt (pd_often T.search (T.noat 124) hr.units1 (pd_var 1)) (pd_self (fun S => S.most) T.search (T.noat 122) (fun _ _ => rfl))) (pds_one (ds_ret (pd_var 1))) pds_nil)))
    (pds_one (ds_ret pd_non)))
/-! Search_fits -/
theorem sc_Search_fits : FnScope ["self", "block", "pair"] ["self", "block"] (defScope (inClass (top 89) 2)) := ⟨rfl, rfl, rfl, by decide +kernel, rfl, by decide +kernel, by decide +kernel⟩
def g_Search_fits : Env → Option Res :=
  (sRet (cll (aCons (fun env => bnd ((nLc [2] (iAny (cll (aCons (fun env => bnd ((clN (aCons (dVar 1) aNil) gList) env) fun ds => some (.lst ds)) (aCons (dC (.int 2)) aNil)) (d_sets_of_building 10))) (setN 2) tYesD (bop gLt (dOften (dVar 2)) (dSelf (fun S => S.most)))) env) fun ds => some (.lst ds)) aNil) gAll))
def d_Search_fits : SS → List D → Option D := runSr 2 3 g_Search_fits
theorem ok_Search_fits (T : TX K mg) : OkD P w K mg base 11 (He.fAd K ("Search", some "fits")) ["self", "block"] (spSr K d_Search_fits) := by
  obtain ⟨fd, F⟩ := T.says.def_ 65 (d := dd_Search_fits) rfl
  have F : FunD K "fits" "Search.fits" (defArgs (inClass (top 89) 2)) (defBody (inClass (top 89) 2)) (defScope (inClass (top 89) 2)) [] [] (He.fAd K ("Search", some "fits")) fd := F
  refine ⟨fd, fn_denSr (N := ["self", "block", "pair"]) (ps := ["self", "block"]) F sc_Search_fits g_Search_fits (by decide) (fun cdv A outer s H E hr => ?_), FunD.bindsN F (fun _ _ _ _ _ _ us hl => match us, hl with | [_, _], _ => rfl), F.kp⟩
  have nd := sc_Search_fits.nd
  exact (pds_one (ds_ret (pd_callB (cr_all rfl) dr_all rfl (T.free 14) (by decide +kernel) (pda_cons (pd_ofN (pn_lc [("pair", 2)] nd (tgOk_name 2) (pdi_any (pd_callO (ok_sets_of_building T 10) (hr.mono (by first | decide | omega)) (T.glo 72) (pda_cons (pd_ofN (pn_callTy call_list_of dr_list rfl (T.free 2) (by decide +kernel) (pda_cons (pd_var 1) pda_nil))) (pda_cons pd_int pda_nil)))) (blkOk_by (by kernel_rfl)) (fun _ _ _ _ _ => pg_name (i := 2) nd rfl (by first | exact Or.inl rfl | exact Or.inr rfl)) (fun _ _ _ _ _ => pts_no) (fun _ _ _ _ _ => (pd_cmp op_lt dr_lt (pd_often T.search (T.noat 124) hr.units1 (pd_var 2)) (pd_self (fun S => S.most) T.search (T.noat 122) (fun _ _ => rfl)))))) pda_nil))))
/-! Search_put -/
theorem sc_Search_put : FnScope ["self", "block", "by", "pair"] ["self", "block", "by"] (defScope (inClass (top 89) 3)) := ⟨rfl, rfl, rfl, by decide +kernel, rfl, by decide +kernel, by decide +kernel⟩
def g_Search_put : Env → Option Res :=
  (sFor (iAny (cll (aCons (fun env => bnd ((clN (aCons (dVar 1) aNil) gList) env) fun ds => some (.lst ds)) (aCons (dC (.int 2)) aNil)) (d_sets_of_building 10))) (setN 3) (sPutO (dVar 3) (bop gAdd (dOften (dVar 3)) (dVar 2))))
def d_Search_put : SS → List D → Option (SS × D) := runS 3 4 g_Search_put
theorem ok_Search_put (T : TX K mg) : OkD P w K mg base 11 (He.fAd K ("Search", some "put")) ["self", "block", "by"] (spS K d_Search_put) := by
  obtain ⟨fd, F⟩ := T.says.def_ 66 (d := dd_Search_put) rfl
  have F : FunD K "put" "Search.put" (defArgs (inClass (top 89) 3)) (defBody (inClass (top 89) 3)) (defScope (inClass (top 89) 3)) [] [] (He.fAd K ("Search", some "put")) fd := F
  refine ⟨fd, fn_denS (N := ["self", "block", "by", "pair"]) (ps := ["self", "block", "by"]) F sc_Search_put g_Search_put (by decide) (fun cdv A outer s H E hr => ?_), FunD.bindsN F (fun _ _ _ _ _ _ us hl => match us, hl with | [_, _, _], _ => rfl), F.kp⟩
  have nd := sc_Search_put.nd
  exact (pds_one (ds_for PassesOwn.never (pdi_any (pd_callO (ok_sets_of_building T 10) (hr.mono (by first | decide | omega)) (T.glo 72) (pda_cons (pd_ofN (pn_callTy call_list_of dr_list rfl (T.free 2) (by decide +kernel) (pda_cons (pd_var 1) pda_nil))) (pda_cons pd_int pda_nil)))) (dg_name 3 nd) (pds_one (ds_putO T.search (T.noat 124) hr.units1 (pd_var 3) (pd_op or_add dr_add (pd_often T.search (T.noat 124) hr.units1 (pd_var 3)) (pd_var 2))))))
/-! Search_sons_of -/
theorem sc_Search_sons_of : FnScope ["self", "pair", "others", "found", "point", "rest", "block"] ["self", "pair"] (defScope (inClass (top 89) 4)) := ⟨rfl, rfl, rfl, by decide +kernel, rfl, by decide +kernel, by decide +kernel⟩
def g_Search_sons_of : Env → Option Res :=
  (sSeq (sSet 2 fun env => bnd ((nLc [4] (iRg1 (aCons (dSelf (fun S => S.spots)) aNil)) (setN 4) (tOfD (bop (gInN true) (dVar 4) (dVar 1))) (dVar 4)) env) fun ds => some (.lst ds))
    (sSeq (sSet 3 fun env => bnd ((nLc [5] (iAny (cll (aCons (dVar 2) (aCons (bop gSub (dSelf (fun S => S.width)) (dC (.int 2))) aNil)) (d_sets_of_building 10))) (setN 5) tYesD (cll (aCons (fun env => bnd ((clN (aCons (bop gAdd (dVar 1) (dVar 5)) aNil) gSortedI) env) fun ds => some (.lst ds)) aNil) gTuple)) env) fun ds => some (.lst ds))
    (sRet (fun env => bnd ((nLc [6] (iAny (fun env => bnd ((clN (aCons (dVar 3) aNil) gSortedT) env) fun ds => some (.lst ds))) (setN 6) (tOfD (sll (aCons (dVar 6) aNil) d_Search_fits)) (dVar 6)) env) fun ds => some (.lst ds)))))
def d_Search_sons_of : SS → List D → Option D := runSr 2 7 g_Search_sons_of
theorem ok_Search_sons_of (T : TX K mg) : OkD P w K mg base 12 (He.fAd K ("Search", some "sons_of")) ["self", "pair"] (spSr K d_Search_sons_of) := by
  obtain ⟨fd, F⟩ := T.says.def_ 67 (d := dd_Search_sons_of) rfl
  have F : FunD K "sons_of" "Search.sons_of" (defArgs (inClass (top 89) 4)) (defBody (inClass (top 89) 4)) (defScope (inClass (top 89) 4)) [] [] (He.fAd K ("Search", some "sons_of")) fd := F
  refine ⟨fd, fn_denSr (N := ["self", "pair", "others", "found", "point", "rest", "block"]) (ps := ["self", "pair"]) F sc_Search_sons_of g_Search_sons_of (by decide) (fun cdv A outer s H E hr => ?_), FunD.bindsN F (fun _ _ _ _ _ _ us hl => match us, hl with | [_, _], _ => rfl), F.kp⟩
  have nd := sc_Search_sons_of.nd
  exact (pds_cons (ds_setLcF 2 [("point", 4)] nd (tgOk_name 4) (pdi_rg1 (T.free 1) (pda_cons (pd_self (fun S => S.spots) T.search (T.noat 121) (fun _ _ => rfl)) pda_nil)) (blkOk_by (by kernel_rfl)) (fun _ _ _ _ _ => pg_name (i := 4) nd rfl (by first | exact Or.inl rfl | exact Or.inr rfl)) (fun _ _ _ _ _ => pts_if (pdt_cmp op_notIn_seq (dr_in true) (pd_var 4) (pd_var 1))) (fun _ _ _ _ _ => (pd_var 4)))
    (pds_cons (ds_setLcF 3 [("rest", 5)] nd (tgOk_name 5) (pdi_any (pd_callO (ok_sets_of_building T 10) (hr.mono (by first | decide | omega)) (T.glo 72) (pda_cons (pd_var 2) (pda_cons (pd_op op_sub dr_sub (pd_self (fun S => S.width) T.search (T.noat 120) (fun _ _ => rfl)) pd_int) pda_nil)))) (blkOk_by (by kernel_rfl)) (fun _ _ _ _ _ => pg_name (i := 5) nd rfl (by first | exact Or.inl rfl | exact Or.inr rfl)) (fun _ _ _ _ _ => pts_no) (fun _ _ _ _ _ => (pd_callTy call_tuple_of dr_tuple rfl (T.free 3) (by decide +kernel) (pda_cons (pd_ofN (pn_sortedI (T.free 9) (pda_cons (pd_op or_add dr_add (pd_var 1) (pd_var 5)) pda_nil))) pda_nil))))
    (pds_one (ds_ret (pd_ofN (pn_lc [("block", 6)] nd (tgOk_name 6) (pdi_any (pd_ofN (pn_sortedT (T.free 9) (pda_cons (pd_var 3) pda_nil)))) (blkOk_by (by kernel_rfl)) (fun _ _ _ _ _ => pg_name (i := 6) nd rfl (by first | exact Or.inl rfl | exact Or.inr rfl)) (fun _ _ _ _ _ => pts_if (pdt_val (pd_smeth T.search (T.meth 131) (ok_Search_fits T) (hr.mono (by first | decide | omega)) (pda_cons (pd_var 6) pda_nil)))) (fun _ _ _ _ _ => (pd_var 6))))))))
/-! Search_going -/
theorem sc_Search_going : FnScope ["self", "blocks", "pair", "sons", "block", "made", "node"] ["self", "blocks"] (defScope (inClass (top 89) 5)) := ⟨rfl, rfl, rfl, by decide +kernel, rfl, by decide +kernel, by decide +kernel⟩
def g_Search_going (self_ : SS → List D → Option (SS × D)) : Env → Option Res :=
  (sSeq (sSet 2 (sll aNil d_Search_lacking))
    (sSeq (sIf (tOfD (bop gIsN (dVar 2) (dC .non))) (sRet (dTup (aCons (dVar 1) (aCons (dC .non) aNil)))) sNil)
    (sSeq (sIf (tOfD (bop gEq (dSelf (fun S => S.left)) (dC (.int 0)))) (sRet (dTup (aCons (dC .non) (aCons (dC .non) aNil)))) sNil)
    (sSeq (sLeft (bop gSub (dSelf (fun S => S.left)) (dC (.int 1))))
    (sSeq (sSetN 3 (nLst aNil))
    (sSeq (sFor (iAny (sll (aCons (dVar 2) aNil) d_Search_sons_of)) (setN 4) (sSeq (sCallS (aCons (dVar 4) (aCons (dC (.int 1)) aNil)) d_Search_put)
    (sSeq (sAsgS [5, 6] (aCons (bop gAdd (dVar 1) (dTup (aCons (dVar 4) aNil))) aNil) self_)
    (sSeq (sCallS (aCons (dVar 4) (aCons (bop gSub (dC (.int 0)) (dC (.int 1))) aNil)) d_Search_put)
    (sSeq (sIf (tOrD (tOfD (bop gNotN (dVar 5) (dC .non))) (tOfD (bop gIsN (dVar 6) (dC .non)))) (sRet (dTup (aCons (dVar 5) (aCons (dC .non) aNil)))) sNil)
    (sApp 3 (dTup (aCons (dVar 4) (aCons (dVar 6) aNil)))))))))
    (sFrz 3 (sRet (dTup (aCons (dC .non) (aCons (bop gAdd (dVar 2) (dTup (aCons (cll (aCons (dVar 3) aNil) gTuple) aNil))) aNil)))))))))))
def d_Search_going : Nat → SS → List D → Option (SS × D)
  | 0 => fun _ _ => none
  | n + 1 => runS 2 7 (g_Search_going (d_Search_going n))
theorem ok_Search_going (T : TX K mg) : ∀ n : Nat, OkD P w K mg base (n + 12) (He.fAd K ("Search", some "going")) ["self", "blocks"] (spS K (d_Search_going n))
  | 0 => by
    obtain ⟨fd, F⟩ := T.says.def_ 68 (d := dd_Search_going) rfl
    have F : FunD K "going" "Search.going" (defArgs (inClass (top 89) 5)) (defBody (inClass (top 89) 5)) (defScope (inClass (top 89) 5)) [] [] (He.fAd K ("Search", some "going")) fd := F
    exact okD_noneS F.kp (FunD.bindsN F (fun _ _ _ _ _ _ us hl => match us, hl with | [_, _], _ => rfl))
  | n + 1 => by
    obtain ⟨fd, F⟩ := T.says.def_ 68 (d := dd_Search_going) rfl
    have F : FunD K "going" "Search.going" (defArgs (inClass (top 89) 5)) (defBody (inClass (top 89) 5)) (defScope (inClass (top 89) 5)) [] [] (He.fAd K ("Search", some "going")) fd := F
    have IH := ok_Search_going T n
    have hl : n + 1 + 12 = (n + 12) + 1 := by omega
    rw [hl]
    refine ⟨fd, fn_denS (N := ["self", "blocks", "pair", "sons", "block", "made", "node"]) (ps := ["self", "blocks"]) F sc_Search_going (g_Search_going (d_Search_going n)) (by decide) (fun cdv A outer s H E hr => ?_), FunD.bindsN F (fun _ _ _ _ _ _ us hl => match us, hl with | [_, _], _ => rfl), F.kp⟩
    have nd := sc_Search_going.nd
    exact (pds_cons (ds_set 2 nd (pd_smeth0 T.search (T.meth 130) (ok_Search_lacking T) (hr.mono (by first | decide | omega))))
    (pds_cons (ds_if (pdt_cmp op_isN dr_isN (pd_var 2) pd_non) (pds_one (ds_ret (pd_tup (pda_cons (pd_var 1) (pda_cons pd_non pda_nil))))) pds_nil)
    (pds_cons (ds_if (pdt_cmp (op_eqM hr.units) dr_eq (pd_self (fun S => S.left) T.search (T.noat 123) (fun _ _ => rfl)) pd_int) (pds_one (ds_ret (pd_tup (pda_cons pd_non (pda_cons pd_non pda_nil))))) pds_nil)
    (pds_cons (ds_left T.search (T.noat 123) (pd_op op_sub dr_sub (pd_self (fun S => S.left) T.search (T.noat 123) (fun _ _ => rfl)) pd_int))
    (pds_cons (ds_setN 3 nd (pn_lst pda_nil))
    (pds_cons (ds_for PassesOwn.never (pdi_any (pd_smeth T.search (T.meth 133) (ok_Search_sons_of T) (hr.mono (by first | decide | omega)) (pda_cons (pd_var 2) pda_nil))) (dg_name 4 nd) (pds_cons (ds_callS (pw_smeth T.search (T.meth 132) (ok_Search_put T) (hr.mono (by first | decide | omega)) (pda_cons (pd_var 4) (pda_cons pd_int pda_nil))))
    (pds_cons (ds_asgS (pw_smeth T.search (T.meth 134) IH (hr.mono (by first | decide | omega)) (pda_cons (pd_op or_add dr_add (pd_var 1) (pd_tup (pda_cons (pd_var 4) pda_nil))) pda_nil)) (dg_tup (dgs_cons 5 nd (dgs_cons 6 nd dgs_nil))))
    (pds_cons (ds_callS (pw_smeth T.search (T.meth 132) (ok_Search_put T) (hr.mono (by first | decide | omega)) (pda_cons (pd_var 4) (pda_cons (pd_op op_sub dr_sub pd_int pd_int) pda_nil))))
    (pds_cons (ds_if (pdw_pt (pdw_or (pdt_cmp op_notN dr_notN (pd_var 5) pd_non) (pdw_or1 (pdt_cmp op_isN dr_isN (pd_var 6) pd_non)))) (pds_one (ds_ret (pd_tup (pda_cons (pd_var 5) (pda_cons pd_non pda_nil))))) pds_nil)
    (pds_one (ds_app 3 (pd_tup (pda_cons (pd_var 4) (pda_cons (pd_var 6) pda_nil))))))))))
    (pds_one (ds_frz 3 (ds_ret (pd_tup (pda_cons pd_non (pda_cons (pd_op or_add dr_add (pd_var 2) (pd_tup (pda_cons (pd_callTy call_tuple_of dr_tuple rfl (T.free 3) (by decide +kernel) (pda_cons (pd_var 3) pda_nil)) pda_nil))) pda_nil))))))))))))
end
end EM
end
set_option maxHeartbeats 4000000
noncomputable section
namespace EM
open PySem PySem.Spec PyProof.Rows L2
section
variable {P : Program} {w : World} {K : PySem.W.Frag} {mg : Str → Option Value} {base : Heap}
/-! count_block -/
theorem sc_count_block : FnScope ["counts", "block", "more", "pair"] ["counts", "block", "more"] (defScope (top 105)) := ⟨rfl, rfl, rfl, by decide +kernel, rfl, by decide +kernel, by decide +kernel⟩
def g_count_block : Env → Option Res :=
  (sFor (iAny (cll (aCons (dVar 1) aNil) d_pairs_in)) (setN 3) (sPutD 0 (dVar 3) (bop gAdd (dGetOr 0 (dVar 3) (dC (.int 0))) (dVar 2))))
def d_count_block : Mp → List D → Option (Mp × D) := runM 3 4 0 g_count_block
theorem ok_count_block (T : TX K mg) : OkD P w K mg base 2 (He.fAd K ("count_block", none)) ["counts", "block", "more"] (spM K 0 d_count_block) := by
  obtain ⟨fd, F⟩ := T.says.def_ 81 (d := dd_count_block) rfl
  have F : FunD K "count_block" "count_block" (defArgs (top 105)) (defBody (top 105)) (defScope (top 105)) [] [] (He.fAd K ("count_block", none)) fd := F
  refine ⟨fd, fn_denM (j := 0) (N := ["counts", "block", "more", "pair"]) (ps := ["counts", "block", "more"]) F sc_count_block g_count_block (fun cdv A outer s H E hr => ?_), FunD.bindsN F (fun _ _ _ _ _ _ us hl => match us, hl with | [_, _, _], _ => rfl), F.kp⟩
  have nd := sc_count_block.nd
  exact (pds_one (ds_for PassesOwn.never (pdi_any (pd_callO (ok_pairs_in T) (hr.mono (by first | decide | omega)) (T.glo 90) (pda_cons (pd_var 1) pda_nil))) (dg_name 3 nd) (pds_one (ds_putD 0 hr.units1 (pd_var 3) (pd_op or_add dr_add (pd_get 0 hr.units1 (pd_var 3) pd_int) (pd_var 2))))))
/-! fits -/
theorem sc_fits : FnScope ["counts", "block", "often", "pair"] ["counts", "block", "often"] (defScope (top 106)) := ⟨rfl, rfl, rfl, by decide +kernel, rfl, by decide +kernel, by decide +kernel⟩
def g_fits : Env → Option Res :=
  (sRet (cll (aCons (fun env => bnd ((nLc [3] (iAny (cll (aCons (dVar 1) aNil) d_pairs_in)) (setN 3) tYesD (bop gLt (dGetOr 0 (dVar 3) (dC (.int 0))) (dVar 2))) env) fun ds => some (.lst ds)) aNil) gAll))
def d_fits : Mp → List D → Option D := runR 3 4 0 g_fits
theorem ok_fits (T : TX K mg) : OkD P w K mg base 2 (He.fAd K ("fits", none)) ["counts", "block", "often"] (spR K 0 d_fits) := by
  obtain ⟨fd, F⟩ := T.says.def_ 82 (d := dd_fits) rfl
  have F : FunD K "fits" "fits" (defArgs (top 106)) (defBody (top 106)) (defScope (top 106)) [] [] (He.fAd K ("fits", none)) fd := F
  refine ⟨fd, fn_denR (j := 0) (N := ["counts", "block", "often", "pair"]) (ps := ["counts", "block", "often"]) F sc_fits g_fits (fun cdv A outer s H E hr => ?_), FunD.bindsN F (fun _ _ _ _ _ _ us hl => match us, hl with | [_, _, _], _ => rfl), F.kp⟩
  have nd := sc_fits.nd
  exact (pds_one (ds_ret (pd_callB (cr_all rfl) dr_all rfl (T.free 14) (by decide +kernel) (pda_cons (pd_ofN (pn_lc [("pair", 3)] nd (tgOk_name 3) (pdi_any (pd_callO (ok_pairs_in T) (hr.mono (by first | decide | omega)) (T.glo 90) (pda_cons (pd_var 1) pda_nil))) (blkOk_by (by kernel_rfl)) (fun _ _ _ _ _ => pg_name (i := 3) nd rfl (by first | exact Or.inl rfl | exact Or.inr rfl)) (fun _ _ _ _ _ => pts_no) (fun _ _ _ _ _ => (pd_cmp op_lt dr_lt (pd_get 0 hr.units1 (pd_var 3) pd_int) (pd_var 2))))) pda_nil))))
/-! sons_due -/
theorem sc_sons_due : FnScope ["wish", "counts", "one", "other", "others", "found", "point", "some", "block"] ["wish", "counts", "one", "other"] (defScope (top 109)) := ⟨rfl, rfl, rfl, by decide +kernel, rfl, by decide +kernel, by decide +kernel⟩
def g_sons_due : Env → Option Res :=
  (sSeq (sSet 4 fun env => bnd ((nLc [6] (iRg1 (aCons (bop gIx (dVar 0) (dC (.int 0))) aNil)) (setN 6) (tAndD (tOfD (bop gNe (dVar 6) (dVar 2))) (tOfD (bop gNe (dVar 6) (dVar 3)))) (dVar 6)) env) fun ds => some (.lst ds))
    (sSeq (sSet 5 fun env => bnd ((nLc [7] (iAny (cll (aCons (dVar 4) (aCons (bop gSub (bop gIx (dVar 0) (dC (.int 1))) (dC (.int 2))) aNil)) d_sets_of_papers)) (setN 7) tYesD (cll (aCons (fun env => bnd ((clN (aCons (bop gAdd (dVar 7) (dTup (aCons (dVar 2) (aCons (dVar 3) aNil)))) aNil) gSortedI) env) fun ds => some (.lst ds)) aNil) gTuple)) env) fun ds => some (.lst ds))
    (sRet (fun env => bnd ((nLc [8] (iAny (fun env => bnd ((clN (aCons (dVar 5) aNil) gSortedT) env) fun ds => some (.lst ds))) (setN 8) (tOfD (cllM 1 (aCons (dVar 8) (aCons (bop gIx (dVar 0) (dC (.int 2))) aNil)) d_fits)) (dVar 8)) env) fun ds => some (.lst ds)))))
def d_sons_due : Mp → List D → Option D := runR 4 9 1 g_sons_due
theorem ok_sons_due (T : TX K mg) : OkD P w K mg base 3 (He.fAd K ("sons_due", none)) ["wish", "counts", "one", "other"] (spR K 1 d_sons_due) := by
  obtain ⟨fd, F⟩ := T.says.def_ 84 (d := dd_sons_due) rfl
  have F : FunD K "sons_due" "sons_due" (defArgs (top 109)) (defBody (top 109)) (defScope (top 109)) [] [] (He.fAd K ("sons_due", none)) fd := F
  refine ⟨fd, fn_denR (j := 1) (N := ["wish", "counts", "one", "other", "others", "found", "point", "some", "block"]) (ps := ["wish", "counts", "one", "other"]) F sc_sons_due g_sons_due (fun cdv A outer s H E hr => ?_), FunD.bindsN F (fun _ _ _ _ _ _ us hl => match us, hl with | [_, _, _, _], _ => rfl), F.kp⟩
  have nd := sc_sons_due.nd
  exact (pds_cons (ds_setLcF 4 [("point", 6)] nd (tgOk_name 6) (pdi_rg1 (T.free 1) (pda_cons (pd_ix ix_or dr_ix (pd_var 0) pd_int) pda_nil)) (blkOk_by (by kernel_rfl)) (fun _ _ _ _ _ => pg_name (i := 6) nd rfl (by first | exact Or.inl rfl | exact Or.inr rfl)) (fun _ _ _ _ _ => pts_if (pdw_pt (pdw_and (pdt_cmp (op_neM hr.units) dr_ne (pd_var 6) (pd_var 2)) (pdw_and1 (pdt_cmp (op_neM hr.units) dr_ne (pd_var 6) (pd_var 3)))))) (fun _ _ _ _ _ => (pd_var 6)))
    (pds_cons (ds_setLcF 5 [("some", 7)] nd (tgOk_name 7) (pdi_any (pd_callO (ok_sets_of_papers T) (hr.mono (by first | decide | omega)) (T.glo 93) (pda_cons (pd_var 4) (pda_cons (pd_op op_sub dr_sub (pd_ix ix_or dr_ix (pd_var 0) pd_int) pd_int) pda_nil)))) (blkOk_by (by kernel_rfl)) (fun _ _ _ _ _ => pg_name (i := 7) nd rfl (by first | exact Or.inl rfl | exact Or.inr rfl)) (fun _ _ _ _ _ => pts_no) (fun _ _ _ _ _ => (pd_callTy call_tuple_of dr_tuple rfl (T.free 3) (by decide +kernel) (pda_cons (pd_ofN (pn_sortedI (T.free 9) (pda_cons (pd_op or_add dr_add (pd_var 7) (pd_tup (pda_cons (pd_var 2) (pda_cons (pd_var 3) pda_nil)))) pda_nil))) pda_nil))))
    (pds_one (ds_ret (pd_ofN (pn_lc [("block", 8)] nd (tgOk_name 8) (pdi_any (pd_ofN (pn_sortedT (T.free 9) (pda_cons (pd_var 5) pda_nil)))) (blkOk_by (by kernel_rfl)) (fun _ _ _ _ _ => pg_name (i := 8) nd rfl (by first | exact Or.inl rfl | exact Or.inr rfl)) (fun _ _ _ _ _ => pts_if (pdt_val (pd_callM 1 (ok_fits T) (hr.mono (by first | decide | omega)) (T.glo 92) (pda_m0 1 (pda_cons (pd_var 8) (pda_cons (pd_ix ix_or dr_ix (pd_var 0) pd_int) pda_nil)))))) (fun _ _ _ _ _ => (pd_var 8))))))))
/-! node_taken -/
theorem sc_node_taken : FnScope ["wish", "counts", "node", "son"] ["wish", "counts", "node"] (defScope (top 112)) := ⟨rfl, rfl, rfl, by decide +kernel, rfl, by decide +kernel, by decide +kernel⟩
def g_node_taken : Env → Option Res :=
  (sSeq (sIf (tOrD (tNotD (tOfD (cll (aCons (dVar 0) (aCons (dVar 2) aNil)) d_is_node))) (tOfD (bop gGe (dGetOr 1 (dTup (aCons (bop gIx (dVar 2) (dC (.int 0))) (aCons (bop gIx (dVar 2) (dC (.int 1))) aNil))) (dC (.int 0))) (bop gIx (dVar 0) (dC (.int 2)))))) (sRet (dC (.bl false))) sNil)
    (sRet (bop gEq (fun env => bnd ((nLc [3] (iAny (bop gIx (dVar 2) (dC (.int 2)))) (setN 3) tYesD (bop gIx (dVar 3) (dC (.int 0)))) env) fun ds => some (.lst ds)) (cllM 1 (aCons (dVar 0) (aCons (bop gIx (dVar 2) (dC (.int 0))) (aCons (bop gIx (dVar 2) (dC (.int 1))) aNil))) d_sons_due))))
def d_node_taken : Mp → List D → Option D := runR 3 4 1 g_node_taken
theorem ok_node_taken (T : TX K mg) : OkD P w K mg base 5 (He.fAd K ("node_taken", none)) ["wish", "counts", "node"] (spR K 1 d_node_taken) := by
  obtain ⟨fd, F⟩ := T.says.def_ 87 (d := dd_node_taken) rfl
  have F : FunD K "node_taken" "node_taken" (defArgs (top 112)) (defBody (top 112)) (defScope (top 112)) [] [] (He.fAd K ("node_taken", none)) fd := F
  refine ⟨fd, fn_denR (j := 1) (N := ["wish", "counts", "node", "son"]) (ps := ["wish", "counts", "node"]) F sc_node_taken g_node_taken (fun cdv A outer s H E hr => ?_), FunD.bindsN F (fun _ _ _ _ _ _ us hl => match us, hl with | [_, _, _], _ => rfl), F.kp⟩
  have nd := sc_node_taken.nd
  exact (pds_cons (ds_if (pdw_pt (pdw_or (pdt_not (pdt_val (pd_callO (ok_is_node T) (hr.mono (by first | decide | omega)) (T.glo 96) (pda_cons (pd_var 0) (pda_cons (pd_var 2) pda_nil))))) (pdw_or1 (pdt_cmp op_ge dr_ge (pd_get 1 hr.units1 (pd_tup (pda_cons (pd_ix ix_or dr_ix (pd_var 2) pd_int) (pda_cons (pd_ix ix_or dr_ix (pd_var 2) pd_int) pda_nil))) pd_int) (pd_ix ix_or dr_ix (pd_var 0) pd_int))))) (pds_one (ds_ret pd_bl)) pds_nil)
    (pds_one (ds_ret (pd_cmp (op_eqM hr.units) dr_eq (pd_ofN (pn_lc [("son", 3)] nd (tgOk_name 3) (pdi_any (pd_ix ix_or dr_ix (pd_var 2) pd_int)) (blkOk_by (by kernel_rfl)) (fun _ _ _ _ _ => pg_name (i := 3) nd rfl (by first | exact Or.inl rfl | exact Or.inr rfl)) (fun _ _ _ _ _ => pts_no) (fun _ _ _ _ _ => (pd_ix ix_or dr_ix (pd_var 3) pd_int)))) (pd_callM 1 (ok_sons_due T) (hr.mono (by first | decide | omega)) (T.glo 94) (pda_m1 1 (pd_var 0) (pda_cons (pd_ix ix_or dr_ix (pd_var 2) pd_int) (pda_cons (pd_ix ix_or dr_ix (pd_var 2) pd_int) pda_nil))))))))
/-! tree_taken -/
theorem sc_tree_taken : FnScope ["wish", "tree", "counts", "block", "work", "son", "more", "node"] ["wish", "tree"] (defScope (top 113)) := ⟨rfl, rfl, rfl, by decide +kernel, rfl, by decide +kernel, by decide +kernel⟩
def g_tree_taken : Env → Option Res :=
  (sSeq (sNewD 2)
    (sSeq (sFor (iAny (bop gIx (dVar 0) (dC (.int 3)))) (setN 3) (sCallM 2 (aCons (dVar 3) (aCons (dC (.int 1)) aNil)) d_count_block))
    (sSeq (sSetN 4 (nLst (aCons (dTup (aCons (dC (.int 1)) (aCons (dTup aNil) (aCons (dVar 1) aNil)))) aNil)))
    (sSeq (sWhile big (tOfD (bop gGt (dLenOwn 4) (dC (.int 0)))) (sSeq (sPopT 4 [6, 3, 7])
    (sSeq (sCallM 2 (aCons (dVar 3) (aCons (dVar 6) aNil)) d_count_block)
    (sSeq (sIf (tOfD (bop gLt (dVar 6) (dC (.int 0)))) sCt sNil)
    (sSeq (sIf (tNotD (tOfD (cllM 2 (aCons (dVar 0) (aCons (dVar 7) aNil)) d_node_taken))) (sRet (dC (.bl false))) sNil)
    (sSeq (sApp 4 (dTup (aCons (uop gNeg (dC (.int 1))) (aCons (dVar 3) (aCons (dVar 7) aNil)))))
    (sFor (iAny (dRevT (bop gIx (dVar 7) (dC (.int 2))))) (setN 5) (sApp 4 (dTup (aCons (dC (.int 1)) (aCons (bop gIx (dVar 5) (dC (.int 0))) (aCons (bop gIx (dVar 5) (dC (.int 1))) aNil))))))))))))
    (sRet (dC (.bl true)))))))
def d_tree_taken : List D → Option D := runD 2 8 g_tree_taken
theorem ok_tree_taken (T : TX K mg) : OkD P w K mg base 6 (He.fAd K ("tree_taken", none)) ["wish", "tree"] (spD K d_tree_taken) := by
  obtain ⟨fd, F⟩ := T.says.def_ 88 (d := dd_tree_taken) rfl
  have F : FunD K "tree_taken" "tree_taken" (defArgs (top 113)) (defBody (top 113)) (defScope (top 113)) [] [] (He.fAd K ("tree_taken", none)) fd := F
  refine ⟨fd, fn_den (N := ["wish", "tree", "counts", "block", "work", "son", "more", "node"]) (ps := ["wish", "tree"]) F sc_tree_taken g_tree_taken (fun cdv A outer s H E hr => ?_), FunD.bindsN F (fun _ _ _ _ _ _ us hl => match us, hl with | [_, _], _ => rfl), F.kp⟩
  have nd := sc_tree_taken.nd
  exact (pds_cons (ds_newD 2 nd)
    (pds_cons (ds_for PassesOwn.never (pdi_any (pd_ix ix_or dr_ix (pd_var 0) pd_int)) (dg_name 3 nd) (pds_one (ds_callM 2 (ok_count_block T) (hr.mono (by first | decide | omega)) (T.glo 91) (pda_m0 2 (pda_cons (pd_var 3) (pda_cons pd_int pda_nil))))))
    (pds_cons (ds_setN 4 nd (pn_lst (pda_cons (pd_tup (pda_cons pd_int (pda_cons (pd_tup pda_nil) (pda_cons (pd_var 1) pda_nil)))) pda_nil)))
    (pds_cons (ds_while big PassesOwn.never (pdt_cmp op_gt dr_gt (pd_lenOwn 4 (hm := (T.free 0))) pd_int) (pds_cons (ds_popT 4 (dg_tup (dgs_cons 6 nd (dgs_cons 3 nd (dgs_cons 7 nd dgs_nil)))))
    (pds_cons (ds_callM 2 (ok_count_block T) (hr.mono (by first | decide | omega)) (T.glo 91) (pda_m0 2 (pda_cons (pd_var 3) (pda_cons (pd_var 6) pda_nil))))
    (pds_cons (ds_if (pdt_cmp op_lt dr_lt (pd_var 6) pd_int) (pds_one ds_continue) pds_nil)
    (pds_cons (ds_if (pdt_not (pdt_val (pd_callM 2 (ok_node_taken T) (hr.mono (by first | decide | omega)) (T.glo 97) (pda_m1 2 (pd_var 0) (pda_cons (pd_var 7) pda_nil))))) (pds_one (ds_ret pd_bl)) pds_nil)
    (pds_cons (ds_app 4 (pd_tup (pda_cons (pd_un un_neg dr_neg pd_int) (pda_cons (pd_var 3) (pda_cons (pd_var 7) pda_nil)))))
    (pds_one (ds_for PassesOwn.never (pdi_any (pd_revT (pd_ix ix_or dr_ix (pd_var 7) pd_int))) (dg_name 5 nd) (pds_one (ds_app 4 (pd_tup (pda_cons pd_int (pda_cons (pd_ix ix_or dr_ix (pd_var 5) pd_int) (pda_cons (pd_ix ix_or dr_ix (pd_var 5) pd_int) pda_nil))))))))))))))
    (pds_one (ds_ret pd_bl))))))
/-! paper_taken -/
theorem sc_paper_taken : FnScope ["wish", "paper"] ["wish", "paper"] (defScope (top 115)) := ⟨rfl, rfl, rfl, by decide +kernel, rfl, by decide +kernel, by decide +kernel⟩
def g_paper_taken : Env → Option Res :=
  (sSeq (sIf (tOrD (tNotD (tOfD (cll (aCons (dVar 1) aNil) (gIsi .tuple)))) (tOrD (tOfD (bop gEq (cll (aCons (dVar 1) aNil) gLen) (dC (.int 0)))) (tNotD (tOfD (cll (aCons (bop gIx (dVar 1) (dC (.int 0))) aNil) (gIsi .str)))))) (sRet (dC (.bl false))) sNil)
    (sSeq (sIf (tOfD (bop gEq (cll (aCons (dVar 1) aNil) gLen) (dC (.int 1)))) (sRet (cll (aCons (dVar 0) (aCons (bop gIx (dVar 1) (dC (.int 0))) aNil)) d_word_taken)) sNil)
    (sSeq (sIf (tOfD (bop gEq (cll (aCons (dVar 1) aNil) gLen) (dC (.int 3)))) (sRet (dAndV (bop gEq (bop gIx (dVar 1) (dC (.int 0))) (dC (.str "over"))) (dAndV (cll (aCons (dSl (dVar 1) (oSome (dC (.int 1))) oNone) aNil) d_are_whole) (cll (aCons (dVar 0) (aCons (bop gIx (dVar 1) (dC (.int 1))) (aCons (bop gIx (dVar 1) (dC (.int 2))) aNil))) d_over_taken)))) sNil)
    (sSeq (sIf (tOfD (bop gNe (cll (aCons (dVar 1) aNil) gLen) (dC (.int 2)))) (sRet (dC (.bl false))) sNil)
    (sSeq (sIf (tOfD (bop gEq (bop gIx (dVar 1) (dC (.int 0))) (dC (.str "form")))) (sRet (dAndV (cll (aCons (bop gIx (dVar 1) (dC (.int 1))) aNil) d_is_whole_papers) (cll (aCons (dVar 0) (aCons (bop gIx (dVar 1) (dC (.int 1))) aNil)) d_form_taken))) sNil)
    (sRet (dAndV (bop gEq (bop gIx (dVar 1) (dC (.int 0))) (dC (.str "tree"))) (dAndV (bop gLe (bop gIx (dVar 0) (dC (.int 0))) (dC (.int 9))) (cll (aCons (dVar 0) (aCons (bop gIx (dVar 1) (dC (.int 1))) aNil)) d_tree_taken)))))))))
def d_paper_taken : List D → Option D := runD 2 2 g_paper_taken
theorem ok_paper_taken (T : TX K mg) : OkD P w K mg base 9 (He.fAd K ("paper_taken", none)) ["wish", "paper"] (spD K d_paper_taken) := by
  obtain ⟨fd, F⟩ := T.says.def_ 90 (d := dd_paper_taken) rfl
  have F : FunD K "paper_taken" "paper_taken" (defArgs (top 115)) (defBody (top 115)) (defScope (top 115)) [] [] (He.fAd K ("paper_taken", none)) fd := F
  refine ⟨fd, fn_den (N := ["wish", "paper"]) (ps := ["wish", "paper"]) F sc_paper_taken g_paper_taken (fun cdv A outer s H E hr => ?_), FunD.bindsN F (fun _ _ _ _ _ _ us hl => match us, hl with | [_, _], _ => rfl), F.kp⟩
  have nd := sc_paper_taken.nd
  exact (pds_cons (ds_if (pdw_pt (pdw_or (pdt_not (pdt_val (pd_isi .tuple (T.free 4) (T.free 3) (pd_var 1)))) (pdw_or (pdt_cmp (op_eqM hr.units) dr_eq (pd_callB call_len dr_len rfl (T.free 0) PySem.boot_len (pda_cons (pd_var 1) pda_nil)) pd_int) (pdw_or1 (pdt_not (pdt_val (pd_isi .str (T.free 4) (T.free 7) (pd_ix ix_or dr_ix (pd_var 1) pd_int)))))))) (pds_one (ds_ret pd_bl)) pds_nil)
    (pds_cons (ds_if (pdt_cmp (op_eqM hr.units) dr_eq (pd_callB call_len dr_len rfl (T.free 0) PySem.boot_len (pda_cons (pd_var 1) pda_nil)) pd_int) (pds_one (ds_ret (pd_callO (ok_word_taken T) (hr.mono (by first | decide | omega)) (T.glo 99) (pda_cons (pd_var 0) (pda_cons (pd_ix ix_or dr_ix (pd_var 1) pd_int) pda_nil))))) pds_nil)
    (pds_cons (ds_if (pdt_cmp (op_eqM hr.units) dr_eq (pd_callB call_len dr_len rfl (T.free 0) PySem.boot_len (pda_cons (pd_var 1) pda_nil)) pd_int) (pds_one (ds_ret (pd_and (pd_cmp (op_eqM hr.units) dr_eq (pd_ix ix_or dr_ix (pd_var 1) pd_int) pd_str) (pd_and (pd_callO (ok_are_whole T) (hr.mono (by first | decide | omega)) (T.glo 82) (pda_cons (pd_sl (pd_var 1) (pdo_some pd_int) pdo_none) pda_nil)) (pd_one (pd_callO (ok_over_taken T) (hr.mono (by first | decide | omega)) (T.glo 89) (pda_cons (pd_var 0) (pda_cons (pd_ix ix_or dr_ix (pd_var 1) pd_int) (pda_cons (pd_ix ix_or dr_ix (pd_var 1) pd_int) pda_nil))))))))) pds_nil)
    (pds_cons (ds_if (pdt_cmp (op_neM hr.units) dr_ne (pd_callB call_len dr_len rfl (T.free 0) PySem.boot_len (pda_cons (pd_var 1) pda_nil)) pd_int) (pds_one (ds_ret pd_bl)) pds_nil)
    (pds_cons (ds_if (pdt_cmp (op_eqM hr.units) dr_eq (pd_ix ix_or dr_ix (pd_var 1) pd_int) pd_str) (pds_one (ds_ret (pd_and (pd_callO (ok_is_whole_papers T) (hr.mono (by first | decide | omega)) (T.glo 81) (pda_cons (pd_ix ix_or dr_ix (pd_var 1) pd_int) pda_nil)) (pd_one (pd_callO (ok_form_taken T) (hr.mono (by first | decide | omega)) (T.glo 88) (pda_cons (pd_var 0) (pda_cons (pd_ix ix_or dr_ix (pd_var 1) pd_int) pda_nil))))))) pds_nil)
    (pds_one (ds_ret (pd_and (pd_cmp (op_eqM hr.units) dr_eq (pd_ix ix_or dr_ix (pd_var 1) pd_int) pd_str) (pd_and (pd_cmp op_le dr_le (pd_ix ix_or dr_ix (pd_var 0) pd_int) (T.cst 23 rfl)) (pd_one (pd_callO (ok_tree_taken T) (hr.mono (by first | decide | omega)) (T.glo 98) (pda_cons (pd_var 0) (pda_cons (pd_ix ix_or dr_ix (pd_var 1) pd_int) pda_nil)))))))))))))
end
end EM
end
set_option maxHeartbeats 4000000
noncomputable section
namespace EM
open PySem PySem.Spec PyProof.Rows L2
section
variable {P : Program} {w : World} {K : PySem.W.Frag} {mg : Str → Option Value} {base : Heap}
/-! law_design -/
theorem sc_law_design : FnScope ["_law_wish", "_law_layout", "_law_often", "_law_block", "_law_b", "_law_one", "_law_v", "_law_k", "_law_l", "_law_start", "_law_a", "_law_point"] ["_law_wish", "_law_layout"] (defScope (top 122)) := ⟨rfl, rfl, rfl, by decide +kernel, rfl, by decide +kernel, by decide +kernel⟩
def g_law_design : Env → Option Res :=
  (sSeq (fun env => bnd ((dVar 0) env) fun d => bnd ((setT [6, 7, 8, 9]) d env) fun e => some (.nx e))
    (sSeq (sIf (tOrD (tNotD (tOfD (cll (aCons (dVar 1) aNil) (gIsi .tuple)))) (tOrD (tOfD (bop gNe (cll (aCons (dVar 1) aNil) gLen) (dC (.int 2)))) (tOrD (tOfD (bop gNe (bop gIx (dVar 1) (dC (.int 0))) (dVar 6))) (tNotD (tOfD (cll (aCons (bop gIx (dVar 1) (dC (.int 1))) aNil) (gIsi .tuple))))))) (sRet (dC (.bl false))) sNil)
    (sSeq (sIf (tOrD (tOfD (bop gGt (dVar 6) (dC (.int 60)))) (tOfD (bop gGt (cll (aCons (bop gIx (dVar 1) (dC (.int 1))) aNil) gLen) (dC (.int 200))))) (sRet (dC (.bl false))) sNil)
    (sSeq (sNewD 2)
    (sSeq (sFor (iAny (bop gIx (dVar 1) (dC (.int 1)))) (setN 3) (sSeq (sIf (tOrD (tNotD (tOfD (cll (aCons (dVar 3) aNil) (gIsi .tuple)))) (tOrD (tOfD (bop gNe (cll (aCons (dVar 3) aNil) gLen) (dVar 7))) (tOfD (bop gNe (fun env => bnd ((clN (aCons (dVar 3) aNil) gList) env) fun ds => some (.lst ds)) (fun env => bnd ((nSortedSet (dVar 3)) env) fun ds => some (.lst ds)))))) (sRet (dC (.bl false))) sNil)
    (sSeq (sIf (tNotD (tOfD (cll (aCons (fun env => bnd ((nLc [11] (iAny (dVar 3)) (setN 11) tYesD (dAndV (cll (aCons (dVar 11) aNil) (gIsi .int)) (dAndV (dNotV (cll (aCons (dVar 11) aNil) (gIsi .bool))) (dChain gLe gLt (dC (.int 0)) (dVar 11) (dVar 6))))) env) fun ds => some (.lst ds)) aNil) gAll))) (sRet (dC (.bl false))) sNil)
    (sFor (iAny (dVar 3)) (setN 4) (sFor (iAny (dVar 3)) (setN 10) (sPutD 2 (dTup (aCons (dVar 10) (aCons (dVar 4) aNil))) (bop gAdd (dGetOr 2 (dTup (aCons (dVar 10) (aCons (dVar 4) aNil))) (dC (.int 0))) (dC (.int 1)))))))))
    (sSeq (sFor (iRg1 (aCons (dVar 6) aNil)) (setN 4) (sFor (iRg1 (aCons (dVar 4) aNil)) (setN 10) (sIf (tOfD (bop gNe (dGetOr 2 (dTup (aCons (dVar 10) (aCons (dVar 4) aNil))) (dC (.int 0))) (dVar 8))) (sRet (dC (.bl false))) sNil)))
    (sSeq (sFor (iAny (dVar 9)) (setN 5) (sIf (tOfD (bop gGt (cll (aCons (fun env => bnd ((nLc [3] (iAny (dVar 9)) (setN 3) (tOfD (bop gEq (dVar 3) (dVar 5))) (dVar 3)) env) fun ds => some (.lst ds)) aNil) gLen) (cll (aCons (fun env => bnd ((nLc [3] (iAny (bop gIx (dVar 1) (dC (.int 1)))) (setN 3) (tOfD (bop gEq (dVar 3) (dVar 5))) (dVar 3)) env) fun ds => some (.lst ds)) aNil) gLen))) (sRet (dC (.bl false))) sNil))
    (sRet (dC (.bl true))))))))))
def d_law_design : List D → Option D := runD 2 12 g_law_design
theorem ok_law_design (T : TX K mg) : OkD P w K mg base 1 (He.fAd K ("_law_design", none)) ["_law_wish", "_law_layout"] (spD K d_law_design) := by
  obtain ⟨fd, F⟩ := T.says.def_ 96 (d := dd_law_design) rfl
  have F : FunD K "_law_design" "_law_design" (defArgs (top 122)) (defBody (top 122)) (defScope (top 122)) [] [] (He.fAd K ("_law_design", none)) fd := F
  refine ⟨fd, fn_den (N := ["_law_wish", "_law_layout", "_law_often", "_law_block", "_law_b", "_law_one", "_law_v", "_law_k", "_law_l", "_law_start", "_law_a", "_law_point"]) (ps := ["_law_wish", "_law_layout"]) F sc_law_design g_law_design (fun cdv A outer s H E hr => ?_), FunD.bindsN F (fun _ _ _ _ _ _ us hl => match us, hl with | [_, _], _ => rfl), F.kp⟩
  have nd := sc_law_design.nd
  exact (pds_cons (ds_asg (pd_var 0) (dg_tup (dgs_cons 6 nd (dgs_cons 7 nd (dgs_cons 8 nd (dgs_cons 9 nd dgs_nil))))))
    (pds_cons (ds_if (pdw_pt (pdw_or (pdt_not (pdt_val (pd_isi .tuple (T.free 4) (T.free 3) (pd_var 1)))) (pdw_or (pdt_cmp (op_neM hr.units) dr_ne (pd_callB call_len dr_len rfl (T.free 0) PySem.boot_len (pda_cons (pd_var 1) pda_nil)) pd_int) (pdw_or (pdt_cmp (op_neM hr.units) dr_ne (pd_ix ix_or dr_ix (pd_var 1) pd_int) (pd_var 6)) (pdw_or1 (pdt_not (pdt_val (pd_isi .tuple (T.free 4) (T.free 3) (pd_ix ix_or dr_ix (pd_var 1) pd_int))))))))) (pds_one (ds_ret pd_bl)) pds_nil)
    (pds_cons (ds_if (pdw_pt (pdw_or (pdt_cmp op_gt dr_gt (pd_var 6) pd_int) (pdw_or1 (pdt_cmp op_gt dr_gt (pd_callB call_len dr_len rfl (T.free 0) PySem.boot_len (pda_cons (pd_ix ix_or dr_ix (pd_var 1) pd_int) pda_nil)) pd_int)))) (pds_one (ds_ret pd_bl)) pds_nil)
    (pds_cons (ds_newD 2 nd)
    (pds_cons (ds_for PassesOwn.never (pdi_any (pd_ix ix_or dr_ix (pd_var 1) pd_int)) (dg_name 3 nd) (pds_cons (ds_if (pdw_pt (pdw_or (pdt_not (pdt_val (pd_isi .tuple (T.free 4) (T.free 3) (pd_var 3)))) (pdw_or (pdt_cmp (op_neM hr.units) dr_ne (pd_callB call_len dr_len rfl (T.free 0) PySem.boot_len (pda_cons (pd_var 3) pda_nil)) (pd_var 7)) (pdw_or1 (pdt_cmp (op_neM hr.units) dr_ne (pd_ofN (pn_callTy call_list_of dr_list rfl (T.free 2) (by decide +kernel) (pda_cons (pd_var 3) pda_nil))) (pd_ofN (pn_sortedSet (T.free 9) (T.free 10) (pd_var 3)))))))) (pds_one (ds_ret pd_bl)) pds_nil)
    (pds_cons (ds_if (pdt_not (pdt_val (pd_callB (cr_all rfl) dr_all rfl (T.free 14) (by decide +kernel) (pda_cons (pd_ofN (pn_lc [("_law_point", 11)] nd (tgOk_name 11) (pdi_any (pd_var 3)) (blkOk_by (by kernel_rfl)) (fun _ _ _ _ _ => pg_name (i := 11) nd rfl (by first | exact Or.inl rfl | exact Or.inr rfl)) (fun _ _ _ _ _ => pts_no) (fun _ _ _ _ _ => (pd_and (pd_isi .int (T.free 4) (T.free 5) (pd_var 11)) (pd_and (pd_not (pd_isi .bool (T.free 4) (T.free 6) (pd_var 11))) (pd_one (pd_chain op_le dr_le op_lt dr_lt pd_int (pd_var 11) (pd_var 6)))))))) pda_nil)))) (pds_one (ds_ret pd_bl)) pds_nil)
    (pds_one (ds_for PassesOwn.never (pdi_any (pd_var 3)) (dg_name 4 nd) (pds_one (ds_for PassesOwn.never (pdi_any (pd_var 3)) (dg_name 10 nd) (pds_one (ds_putD 2 hr.units1 (pd_tup (pda_cons (pd_var 10) (pda_cons (pd_var 4) pda_nil))) (pd_op or_add dr_add (pd_get 2 hr.units1 (pd_tup (pda_cons (pd_var 10) (pda_cons (pd_var 4) pda_nil))) pd_int) pd_int))))))))))
    (pds_cons (ds_for PassesOwn.never (pdi_rg1 (T.free 1) (pda_cons (pd_var 6) pda_nil)) (dg_name 4 nd) (pds_one (ds_for PassesOwn.never (pdi_rg1 (T.free 1) (pda_cons (pd_var 4) pda_nil)) (dg_name 10 nd) (pds_one (ds_if (pdt_cmp (op_neM hr.units) dr_ne (pd_get 2 hr.units1 (pd_tup (pda_cons (pd_var 10) (pda_cons (pd_var 4) pda_nil))) pd_int) (pd_var 8)) (pds_one (ds_ret pd_bl)) pds_nil)))))
    (pds_cons (ds_for PassesOwn.never (pdi_any (pd_var 9)) (dg_name 5 nd) (pds_one (ds_if (pdt_cmp op_gt dr_gt (pd_callB call_len dr_len rfl (T.free 0) PySem.boot_len (pda_cons (pd_ofN (pn_lc [("_law_block", 3)] nd (tgOk_name 3) (pdi_any (pd_var 9)) (blkOk_by (by kernel_rfl)) (fun _ _ _ _ _ => pg_name (i := 3) nd rfl (by first | exact Or.inl rfl | exact Or.inr rfl)) (fun _ _ _ _ _ => pts_if (pdt_cmp (op_eqM hr.units) dr_eq (pd_var 3) (pd_var 5))) (fun _ _ _ _ _ => (pd_var 3)))) pda_nil)) (pd_callB call_len dr_len rfl (T.free 0) PySem.boot_len (pda_cons (pd_ofN (pn_lc [("_law_block", 3)] nd (tgOk_name 3) (pdi_any (pd_ix ix_or dr_ix (pd_var 1) pd_int)) (blkOk_by (by kernel_rfl)) (fun _ _ _ _ _ => pg_name (i := 3) nd rfl (by first | exact Or.inl rfl | exact Or.inr rfl)) (fun _ _ _ _ _ => pts_if (pdt_cmp (op_eqM hr.units) dr_eq (pd_var 3) (pd_var 5))) (fun _ _ _ _ _ => (pd_var 3)))) pda_nil))) (pds_one (ds_ret pd_bl)) pds_nil)))
    (pds_one (ds_ret pd_bl)))))))))
/-! law_right -/
theorem sc_law_right : FnScope ["_law_wish", "_law_found"] ["_law_wish", "_law_found"] (defScope (top 123)) := ⟨rfl, rfl, rfl, by decide +kernel, rfl, by decide +kernel, by decide +kernel⟩
def g_law_right : Env → Option Res :=
  (sSeq (sIf (tOrD (tNotD (tOfD (cll (aCons (dVar 1) aNil) (gIsi .tuple)))) (tOfD (bop gEq (dVar 1) (dTup aNil)))) (sRet (dC (.bl false))) sNil)
    (sSeq (sIf (tOfD (bop gEq (bop gIx (dVar 1) (dC (.int 0))) (dC (.str "design")))) (sRet (dAndV (bop gEq (cll (aCons (dVar 1) aNil) gLen) (dC (.int 2))) (cll (aCons (dVar 0) (aCons (bop gIx (dVar 1) (dC (.int 1))) aNil)) d_law_design))) sNil)
    (sSeq (sIf (tOfD (bop gEq (bop gIx (dVar 1) (dC (.int 0))) (dC (.str "none")))) (sRet (dAndV (bop gEq (cll (aCons (dVar 1) aNil) gLen) (dC (.int 2))) (bop gIsB (cll (aCons (dVar 0) (aCons (bop gIx (dVar 1) (dC (.int 1))) aNil)) d_paper_taken) (dC (.bl true))))) sNil)
    (sRet (bop gEq (dVar 1) (dTup (aCons (dC (.str "open")) aNil)))))))
def d_law_right : List D → Option D := runD 2 2 g_law_right
theorem ok_law_right (T : TX K mg) : OkD P w K mg base 10 (He.fAd K ("_law_right", none)) ["_law_wish", "_law_found"] (spD K d_law_right) := by
  obtain ⟨fd, F⟩ := T.says.def_ 97 (d := dd_law_right) rfl
  have F : FunD K "_law_right" "_law_right" (defArgs (top 123)) (defBody (top 123)) (defScope (top 123)) [] [] (He.fAd K ("_law_right", none)) fd := F
  refine ⟨fd, fn_den (N := ["_law_wish", "_law_found"]) (ps := ["_law_wish", "_law_found"]) F sc_law_right g_law_right (fun cdv A outer s H E hr => ?_), FunD.bindsN F (fun _ _ _ _ _ _ us hl => match us, hl with | [_, _], _ => rfl), F.kp⟩
  have nd := sc_law_right.nd
  exact (pds_cons (ds_if (pdw_pt (pdw_or (pdt_not (pdt_val (pd_isi .tuple (T.free 4) (T.free 3) (pd_var 1)))) (pdw_or1 (pdt_cmp (op_eqM hr.units) dr_eq (pd_var 1) (pd_tup pda_nil))))) (pds_one (ds_ret pd_bl)) pds_nil)
    (pds_cons (ds_if (pdt_cmp (op_eqM hr.units) dr_eq (pd_ix ix_or dr_ix (pd_var 1) pd_int) pd_str) (pds_one (ds_ret (pd_and (pd_cmp (op_eqM hr.units) dr_eq (pd_callB call_len dr_len rfl (T.free 0) PySem.boot_len (pda_cons (pd_var 1) pda_nil)) pd_int) (pd_one (pd_callO (ok_law_design T) (hr.mono (by first | decide | omega)) (T.glo 106) (pda_cons (pd_var 0) (pda_cons (pd_ix ix_or dr_ix (pd_var 1) pd_int) pda_nil))))))) pds_nil)
    (pds_cons (ds_if (pdt_cmp (op_eqM hr.units) dr_eq (pd_ix ix_or dr_ix (pd_var 1) pd_int) pd_str) (pds_one (ds_ret (pd_and (pd_cmp (op_eqM hr.units) dr_eq (pd_callB call_len dr_len rfl (T.free 0) PySem.boot_len (pda_cons (pd_var 1) pda_nil)) pd_int) (pd_one (pd_cmp op_isBl dr_isB (pd_callO (ok_paper_taken T) (hr.mono (by first | decide | omega)) (T.glo 100) (pda_cons (pd_var 0) (pda_cons (pd_ix ix_or dr_ix (pd_var 1) pd_int) pda_nil))) pd_bl))))) pds_nil)
    (pds_one (ds_ret (pd_cmp (op_eqM hr.units) dr_eq (pd_var 1) (pd_tup (pda_cons pd_str pda_nil))))))))
end
end EM
end
set_option maxHeartbeats 4000000
noncomputable section
namespace EM
open PySem PySem.Spec PyProof.Rows L2
section
variable {P : Program} {w : World} {K : PySem.W.Frag} {mg : Str → Option Value} {base : Heap}
/-! Field_init -/
theorem sc_Field_init : FnScope ["self", "p", "row"] ["self", "p", "row"] (defScope (inClass (top 55) 0)) := ⟨rfl, rfl, rfl, by decide +kernel, rfl, by decide +kernel, by decide +kernel⟩
theorem ok_Field_init (T : TX K mg) : OkD P w K mg base 5 (He.fAd K ("Field", some "__init__")) ["self", "p", "row"] (spF K d_check_field) := by
  obtain ⟨fd, F⟩ := T.says.def_ 33 (d := dd_Field_init) rfl
  have F : FunD K "__init__" "Field.__init__" (defArgs (inClass (top 55) 0)) (defBody (inClass (top 55) 0)) (defScope (inClass (top 55) 0)) [] [] (He.fAd K ("Field", some "__init__")) fd := F
  refine ⟨fd, F.ok sc_Field_init (fun vs H Q E h => ?_) (fun cdv A outer s H vs Q E hr h => ?_), FunD.bindsN F (fun _ _ _ _ _ _ us hl => match us, hl with | [_, _, _], _ => rfl), F.kp⟩
  · obtain ⟨F1, a, C, dx, vp, vr, dp, dr, d, rfl, _⟩ := h
    rfl
  · obtain ⟨F1, a, C, dx, vp, vr, dp, dr, d, rfl, s1, hF, hC, hH, r1, r2, e, kk⟩ := h
    have nd := sc_Field_init.nd
    have cf := T.field
    have eC : He.ga K "Field" = C := by
      have z := cf.at_
      rw [hC] at z
      cases z
      rfl
    subst eC
    refine ⟨_, PSs.nox (pss_cons (ps_expr (pd_callO (ok_check_field T) (hr.mono (by decide)) (T.glo 56) (pda_cons (pd_var 1) (pda_cons (pd_var 2) pda_nil))))
      (pss_cons (ps_fld (pe_var (i := 0) rfl (.inl rfl)) (pe_var (i := 1) rfl (.inl rfl)) rfl) (pss_one (ps_fld (pe_var (i := 0) rfl (.inl rfl)) (pe_var (i := 2) rfl (.inl rfl)) rfl)))), ?_⟩
    have s0 := SR.startR (y := a) (N := ["self", "p", "row"]) s1 (.cons r1 (.cons r2 .nil)) (by decide)
    refine ⟨_, F1, H, F1, _, d, s0, e, fun F2 H2 v x2 _ => ?_⟩
    have q1 := x2.keep a _ (fun z => z) hH
    have qF := x2.free hH hF
    refine ⟨_, rfl, _, rfl, a, _, dx, _, rfl, q1, cf.cl, T.na_p, (show (0 : Nat) < 1000 by decide), ?_⟩
    refine ⟨_, rfl, _, rfl, a, _, dx, _, rfl, upd_same, cf.cl, T.na_row, (show (1 : Nat) < 1000 by decide), ?_⟩
    refine kk F2 _ ⟨x2.sub, fun b u q => ?_, fun b u nb q => ?_, x2.new, fun b hb => ?_⟩ upd_same
    · have n := ne_of_none q qF
      rw [upd_ne n, upd_ne n]
      exact x2.sup _ _ q
    · rw [upd_ne nb, upd_ne nb]
      exact x2.keep b u (fun z => z) q
    · rw [hb, upd_same]
      exact ⟨qF, fun z => nomatch z⟩
/-! Search_init -/
theorem sc_Search_init : FnScope ["self", "wish", "most", "pair", "v", "k", "l", "start"] ["self", "wish", "most"] (defScope (inClass (top 89) 0)) := ⟨rfl, rfl, rfl, by decide +kernel, rfl, by decide +kernel, by decide +kernel⟩
def g_Search_loop : Env → Option Res :=
  (sFor (iAny (cll (aCons (dVar 4) aNil) d_pairs_of)) (setN 3) (sPutO (dVar 3) (cll (aCons (dTup (aCons (dVar 4) (aCons (dVar 7) aNil))) (aCons (dVar 3) aNil)) d_count_of)))
def envI (S : SS) (w st : D) : Env := [some (.slf .lent S), some (.fz w), some (.fz (.int S.left)), none, some (.fz (.int S.spots)), some (.fz (.int S.width)), some (.fz (.int S.most)), some (.fz st)]
def d_Search_init : List D → Option SS
  | [w, .int m] => match tupOf w with
    | some [.int v, .int k, .int l, st] => (match g_Search_loop (envI ⟨k, v, l, m, []⟩ w st) with
      | some (.nx e) => slfW e
      | _ => none)
    | _ => none
  | _ => none
theorem ok_Search_init (T : TX K mg) : OkD P w K mg base 2 (He.fAd K ("Search", some "__init__")) ["self", "wish", "most"] (spSI K d_Search_init) := by
  obtain ⟨fd, F⟩ := T.says.def_ 63 (d := dd_Search_init) rfl
  have F : FunD K "__init__" "Search.__init__" (defArgs (inClass (top 89) 0)) (defBody (inClass (top 89) 0)) (defScope (inClass (top 89) 0)) [] [] (He.fAd K ("Search", some "__init__")) fd := F
  have inv : ∀ {ds : List D} {S : SS}, d_Search_init ds = some S → ∃ w st k v l m e, ds = [w, .int m] ∧ tupOf w = some [.int v, .int k, .int l, st] ∧ g_Search_loop (envI ⟨k, v, l, m, []⟩ w st) = some (.nx e) ∧ slfW e = some S := by
    intro ds S h
    unfold d_Search_init at h
    split at h
    · split at h
      · rename_i e1
        split at h
        · rename_i e2
          exact ⟨_, _, _, _, _, _, _, rfl, e1, e2, h⟩
        · cases h
      · cases h
    · cases h
  refine ⟨fd, F.ok sc_Search_init (fun vs H Q E h => ?_) (fun cdv A outer s H vs Q E hr h => ?_), FunD.bindsN F (fun _ _ _ _ _ _ us hl => match us, hl with | [_, _, _], _ => rfl), F.kp⟩
  · obtain ⟨F1, a, C, dx, vs', ds, S, rfl, _, _, _, _, r, e, _⟩ := h
    obtain ⟨w, st, k, v, l, m, e', rfl, _⟩ := inv e
    have := r.length
    exact congrArg (· + 1) this
  · obtain ⟨F1, a, C, dx, vs', ds, S, rfl, s1, hF, hC, hH, r, e, kk⟩ := h
    obtain ⟨wd, st, k, v, l, m, e', rfl, e1, e2, e3⟩ := inv e
    obtain ⟨vw, vm, rfl, r1, r2⟩ := rep2 r
    cases r2
    have nd := sc_Search_init.nd
    have cf := T.search
    have eC : He.ga K "Search" = C := by
      have z := cf.at_
      rw [hC] at z
      cases z
      rfl
    subst eC
    obtain ⟨aw, xs, rfl, hT, rT⟩ := r1.tupOf e1
    cases rT with
    | cons t1 rT =>
    cases rT with
    | cons t2 rT =>
    cases rT with
    | cons t3 rT =>
    cases rT with
    | cons t4 rT =>
    cases rT
    cases t1
    cases t2
    cases t3
    rename_i vst
    refine ⟨_, PSs.nox (pss_cons (ps_asg (pe_var (i := 1) rfl (.inl rfl)) (pg_tup rfl (pgs_cons (pg_name (i := 4) nd rfl (.inl rfl)) (pgs_cons (pg_name (i := 5) nd rfl (.inl rfl)) (pgs_cons (pg_name (i := 6) nd rfl (.inl rfl)) (pgs_cons (pg_name (i := 7) nd rfl (.inl rfl)) pgs_nil))))))
      (pss_cons (ps_fld (pe_var (i := 0) rfl (.inl rfl)) (pe_var (i := 5) rfl (.inl rfl)) rfl)
      (pss_cons (ps_fld (pe_var (i := 0) rfl (.inl rfl)) (pe_var (i := 4) rfl (.inl rfl)) rfl)
      (pss_cons (ps_fld (pe_var (i := 0) rfl (.inl rfl)) (pe_var (i := 6) rfl (.inl rfl)) rfl)
      (pss_cons (ps_fld (pe_var (i := 0) rfl (.inl rfl)) (pe_var (i := 2) rfl (.inl rfl)) rfl)
      (pss_cons (ps_fld (pe_var (i := 0) rfl (.inl rfl)) pe_dnewT rfl) (pds_one (ds_for PassesOwn.never (pdi_any (pd_callO (ok_pairs_of T) (hr.mono (by first | decide | omega)) (T.glo 45) (pda_cons (pd_var 4) pda_nil))) (dg_name 3 nd) (pds_one (ds_putO T.search (T.noat 124) hr.units1 (pd_var 3) (pd_callO (ok_count_of T) (hr.mono (by first | decide | omega)) (T.glo 44) (pda_cons (pd_tup (pda_cons (pd_var 4) (pda_cons (pd_var 7) pda_nil))) (pda_cons (pd_var 3) pda_nil))))))))))))), ?_⟩
    refine ⟨_, rfl, aw, _, rfl, Same.tup s1 hT, rfl, _, _, rfl, _, _, rfl, _, _, rfl, _, _, rfl, rfl, ?_⟩
    refine ⟨_, rfl, _, rfl, a, _, dx, _, rfl, hH, cf.cl, T.noat 120, (show (0 : Nat) < 1000 by decide), ?_⟩
    refine ⟨_, rfl, _, rfl, a, _, dx, _, rfl, upd_same, cf.cl, T.noat 121, (show (1 : Nat) < 1000 by decide), ?_⟩
    refine ⟨_, rfl, _, rfl, a, _, dx, _, rfl, upd_same, cf.cl, T.noat 122, (show (2 : Nat) < 1000 by decide), ?_⟩
    refine ⟨_, rfl, _, rfl, a, _, dx, _, rfl, upd_same, cf.cl, T.noat 123, (show (3 : Nat) < 1000 by decide), ?_⟩
    intro pd hp
    have np : pd ≠ a := fun z => by rw [z, upd_same] at hp; cases hp
    have hpH : H pd = none := by
      rw [upd_ne np, upd_ne np, upd_ne np, upd_ne np] at hp
      exact hp
    have hpF : F1 pd = none := free_of s1 hpH
    refine ⟨_, rfl, a, _, dx, [(("width" : Str), .int k), (("spots" : Str), .int v), (("most" : Str), .int l), (("left" : Str), .int m)], rfl, by rw [upd_ne np.symm]; exact upd_same, cf.cl, T.noat 124, (show (4 : Nat) < 1000 by decide), ?_⟩
    have sup2 : ∀ b u, F1 b = some u → H b = some u := fun b u q => s1 _ _ q
    let H6 := upd (upd (upd (upd (upd (upd H a (.ins (He.ga K "Search") dx [(("width" : Str), .int k)])) a (.ins (He.ga K "Search") dx [(("width" : Str), .int k), (("spots" : Str), .int v)])) a (.ins (He.ga K "Search") dx [(("width" : Str), .int k), (("spots" : Str), .int v), (("most" : Str), .int l)])) a (.ins (He.ga K "Search") dx [(("width" : Str), .int k), (("spots" : Str), .int v), (("most" : Str), .int l), (("left" : Str), .int m)])) pd (.dT [])) a (.ins (He.ga K "Search") dx (flds ⟨k, v, l, m, []⟩ pd))
    have h6a : H6 a = some (.ins (He.ga K "Search") dx (flds ⟨k, v, l, m, []⟩ pd)) := upd_same
    have h6p : H6 pd = some (.dT (kvs [])) := by
      show upd _ a _ pd = _
      rw [upd_ne np]
      exact upd_same
    have h6o : ∀ b, b ≠ a → b ≠ pd → H6 b = H b := fun b n1 n2 => by
      show upd _ a _ b = _
      rw [upd_ne n1, upd_ne n2, upd_ne n1, upd_ne n1, upd_ne n1, upd_ne n1]
    have sup6 : Same F1 H6 := fun b u q => by
      rw [h6o b (ne_of_none q hF) (ne_of_none q hpF)]
      exact s1 _ _ q
    show tS K g_Search_loop _ [some (.ref a), some (.ref aw), some (.int m), none, some (.int v), some (.int k), some (.int l), some vst] H6
    have live : ∀ b, MB ⟨some (a, pd), F1⟩ b → F1 b = none ∧ H6 b ≠ none := fun b hb => by
      rcases (show b = a ∨ b = pd from hb) with z | z
      · rw [z, h6a]
        exact ⟨hF, fun z => nomatch z⟩
      · rw [z, h6p]
        exact ⟨hpF, fun z => nomatch z⟩
    have s6 : SR K ⟨some (a, pd), F1⟩ F1 H6 F1 H6 [some (.ref a), some (.ref aw), some (.int m), none, some (.int v), some (.int k), some (.int l), some vst] (envI ⟨k, v, l, m, []⟩ wd st) := by
      refine ⟨⟨Same.refl F1, sup6, fun _ _ _ h => h, fun a o h h' => (by rw [h] at h'; cases h'), fun b hb => live b hb⟩, rfl, fun i e h => ?_, fun b hb => (live b hb).2, Same.refl F1, fun i j e e' q hij g1 m1 _ g3 m3 => ?_⟩
      · match i, h with
        | 0, h => cases h; exact ⟨_, rfl, a, dx, pd, _, rfl, rfl, hC, h6a, h6p, hF, hpF⟩
        | 1, h => cases h; exact ⟨_, rfl, r1⟩
        | 2, h => cases h; exact ⟨_, rfl, .int m⟩
        | 3, h => cases h
        | 4, h => cases h; exact ⟨_, rfl, .int v⟩
        | 5, h => cases h; exact ⟨_, rfl, .int k⟩
        | 6, h => cases h; exact ⟨_, rfl, .int l⟩
        | 7, h => cases h; exact ⟨_, rfl, t4⟩
        | n + 8, h => cases h
      · have only : ∀ {i : Nat} {e : EV}, (envI ⟨k, v, l, m, []⟩ wd st)[i]? = some (some e) → mutE e = true → i = 0 := by
          intro i e h hm
          match i, h with
          | 0, h => rfl
          | 1, h => cases h; cases hm
          | 2, h => cases h; cases hm
          | 3, h => cases h
          | 4, h => cases h; cases hm
          | 5, h => cases h; cases hm
          | 6, h => cases h; cases hm
          | 7, h => cases h; cases hm
          | n + 8, h => cases h
        exact absurd ((only g1 m1).trans (only g3 m3).symm) hij
    refine ⟨_, F1, H6, F1, _, _, s6, e2, fun σ' F2 H2 sr => ?_⟩
    obtain ⟨v0, z1, t, dx', dd', C', rfl, z3, z4, z5, z6, z7, z8⟩ := sr.slot 0 _ (slfW_some e3).1
    cases z3
    rw [hC] at z4
    cases z4
    refine kk F2 H2 pd dx' ⟨sr.ext.sub, sr.ext.sup, fun b u nb q => ?_, fun b u q q' => ?_, fun b hb => ?_⟩ z5 hpH z8 z6
    · have n2 : b ≠ pd := ne_of_none q hpH
      exact sr.ext.keep b u (fun z => (show b = a ∨ b = pd from z).elim nb n2) (by rw [h6o b nb n2]; exact q)
    · have z := sr.ext.new b u q q'
      by_cases n1 : b = a
      · rw [n1, h6a] at z
        cases z
      · by_cases n2 : b = pd
        · rw [n2]
          exact hpH
        · rw [h6o b n1 n2] at z
          exact z
    · rw [hb]
      exact ⟨z7, by rw [z5]; exact fun z => nomatch z⟩

end
end EM
end
set_option maxHeartbeats 4000000
noncomputable section
namespace EM
open PySem PySem.Spec PyProof.Rows L2
section
variable {P : Program} {w : World} {K : PySem.W.Frag} {mg : Str → Option Value} {base : Heap}
theorem bindsW {fa' : Addr} {fd : FuncData} (F : FunD K "wish_of" "wish_of" (defArgs (top 75)) (defBody (top 75)) (defScope (top 75)) [.non] [] fa' fd) : Binds K fd ["v", "k", "l", "start"] [] := by
  obtain ⟨ds, r, b⟩ := FunD.binds1 F (ps := ["v", "k", "l", "start"]) 4 1 (by simp) rfl (fun T kV doc pm an cdv ct us its hl h1 => by
    match us, hl, its, h1 with
    | [_, _, _, _], _, [_], _ => exact ⟨_, rfl, rfl⟩)
  cases r
  exact b
/-! wish_of -/
theorem sc_wish_of : FnScope ["v", "k", "l", "start"] ["v", "k", "l", "start"] (defScope (top 75)) := ⟨rfl, rfl, rfl, by decide +kernel, rfl, by decide +kernel, by decide +kernel⟩
def g_wish_of : Env → Option Res :=
  (sSeq (sIf (tOfD (bop gIsN (dVar 3) (dC .non))) (sSet 3 (dTup aNil)) sNil)
    (sSeq (sIf (tOrD (tNotD (tOfD (cll (aCons (dVar 0) (aCons (dC (.int 2)) (aCons (dC (.int 200)) aNil))) d_is_between))) (tOrD (tNotD (tOfD (cll (aCons (dVar 1) (aCons (dC (.int 2)) (aCons (dVar 0) aNil))) d_is_between))) (tNotD (tOfD (cll (aCons (dVar 2) (aCons (dC (.int 1)) (aCons (dC (.int 200)) aNil))) d_is_between))))) sNever sNil)
    (sSeq (sIf (tOrD (tNotD (tOfD (cll (aCons (dVar 3) (aCons (dVar 0) (aCons (dVar 1) aNil))) d_is_start))) (tAndD (tOfD (bop gNe (dVar 3) (dTup aNil))) (tOfD (bop gGt (dVar 0) (dC (.int 9)))))) sNever sNil)
    (sRet (dTup (aCons (dVar 0) (aCons (dVar 1) (aCons (dVar 2) (aCons (dVar 3) aNil)))))))))
def d_wish_of : List D → Option D := runD 4 4 g_wish_of
theorem ok_wish_of (T : TX K mg) : OkD P w K mg base 3 (He.fAd K ("wish_of", none)) ["v", "k", "l", "start"] (spD K d_wish_of) := by
  obtain ⟨fd, F⟩ := T.says.def_ 54 (d := dd_wish_of) rfl
  have F : FunD K "wish_of" "wish_of" (defArgs (top 75)) (defBody (top 75)) (defScope (top 75)) [.non] [] (He.fAd K ("wish_of", none)) fd := F
  refine ⟨fd, fn_den (N := ["v", "k", "l", "start"]) (ps := ["v", "k", "l", "start"]) F sc_wish_of g_wish_of (fun cdv A outer s H E hr => ?_), bindsW F, F.kp⟩
  have nd := sc_wish_of.nd
  exact (pds_cons (ds_if (pdt_cmp op_isN dr_isN (pd_var 3) pd_non) (pds_one (ds_set 3 nd (pd_tup pda_nil))) pds_nil)
    (pds_cons (ds_if (pdw_pt (pdw_or (pdt_not (pdt_val (pd_callO (ok_is_between T) (hr.mono (by first | decide | omega)) (T.glo 68) (pda_cons (pd_var 0) (pda_cons pd_int (pda_cons (T.cst 18 rfl) pda_nil)))))) (pdw_or (pdt_not (pdt_val (pd_callO (ok_is_between T) (hr.mono (by first | decide | omega)) (T.glo 68) (pda_cons (pd_var 1) (pda_cons pd_int (pda_cons (pd_var 0) pda_nil)))))) (pdw_or1 (pdt_not (pdt_val (pd_callO (ok_is_between T) (hr.mono (by first | decide | omega)) (T.glo 68) (pda_cons (pd_var 2) (pda_cons pd_int (pda_cons (T.cst 19 rfl) pda_nil)))))))))) pds_never pds_nil)
    (pds_cons (ds_if (pdw_pt (pdw_or (pdt_not (pdt_val (pd_callO (ok_is_start T) (hr.mono (by first | decide | omega)) (T.glo 69) (pda_cons (pd_var 3) (pda_cons (pd_var 0) (pda_cons (pd_var 1) pda_nil)))))) (pdw_or1 (pdw_pt (pdw_and (pdt_cmp (op_neM hr.units) dr_ne (pd_var 3) (pd_tup pda_nil)) (pdw_and1 (pdt_cmp op_gt dr_gt (pd_var 0) (T.cst 20 rfl)))))))) pds_never pds_nil)
    (pds_one (ds_ret (pd_tup (pda_cons (pd_var 0) (pda_cons (pd_var 1) (pda_cons (pd_var 2) (pda_cons (pd_var 3) pda_nil))))))))))
/-! named_layouts -/
theorem sc_named_layouts : FnScope ["v", "found", "p", "row", "field", "q", "layout"] ["v"] (defScope (top 86)) := ⟨rfl, rfl, rfl, by decide +kernel, rfl, by decide +kernel, by decide +kernel⟩
def g_named_layouts : Env → Option Res :=
  (sSeq (sSetN 1 (nLst aNil))
    (sSeq (sFor (iAny (dC dFIELDS)) (setT [2, 3]) (sSeq (sSet 4 (cll (aCons (dVar 2) (aCons (dVar 3) aNil)) (dField d_check_field)))
    (sSeq (sSet 5 (mll (dVar 4) aNil d_Field_size))
    (sSeq (sIf (tOfD (bop gEq (dVar 0) (bop gAdd (bop gAdd (bop gMul (dVar 5) (dVar 5)) (dVar 5)) (dC (.int 1))))) (sApp 1 (cll (aCons (dVar 4) aNil) d_plane_of)) sNil)
    (sIf (tOfD (bop gEq (dVar 0) (bop gMul (dVar 5) (dVar 5)))) (sApp 1 (cll (aCons (dVar 4) aNil) d_flat_of)) sNil)))))
    (sFrz 1 (sRet (bop gAdd (dVar 1) (fun env => bnd ((nLc [6] (iAny (dVar 1)) (setN 6) tYesD (cll (aCons (dVar 6) aNil) d_complement)) env) fun ds => some (.lst ds)))))))
def d_named_layouts : List D → Option D := runD 1 7 g_named_layouts
theorem ok_named_layouts (T : TX K mg) : OkD P w K mg base 7 (He.fAd K ("named_layouts", none)) ["v"] (spD K d_named_layouts) := by
  obtain ⟨fd, F⟩ := T.says.def_ 60 (d := dd_named_layouts) rfl
  have F : FunD K "named_layouts" "named_layouts" (defArgs (top 86)) (defBody (top 86)) (defScope (top 86)) [] [] (He.fAd K ("named_layouts", none)) fd := F
  refine ⟨fd, fn_den (N := ["v", "found", "p", "row", "field", "q", "layout"]) (ps := ["v"]) F sc_named_layouts g_named_layouts (fun cdv A outer s H E hr => ?_), FunD.bindsN F (fun _ _ _ _ _ _ us hl => match us, hl with | [_], _ => rfl), F.kp⟩
  have nd := sc_named_layouts.nd
  exact (pds_cons (ds_setN 1 nd (pn_lst pda_nil))
    (pds_cons (ds_for PassesOwn.never (pdi_any (T.fields rfl)) (dg_tup (dgs_cons 2 nd (dgs_cons 3 nd dgs_nil))) (pds_cons (ds_set 4 nd (pd_mkField T.field (T.mkr 115) (ok_Field_init T) (hr.mono (by first | decide | omega)) (T.glo 110) (pda_cons (pd_var 2) (pda_cons (pd_var 3) pda_nil))))
    (pds_cons (ds_set 5 nd (pd_fmethO0 T.field (T.meth 125) (ok_Field_size T) (hr.mono (by first | decide | omega)) (pd_var 4)))
    (pds_cons (ds_if (pdt_cmp (op_eqM hr.units) dr_eq (pd_var 0) (pd_op or_add dr_add (pd_op or_add dr_add (pd_op or_mul dr_mul (pd_var 5) (pd_var 5)) (pd_var 5)) pd_int)) (pds_one (ds_app 1 (pd_callO (ok_plane_of T) (hr.mono (by first | decide | omega)) (T.glo 66) (pda_cons (pd_var 4) pda_nil)))) pds_nil)
    (pds_one (ds_if (pdt_cmp (op_eqM hr.units) dr_eq (pd_var 0) (pd_op or_mul dr_mul (pd_var 5) (pd_var 5))) (pds_one (ds_app 1 (pd_callO (ok_flat_of T) (hr.mono (by first | decide | omega)) (T.glo 67) (pda_cons (pd_var 4) pda_nil)))) pds_nil))))))
    (pds_one (ds_frz 1 (ds_ret (pd_op or_add dr_add (pd_var 1) (pd_ofN (pn_lc [("layout", 6)] nd (tgOk_name 6) (pdi_any (pd_var 1)) (blkOk_by (by kernel_rfl)) (fun _ _ _ _ _ => pg_name (i := 6) nd rfl (by first | exact Or.inl rfl | exact Or.inr rfl)) (fun _ _ _ _ _ => pts_no) (fun _ _ _ _ _ => (pd_callO (ok_complement T) (hr.mono (by first | decide | omega)) (T.glo 43) (pda_cons (pd_var 6) pda_nil)))))))))))
/-! named_design -/
theorem sc_named_design : FnScope ["wish", "times", "layout", "v", "k", "l", "start"] ["wish"] (defScope (top 87)) := ⟨rfl, rfl, rfl, by decide +kernel, rfl, by decide +kernel, by decide +kernel⟩
def g_named_design : Env → Option Res :=
  (sSeq (fun env => bnd ((dVar 0) env) fun d => bnd ((setT [3, 4, 5, 6]) d env) fun e => some (.nx e))
    (sSeq (sSet 1 (cll (aCons (bop gSub (dVar 3) (dC (.int 2))) (aCons (bop gSub (dVar 4) (dC (.int 2))) aNil)) d_ways_of))
    (sSeq (sIf (tOfD (bop gEq (bop gMod (dVar 5) (dVar 1)) (dC (.int 0)))) (sRet (dTup (aCons (dVar 3) (aCons (bop gMulT (cll (aCons (cll (aCons (fun env => bnd ((nListRg (dVar 3)) env) fun ds => some (.lst ds)) (aCons (dVar 4) aNil)) (d_sets_of_building 62)) aNil) gTuple) (bop gDiv (dVar 5) (dVar 1))) aNil)))) sNil)
    (sSeq (sFor (iAny (cll (aCons (dVar 3) aNil) d_named_layouts)) (setN 2) (sSeq (sSet 1 (cll (aCons (dVar 2) (aCons (dTup (aCons (dC (.int 0)) (aCons (dC (.int 1)) aNil))) aNil)) d_count_of))
    (sIf (tAndD (tOfD (bop gEq (cll (aCons (bop gIx (bop gIx (dVar 2) (dC (.int 1))) (dC (.int 0))) aNil) gLen) (dVar 4))) (tOfD (bop gEq (bop gMod (dVar 5) (dVar 1)) (dC (.int 0))))) (sRet (dTup (aCons (dVar 3) (aCons (bop gMulT (bop gIx (dVar 2) (dC (.int 1))) (bop gDiv (dVar 5) (dVar 1))) aNil)))) sNil)))
    (sRet (dC .non))))))
def d_named_design : List D → Option D := runD 1 7 g_named_design
theorem ok_named_design (T : TX K mg) : OkD P w K mg base 63 (He.fAd K ("named_design", none)) ["wish"] (spD K d_named_design) := by
  obtain ⟨fd, F⟩ := T.says.def_ 61 (d := dd_named_design) rfl
  have F : FunD K "named_design" "named_design" (defArgs (top 87)) (defBody (top 87)) (defScope (top 87)) [] [] (He.fAd K ("named_design", none)) fd := F
  refine ⟨fd, fn_den (N := ["wish", "times", "layout", "v", "k", "l", "start"]) (ps := ["wish"]) F sc_named_design g_named_design (fun cdv A outer s H E hr => ?_), FunD.bindsN F (fun _ _ _ _ _ _ us hl => match us, hl with | [_], _ => rfl), F.kp⟩
  have nd := sc_named_design.nd
  exact (pds_cons (ds_asg (pd_var 0) (dg_tup (dgs_cons 3 nd (dgs_cons 4 nd (dgs_cons 5 nd (dgs_cons 6 nd dgs_nil))))))
    (pds_cons (ds_set 1 nd (pd_callO (ok_ways_of T) (hr.mono (by first | decide | omega)) (T.glo 73) (pda_cons (pd_op op_sub dr_sub (pd_var 3) pd_int) (pda_cons (pd_op op_sub dr_sub (pd_var 4) pd_int) pda_nil))))
    (pds_cons (ds_if (pdt_cmp (op_eqM hr.units) dr_eq (pd_op op_modN dr_mod (pd_var 5) (pd_var 1)) pd_int) (pds_one (ds_ret (pd_tup (pda_cons (pd_var 3) (pda_cons (pd_op or_mulT dr_mulT (pd_callTy call_tuple_of dr_tuple rfl (T.free 3) (by decide +kernel) (pda_cons (pd_callO (ok_sets_of_building T 62) (hr.mono (by first | decide | omega)) (T.glo 72) (pda_cons (pd_ofN (pn_listRg (T.free 2) (T.free 1) (pd_var 3))) (pda_cons (pd_var 4) pda_nil))) pda_nil)) (pd_op op_fdivN dr_div (pd_var 5) (pd_var 1))) pda_nil))))) pds_nil)
    (pds_cons (ds_for PassesOwn.never (pdi_any (pd_callO (ok_named_layouts T) (hr.mono (by first | decide | omega)) (T.glo 76) (pda_cons (pd_var 3) pda_nil))) (dg_name 2 nd) (pds_cons (ds_set 1 nd (pd_callO (ok_count_of T) (hr.mono (by first | decide | omega)) (T.glo 44) (pda_cons (pd_var 2) (pda_cons (pd_tup (pda_cons pd_int (pda_cons pd_int pda_nil))) pda_nil))))
    (pds_one (ds_if (pdw_pt (pdw_and (pdt_cmp (op_eqM hr.units) dr_eq (pd_callB call_len dr_len rfl (T.free 0) PySem.boot_len (pda_cons (pd_ix ix_or dr_ix (pd_ix ix_or dr_ix (pd_var 2) pd_int) pd_int) pda_nil)) (pd_var 4)) (pdw_and1 (pdt_cmp (op_eqM hr.units) dr_eq (pd_op op_modN dr_mod (pd_var 5) (pd_var 1)) pd_int)))) (pds_one (ds_ret (pd_tup (pda_cons (pd_var 3) (pda_cons (pd_op or_mulT dr_mulT (pd_ix ix_or dr_ix (pd_var 2) pd_int) (pd_op op_fdivN dr_div (pd_var 5) (pd_var 1))) pda_nil))))) pds_nil))))
    (pds_one (ds_ret pd_non))))))
/-! searched -/
theorem sc_searched : FnScope ["wish", "most", "blocks", "node"] ["wish", "most"] (defScope (top 90)) := ⟨rfl, rfl, rfl, by decide +kernel, rfl, by decide +kernel, by decide +kernel⟩
def g_searched : Env → Option Res :=
  (sSeq (fun env => bnd ((dGo (aCons (dVar 0) (aCons (dVar 1) aNil)) (aCons (bop gIx (dVar 0) (dC (.int 3))) aNil) d_Search_init (d_Search_going 202)) env) fun d => bnd ((setT [2, 3]) d env) fun e => some (.nx e))
    (sSeq (sIf (tOfD (bop gNotN (dVar 2) (dC .non))) (sRet (dTup (aCons (dC (.str "design")) (aCons (dTup (aCons (bop gIx (dVar 0) (dC (.int 0))) (aCons (dVar 2) aNil))) aNil)))) sNil)
    (sSeq (sIf (tOfD (bop gNotN (dVar 3) (dC .non))) (sRet (dTup (aCons (dC (.str "none")) (aCons (dTup (aCons (dC (.str "tree")) (aCons (dVar 3) aNil))) aNil)))) sNil)
    (sRet (dTup (aCons (dC (.str "open")) aNil))))))
def d_searched : List D → Option D := runD 2 4 g_searched
theorem ok_searched (T : TX K mg) : OkD P w K mg base 215 (He.fAd K ("searched", none)) ["wish", "most"] (spD K d_searched) := by
  obtain ⟨fd, F⟩ := T.says.def_ 69 (d := dd_searched) rfl
  have F : FunD K "searched" "searched" (defArgs (top 90)) (defBody (top 90)) (defScope (top 90)) [] [] (He.fAd K ("searched", none)) fd := F
  refine ⟨fd, fn_den (N := ["wish", "most", "blocks", "node"]) (ps := ["wish", "most"]) F sc_searched g_searched (fun cdv A outer s H E hr => ?_), FunD.bindsN F (fun _ _ _ _ _ _ us hl => match us, hl with | [_, _], _ => rfl), F.kp⟩
  have nd := sc_searched.nd
  exact (pds_cons (ds_asg (pd_searchGo T.search (T.mkr 117) (ok_Search_init T) (hr.mono (by first | decide | omega)) (T.glo 111) (pda_cons (pd_var 0) (pda_cons (pd_var 1) pda_nil)) (T.meth 134) (ok_Search_going T 202) (hr.mono (by first | decide | omega)) (pda_cons (pd_ix ix_or dr_ix (pd_var 0) pd_int) pda_nil)) (dg_tup (dgs_cons 2 nd (dgs_cons 3 nd dgs_nil))))
    (pds_cons (ds_if (pdt_cmp op_notN dr_notN (pd_var 2) pd_non) (pds_one (ds_ret (pd_tup (pda_cons pd_str (pda_cons (pd_tup (pda_cons (pd_ix ix_or dr_ix (pd_var 0) pd_int) (pda_cons (pd_var 2) pda_nil))) pda_nil))))) pds_nil)
    (pds_cons (ds_if (pdt_cmp op_notN dr_notN (pd_var 3) pd_non) (pds_one (ds_ret (pd_tup (pda_cons pd_str (pda_cons (pd_tup (pda_cons pd_str (pda_cons (pd_var 3) pda_nil))) pda_nil))))) pds_nil)
    (pds_one (ds_ret (pd_tup (pda_cons pd_str pda_nil)))))))
/-! answer -/
theorem sc_answer : FnScope ["wish", "most", "paper", "small", "layout"] ["wish", "most"] (defScope (top 91)) := ⟨rfl, rfl, rfl, by decide +kernel, rfl, by decide +kernel, by decide +kernel⟩
def g_answer : Env → Option Res :=
  (sSeq (sIf (tNotD (tOfD (cll (aCons (dVar 1) (aCons (dC (.int 0)) (aCons (dC (.int 5000)) aNil))) d_is_between))) sNever sNil)
    (sSeq (sSet 2 (dOrT (cll (aCons (dVar 0) aNil) d_number_paper) (cll (aCons (dVar 0) aNil) d_over_paper)))
    (sSeq (sIf (tOfD (bop gNotN (dVar 2) (dC .non))) (sRet (dTup (aCons (dC (.str "none")) (aCons (dVar 2) aNil)))) sNil)
    (sSeq (sSet 3 (dAndV (bop gLe (bop gIx (cll (aCons (dVar 0) aNil) d_shares) (dC (.int 1))) (dC (.int 200))) (bop gLe (bop gIx (dVar 0) (dC (.int 0))) (dC (.int 60)))))
    (sSeq (sSet 4 (dC .non))
    (sSeq (sIf (tAndD (tOfD (dVar 3)) (tOfD (bop gEq (bop gIx (dVar 0) (dC (.int 3))) (dTup aNil)))) (sSet 4 (dOrT (cll (aCons (dVar 0) aNil) d_named_design) (cll (aCons (dVar 0) aNil) d_turned_design))) sNil)
    (sSeq (sIf (tOfD (bop gNotN (dVar 4) (dC .non))) (sRet (dTup (aCons (dC (.str "design")) (aCons (dVar 4) aNil)))) sNil)
    (sSeq (sIf (tAndD (tOfD (dVar 3)) (tOfD (bop gLe (bop gIx (dVar 0) (dC (.int 0))) (dC (.int 9))))) (sRet (cll (aCons (dVar 0) (aCons (dVar 1) aNil)) d_searched)) sNil)
    (sRet (dTup (aCons (dC (.str "open")) aNil)))))))))))
def d_answer : List D → Option D := runD 2 5 g_answer
theorem ok_answer (T : TX K mg) : OkD P w K mg base 216 (He.fAd K ("answer", none)) ["wish", "most"] (spD K d_answer) := by
  obtain ⟨fd, F⟩ := T.says.def_ 70 (d := dd_answer) rfl
  have F : FunD K "answer" "answer" (defArgs (top 91)) (defBody (top 91)) (defScope (top 91)) [] [] (He.fAd K ("answer", none)) fd := F
  refine ⟨fd, fn_den (N := ["wish", "most", "paper", "small", "layout"]) (ps := ["wish", "most"]) F sc_answer g_answer (fun cdv A outer s H E hr => ?_), FunD.bindsN F (fun _ _ _ _ _ _ us hl => match us, hl with | [_, _], _ => rfl), F.kp⟩
  have nd := sc_answer.nd
  exact (pds_cons (ds_if (pdt_not (pdt_val (pd_callO (ok_is_between T) (hr.mono (by first | decide | omega)) (T.glo 68) (pda_cons (pd_var 1) (pda_cons pd_int (pda_cons (T.cst 21 rfl) pda_nil)))))) pds_never pds_nil)
    (pds_cons (ds_set 2 nd (pd_orT (pd_callO (ok_number_paper T) (hr.mono (by first | decide | omega)) (T.glo 74) (pda_cons (pd_var 0) pda_nil)) (pd_one (pd_callO (ok_over_paper T) (hr.mono (by first | decide | omega)) (T.glo 75) (pda_cons (pd_var 0) pda_nil)))))
    (pds_cons (ds_if (pdt_cmp op_notN dr_notN (pd_var 2) pd_non) (pds_one (ds_ret (pd_tup (pda_cons pd_str (pda_cons (pd_var 2) pda_nil))))) pds_nil)
    (pds_cons (ds_set 3 nd (pd_and (pd_cmp op_le dr_le (pd_ix ix_or dr_ix (pd_callO (ok_shares T) (hr.mono (by first | decide | omega)) (T.glo 71) (pda_cons (pd_var 0) pda_nil)) pd_int) (T.cst 16 rfl)) (pd_one (pd_cmp op_le dr_le (pd_ix ix_or dr_ix (pd_var 0) pd_int) (T.cst 15 rfl)))))
    (pds_cons (ds_set 4 nd pd_non)
    (pds_cons (ds_if (pdw_pt (pdw_and (pdt_val (pd_var 3)) (pdw_and1 (pdt_cmp (op_eqM hr.units) dr_eq (pd_ix ix_or dr_ix (pd_var 0) pd_int) (pd_tup pda_nil))))) (pds_one (ds_set 4 nd (pd_orT (pd_callO (ok_named_design T) (hr.mono (by first | decide | omega)) (T.glo 77) (pda_cons (pd_var 0) pda_nil)) (pd_one (pd_callO (ok_turned_design T) (hr.mono (by first | decide | omega)) (T.glo 78) (pda_cons (pd_var 0) pda_nil)))))) pds_nil)
    (pds_cons (ds_if (pdt_cmp op_notN dr_notN (pd_var 4) pd_non) (pds_one (ds_ret (pd_tup (pda_cons pd_str (pda_cons (pd_var 4) pda_nil))))) pds_nil)
    (pds_cons (ds_if (pdw_pt (pdw_and (pdt_val (pd_var 3)) (pdw_and1 (pdt_cmp op_le dr_le (pd_ix ix_or dr_ix (pd_var 0) pd_int) (T.cst 20 rfl))))) (pds_one (ds_ret (pd_callO (ok_searched T) (hr.mono (by first | decide | omega)) (T.glo 79) (pda_cons (pd_var 0) (pda_cons (pd_var 1) pda_nil))))) pds_nil)
    (pds_one (ds_ret (pd_tup (pda_cons pd_str pda_nil))))))))))))

end
end EM
end
set_option maxHeartbeats 4000000
noncomputable section
namespace EM
open PySem PySem.Spec PyProof.Rows L2
section
variable {P : Program} {w : World} {K : PySem.W.Frag} {mg : Str → Option Value} {base : Heap}
/-! answer refuses -/
def badMost : List D → Bool
  | [_, m] => (match d_is_between [m, .int 0, .int 5000] with
    | some (.bl false) => true
    | _ => false)
  | _ => false
def spX (K : PySem.W.Frag) (C : Addr) : Sp := fun vs H _ E => ∃ F ds, Same F H ∧ RepAll K F vs ds ∧ badMost ds = true ∧ ∀ F' H', Ext No F H F' H' → E (.ref C) none H'
theorem pss_false {X : Cx} {b : List Stmt} : PSs X b (fun _ _ _ => False) := ⟨fun _ _ _ _ _ _ h => h.elim⟩
theorem ok_answerX (T : TX K mg) : ∃ fd, FnOk P w K mg base (L2.CX P w) 3 (He.fAd K ("answer", none)) fd ["wish", "most"] (spX K (He.ga K "NoWish")) ∧ Binds K fd ["wish", "most"] [] ∧ PySem.W.keepIn K (.ref (He.fAd K ("answer", none))) = true := by
  obtain ⟨fd, F⟩ := T.says.def_ 70 (d := dd_answer) rfl
  have F : FunD K "answer" "answer" (defArgs (top 91)) (defBody (top 91)) (defScope (top 91)) [] [] (He.fAd K ("answer", none)) fd := F
  obtain ⟨x1, x2, x3, x4⟩ := He.exc_ok (T.says.fact 135 rfl)
  refine ⟨fd, F.ok sc_answer (fun vs H Q E h => ?_) (fun cdv A outer s H vs Q E hr h => ?_), FunD.bindsN F (fun _ _ _ _ _ _ us hl => match us, hl with | [_, _], _ => rfl), F.kp⟩
  · obtain ⟨F1, ds, s1, r, e, _⟩ := h
    unfold badMost at e
    split at e
    · rw [r.length]
      rfl
    · cases e
  · obtain ⟨F1, ds, s1, r, e, kk⟩ := h
    refine ⟨_, pss_cons (ps_if (pdt_not (pdt_val (pd_callO (ok_is_between T) (hr.mono (by decide)) (T.glo 68) (pda_cons (pd_var 1) (pda_cons pd_int (pda_cons (T.cst 21 rfl) pda_nil))))))
      (pss_one (ps_raise rfl (takes_of rfl rfl rfl rfl) (pmk_own PySem.F.excBase_ValueError x1 (T.glo 112) x2 (raises_own x3 x4) (by exact rfl)))) pss_nil) pss_false, ?_⟩
    unfold badMost at e
    split at e
    · rename_i wd m
      split at e
      · rename_i e2
        refine ⟨_, F1, H, F1, _, true, SR.start s1 r _, ?_, fun F2 H2 x2 => iteT (kk F2 H2 x2)⟩
        show bnd (tOfD (cll (aCons (dVar 1) (aCons (dC (.int 0)) (aCons (dC (.int 5000)) aNil))) d_is_between) [some (.fz wd), some (.fz m), none, none, none]) _ = _
        unfold tOfD
        show bnd (match d_is_between [m, .int 0, .int 5000] with
          | some (.bl b) => some b
          | _ => none) _ = _
        rw [e2]
        rfl
      · cases e
    · cases e
/-! law_refused -/
def d_law_refused : List D → Option D
  | [w, m] => if badMost [w, m] then some (.bl true) else none
  | _ => none
theorem sc_law_refused : FnScope ["_law_wish", "_law_most", "_law_refused_here"] ["_law_wish", "_law_most"] (defScope (top 124)) := ⟨rfl, rfl, rfl, by decide +kernel, rfl, by decide +kernel, by decide +kernel⟩
theorem ok_law_refused (T : TX K mg) : OkD P w K mg base 4 (He.fAd K ("_law_refused", none)) ["_law_wish", "_law_most"] (spD K d_law_refused) := by
  obtain ⟨fd, F⟩ := T.says.def_ 98 (d := dd_law_refused) rfl
  have F : FunD K "_law_refused" "_law_refused" (defArgs (top 124)) (defBody (top 124)) (defScope (top 124)) [] [] (He.fAd K ("_law_refused", none)) fd := F
  obtain ⟨fdA, GA, bA, kA⟩ := ok_answerX (P := P) (w := w) (base := base) T
  have gN := T.glo (x := "NoWish") 112
  have xm := He.exm_ok (T.says.fact 136 rfl)
  refine ⟨fd, F.ok sc_law_refused (fun vs H Q E h => ?_) (fun cdv A outer s H vs Q E hr h => ?_), FunD.bindsN F (fun _ _ _ _ _ _ us hl => match us, hl with | [_, _], _ => rfl), F.kp⟩
  · obtain ⟨F1, ds, d, s1, r, e, _⟩ := h
    unfold d_law_refused at e
    split at e
    · rw [r.length]
      rfl
    · cases e
  · obtain ⟨F1, ds, d, s1, r, e, kk⟩ := h
    have nd := sc_law_refused.nd
    refine ⟨_, PSs.nox (pss_cons (ps_set (i := 2) nd rfl (Or.inl rfl) pe_bl)
      (pss_cons (ps_try_only (tb := fun W => tDrop (tCallS (spX K (He.ga K "NoWish")) (WE W) (tCons (tVar 0) (tCons (tVar 1) tNil)))) (ts := fun _ _ _ => tAsg (tC (.bl true)) (gName 2)) (Wout := fun _ _ _ _ => False) rfl rfl ⟨rfl, by decide, Or.inl gN⟩ takes0
          (fun W pn xe tk _ => pss_one (ps_expr (pe_callS GA (hr.mono (by decide)) rfl (T.glo 80) kA bA (fun σ => passAt tk σ) (pa_cons (pe_var (i := 0) rfl (Or.inl rfl)) (pa_cons (pe_var (i := 1) rfl (Or.inl rfl)) pa_nil)))))
          (fun _ _ _ _ _ _ _ => pss_one (ps_set (i := 2) nd rfl (Or.inl rfl) pe_bl)))
      (pss_one (ps_ret (pe_var (i := 2) rfl (Or.inl rfl)))))), ?_⟩
    unfold d_law_refused at e
    split at e
    · rename_i wd m
      split at e
      · rename_i e2
        cases e
        obtain ⟨v1, v2, rfl, r1, r2⟩ := rep2 r
        refine ⟨_, rfl, _, rfl, F1, _, s1, .cons r1 (.cons r2 .nil), e2, fun F2 H2 x2 => ⟨true, xm, fun _ a ha => ?_, fun q => nomatch q⟩⟩
        exact ⟨_, rfl, kk F2 H2 _ x2 (.bl true)⟩
      · cases e
    · cases e

end
end EM
end
set_option maxHeartbeats 4000000
noncomputable section
namespace EM
open PySem PySem.Spec PyProof.Rows L2
section
variable {P : Program} {w : World} {K : PySem.W.Frag} {mg : Str → Option Value} {base : Heap}
/-! law -/
theorem sc_law : FnScope ["_law_script", "_law_x", "_law_wish", "_law_y", "_law_most", "_law_found", "_law_again", "_law_v", "_law_k", "_law_l", "_law_start"] ["_law_script"] (defScope (top 125)) := ⟨rfl, rfl, rfl, by decide +kernel, rfl, by decide +kernel, by decide +kernel⟩
def g_law : Env → Option Res :=
  (sSeq (sSet 1 (cll (aCons (cll (aCons (dVar 0) (aCons (dC (.int 0)) aNil)) d_law_cell) (aCons (dC (.int 9)) aNil)) d_law_numbers))
    (sSeq (fun env => bnd ((cll (aCons (dVar 1) aNil) d_law_near_wish) env) fun d => bnd ((setT [7, 8, 9, 10]) d env) fun e => some (.nx e))
    (sSeq (sIf (tOfD (bop gEq (bop gMod (bop gIx (cll (aCons (cll (aCons (dVar 0) (aCons (dC (.int 1)) aNil)) d_law_cell) (aCons (dC (.int 1)) aNil)) d_law_numbers) (dC (.int 0))) (dC (.int 2))) (dC (.int 1)))) (fun env => bnd ((cll (aCons (dVar 1) aNil) d_law_far_wish) env) fun d => bnd ((setT [7, 8, 9, 10]) d env) fun e => some (.nx e)) sNil)
    (sSeq (sSet 2 (cll (aCons (dVar 7) (aCons (dVar 8) (aCons (cll (aCons (dC (.int 200)) (aCons (dVar 9) aNil)) gMin2) (aCons (dVar 10) aNil)))) d_wish_of))
    (sSeq (sSet 3 (cll (aCons (cll (aCons (dVar 0) (aCons (dC (.int 2)) aNil)) d_law_cell) (aCons (dC (.int 4)) aNil)) d_law_numbers))
    (sSeq (sSet 4 (bop gIx (fun env => bnd ((nLst (aCons (bop gMod (bop gIx (dVar 3) (dC (.int 0))) (dC (.int 61))) (aCons (dC (.int 300)) aNil))) env) fun ds => some (.lst ds)) (cll (aCons (bop gEq (bop gMod (bop gIx (dVar 3) (dC (.int 1))) (dC (.int 16))) (dC (.int 1))) aNil) gInt)))
    (sSeq (sSet 5 (cll (aCons (dVar 2) (aCons (dVar 4) aNil)) d_answer))
    (sSeq (sIf (tOrD (tNotD (tOfD (cll (aCons (dVar 2) (aCons (dVar 5) aNil)) d_law_right))) (tNotD (tOfD (cll (aCons (dVar 2) (aCons (bop gIx (fun env => bnd ((nLst (aCons (uop gNeg (dC (.int 1))) (aCons (dC (.int 5001)) (aCons (dC (.bl true)) (aCons (dC .non) (aCons (dC (.str "9")) aNil)))))) env) fun ds => some (.lst ds)) (bop gMod (bop gIx (dVar 3) (dC (.int 2))) (dC (.int 5)))) aNil)) d_law_refused)))) (sRet (dC (.bl false))) sNil)
    (sSeq (sIf (tAndD (tOfD (bop gEq (bop gIx (dVar 2) (dC (.int 3))) (dTup aNil))) (tAndD (tOfD (bop gLt (bop gIx (dVar 2) (dC (.int 1))) (bop gIx (dVar 2) (dC (.int 0))))) (tOfD (bop gGt (bop gMod (bop gMul (bop gIx (dVar 2) (dC (.int 2))) (bop gSub (bop gIx (dVar 2) (dC (.int 0))) (dC (.int 1)))) (bop gSub (bop gIx (dVar 2) (dC (.int 1))) (dC (.int 1)))) (dC (.int 0)))))) (sSet 4 (bop gSub (dC (.int 5000)) (bop gMod (bop gIx (dVar 3) (dC (.int 3))) (dC (.int 100))))) sNil)
    (sSeq (sSet 6 (cll (aCons (dVar 2) (aCons (bop gAdd (dVar 4) (bop gMod (bop gIx (dVar 3) (dC (.int 3))) (dC (.int 100)))) aNil)) d_answer))
    (sRet (dAndV (cll (aCons (dVar 2) (aCons (dVar 6) aNil)) d_law_right) (dOrV (bop gEq (dVar 5) (dTup (aCons (dC (.str "open")) aNil))) (bop gEq (bop gIx (dVar 6) (dC (.int 0))) (bop gIx (dVar 5) (dC (.int 0)))))))))))))))))
def d_law : List D → Option D := runD 1 11 g_law
theorem fn_law (T : TX K mg) {fd : FuncData} (F : FunD K "law" "law" (defArgs (top 125)) (defBody (top 125)) (defScope (top 125)) [] [] (He.fAd K ("law", none)) fd) : FnOk P w K mg base CX0 217 (He.fAd K ("law", none)) fd ["_law_script"] (spD K d_law) := by
  refine fn_den (N := ["_law_script", "_law_x", "_law_wish", "_law_y", "_law_most", "_law_found", "_law_again", "_law_v", "_law_k", "_law_l", "_law_start"]) (ps := ["_law_script"]) F sc_law g_law (fun cdv A outer s H E hr => ?_)
  have nd := sc_law.nd
  exact (pds_cons (ds_set 1 nd (pd_callO (ok_law_numbers T) (hr.mono (by first | decide | omega)) (T.glo 102) (pda_cons (pd_callO (ok_law_cell T) (hr.mono (by first | decide | omega)) (T.glo 101) (pda_cons (pd_var 0) (pda_cons pd_int pda_nil))) (pda_cons pd_int pda_nil))))
    (pds_cons (ds_asg (pd_callO (ok_law_near_wish T) (hr.mono (by first | decide | omega)) (T.glo 105) (pda_cons (pd_var 1) pda_nil)) (dg_tup (dgs_cons 7 nd (dgs_cons 8 nd (dgs_cons 9 nd (dgs_cons 10 nd dgs_nil))))))
    (pds_cons (ds_if (pdt_cmp (op_eqM hr.units) dr_eq (pd_op op_modN dr_mod (pd_ix ix_or dr_ix (pd_callO (ok_law_numbers T) (hr.mono (by first | decide | omega)) (T.glo 102) (pda_cons (pd_callO (ok_law_cell T) (hr.mono (by first | decide | omega)) (T.glo 101) (pda_cons (pd_var 0) (pda_cons pd_int pda_nil))) (pda_cons pd_int pda_nil))) pd_int) pd_int) pd_int) (pds_one (ds_asg (pd_callO (ok_law_far_wish T) (hr.mono (by first | decide | omega)) (T.glo 104) (pda_cons (pd_var 1) pda_nil)) (dg_tup (dgs_cons 7 nd (dgs_cons 8 nd (dgs_cons 9 nd (dgs_cons 10 nd dgs_nil))))))) pds_nil)
    (pds_cons (ds_set 2 nd (pd_callO (ok_wish_of T) (hr.mono (by first | decide | omega)) (T.glo 70) (pda_cons (pd_var 7) (pda_cons (pd_var 8) (pda_cons (pd_callB (call_min2 rfl) dr_min2 rfl (T.free 12) (by decide +kernel) (pda_cons pd_int (pda_cons (pd_var 9) pda_nil))) (pda_cons (pd_var 10) pda_nil))))))
    (pds_cons (ds_set 3 nd (pd_callO (ok_law_numbers T) (hr.mono (by first | decide | omega)) (T.glo 102) (pda_cons (pd_callO (ok_law_cell T) (hr.mono (by first | decide | omega)) (T.glo 101) (pda_cons (pd_var 0) (pda_cons pd_int pda_nil))) (pda_cons pd_int pda_nil))))
    (pds_cons (ds_set 4 nd (pd_ix ix_or dr_ix (pd_ofN (pn_lst (pda_cons (pd_op op_modN dr_mod (pd_ix ix_or dr_ix (pd_var 3) pd_int) pd_int) (pda_cons pd_int pda_nil)))) (pd_callTy call_int1 dr_int rfl (T.free 5) (by decide +kernel) (pda_cons (pd_cmp (op_eqM hr.units) dr_eq (pd_op op_modN dr_mod (pd_ix ix_or dr_ix (pd_var 3) pd_int) pd_int) pd_int) pda_nil))))
    (pds_cons (ds_set 5 nd (pd_callO (ok_answer T) (hr.mono (by first | decide | omega)) (T.glo 80) (pda_cons (pd_var 2) (pda_cons (pd_var 4) pda_nil))))
    (pds_cons (ds_if (pdw_pt (pdw_or (pdt_not (pdt_val (pd_callO (ok_law_right T) (hr.mono (by first | decide | omega)) (T.glo 107) (pda_cons (pd_var 2) (pda_cons (pd_var 5) pda_nil))))) (pdw_or1 (pdt_not (pdt_val (pd_callO (ok_law_refused T) (hr.mono (by first | decide | omega)) (T.glo 108) (pda_cons (pd_var 2) (pda_cons (pd_ix ix_or dr_ix (pd_ofN (pn_lst (pda_cons (pd_un un_neg dr_neg pd_int) (pda_cons pd_int (pda_cons pd_bl (pda_cons pd_non (pda_cons pd_str pda_nil))))))) (pd_op op_modN dr_mod (pd_ix ix_or dr_ix (pd_var 3) pd_int) pd_int)) pda_nil)))))))) (pds_one (ds_ret pd_bl)) pds_nil)
    (pds_cons (ds_if (pdw_pt (pdw_and (pdt_cmp (op_eqM hr.units) dr_eq (pd_ix ix_or dr_ix (pd_var 2) pd_int) (pd_tup pda_nil)) (pdw_and (pdt_cmp op_lt dr_lt (pd_ix ix_or dr_ix (pd_var 2) pd_int) (pd_ix ix_or dr_ix (pd_var 2) pd_int)) (pdw_and1 (pdt_cmp op_gt dr_gt (pd_op op_modN dr_mod (pd_op or_mul dr_mul (pd_ix ix_or dr_ix (pd_var 2) pd_int) (pd_op op_sub dr_sub (pd_ix ix_or dr_ix (pd_var 2) pd_int) pd_int)) (pd_op op_sub dr_sub (pd_ix ix_or dr_ix (pd_var 2) pd_int) pd_int)) pd_int))))) (pds_one (ds_set 4 nd (pd_op op_sub dr_sub pd_int (pd_op op_modN dr_mod (pd_ix ix_or dr_ix (pd_var 3) pd_int) pd_int)))) pds_nil)
    (pds_cons (ds_set 6 nd (pd_callO (ok_answer T) (hr.mono (by first | decide | omega)) (T.glo 80) (pda_cons (pd_var 2) (pda_cons (pd_op or_add dr_add (pd_var 4) (pd_op op_modN dr_mod (pd_ix ix_or dr_ix (pd_var 3) pd_int) pd_int)) pda_nil))))
    (pds_one (ds_ret (pd_and (pd_callO (ok_law_right T) (hr.mono (by first | decide | omega)) (T.glo 107) (pda_cons (pd_var 2) (pda_cons (pd_var 6) pda_nil))) (pd_one (pd_or (pd_cmp (op_eqM hr.units) dr_eq (pd_var 5) (pd_tup (pda_cons pd_str pda_nil))) (pd_one (pd_cmp (op_eqM hr.units) dr_eq (pd_ix ix_or dr_ix (pd_var 6) pd_int) (pd_ix ix_or dr_ix (pd_var 5) pd_int))))))))))))))))))

end
end EM
end
set_option maxHeartbeats 1000000
namespace EM
open PySem PySem.Spec PyProof.Rows L2
/-! data that compare -/
mutual
def gd : D → Bool
  | .non => true
  | .bl _ => true
  | .int _ => true
  | .str x => PyData.strOk x
  | .tup ds => gdAll ds
  | .lst ds => gdAll ds
  | _ => false
def gdAll : List D → Bool
  | [] => true
  | d :: ds => gd d && gdAll ds
end
mutual
theorem gd_py : ∀ d : D, gd d = true → ∃ p, pyOf d = some p ∧ p.canLay0 = true ∧ PyData.eqv p p = true
  | .non, _ => ⟨.none, by simp [pyOf], by simp [PyData.canLay0], by simp [PyData.eqv]⟩
  | .bl b, _ => ⟨.bool b, by simp [pyOf], by simp [PyData.canLay0], by simp [PyData.eqv]⟩
  | .int i, _ => ⟨.int i, by simp [pyOf], by simp [PyData.canLay0], by simp [PyData.eqv]⟩
  | .str x, h => ⟨.str x, by simp [pyOf], by simpa [PyData.canLay0, gd] using h, by simp [PyData.eqv]⟩
  | .tup ds, h => by
    obtain ⟨ps, h1, h2, h3⟩ := gdAll_py ds (by simpa [gd] using h)
    exact ⟨.tuple ps, by simp [pyOf, h1], by simpa [PyData.canLay0] using h2, by simpa [PyData.eqv] using h3⟩
  | .lst ds, h => by
    obtain ⟨ps, h1, h2, h3⟩ := gdAll_py ds (by simpa [gd] using h)
    exact ⟨.list ps, by simp [pyOf, h1], by simpa [PyData.canLay0] using h2, by simpa [PyData.eqv] using h3⟩
  | .fld _ _, h => by simp [gd] at h
  | .scr _, h => by simp [gd] at h
  | .kt _, h => by simp [gd] at h
theorem gdAll_py : ∀ ds : List D, gdAll ds = true → ∃ ps, pyAll ds = some ps ∧ PyData.canLayAll0 ps = true ∧ PyData.eqvAll ps ps = true
  | [], _ => ⟨[], by simp [pyAll], by simp [PyData.canLayAll0], by simp [PyData.eqvAll]⟩
  | d :: ds, h => by
    have h' : gd d = true ∧ gdAll ds = true := by simpa [gdAll] using h
    obtain ⟨p, a1, a2, a3⟩ := gd_py d h'.1
    obtain ⟨ps, b1, b2, b3⟩ := gdAll_py ds h'.2
    exact ⟨p :: ps, by simp [pyAll, a1, b1], by simp [PyData.canLayAll0, a2, b2], by simp [PyData.eqvAll, a3, b3]⟩
end
theorem gdAll_mem : ∀ {ds : List D}, (∀ d ∈ ds, gd d = true) → gdAll ds = true
  | [], _ => by simp [gdAll]
  | d :: ds, h => by
    simp [gdAll, h d (List.mem_cons_self ..), gdAll_mem fun x hx => h x (List.mem_cons_of_mem _ hx)]
theorem gdAll_of : ∀ {ds : List D}, gdAll ds = true → ∀ d ∈ ds, gd d = true
  | [], _, d, hd => by simp at hd
  | e :: ds, h, d, hd => by
    have h' : gd e = true ∧ gdAll ds = true := by simpa [gdAll] using h
    rcases List.mem_cons.mp hd with rfl | hd
    · exact h'.1
    · exact gdAll_of h'.2 d hd
theorem gd_tup {ds : List D} (h : ∀ d ∈ ds, gd d = true) : gd (.tup ds) = true := by
  simp [gd, gdAll_mem h]
theorem gd_tI (m : List Int) : gd (tI m) = true := gd_tup fun d hd => by
  obtain ⟨i, _, rfl⟩ := List.mem_map.mp hd
  simp [gd]
/-- a pair of which one is flat -/
theorem eqD_gd {x y : D} {p q : PyData} (hp : pyOf x = some p) (hq : pyOf y = some q) (cp : p.canLay0 = true) (cq : q.canLay0 = true) (hd : min p.depth q.depth ≤ 64) : eqD x y = some (PyData.eqv p q) := by
  unfold eqD
  rw [hp, hq]
  simp [cp, cq, hd]
theorem eqD_refl {x : D} (h : gd x = true) (hd : ∀ p, pyOf x = some p → p.depth ≤ 64) : eqD x x = some true := by
  obtain ⟨p, h1, h2, h3⟩ := gd_py x h
  rw [eqD_gd h1 h1 h2 h2 (by have := hd p h1; omega), h3]
/-- x == () -/
theorem eqD_nil {x : D} (h : gd x = true) : eqD x (.tup []) = some (match x with
    | .tup [] => true
    | _ => false) := by
  obtain ⟨p, h1, h2, h3⟩ := gd_py x h
  rw [eqD_gd h1 (q := .tuple []) (by simp [pyOf, pyAll]) h2 (by simp [PyData.canLay0, PyData.canLayAll0]) (by simp [PyData.depth, PyData.depthAll]; omega)]
  congr 1
  cases x with
  | tup ds =>
    cases ds with
    | nil =>
      simp [pyOf, pyAll] at h1
      subst h1
      simp [PyData.eqv, PyData.eqvAll]
    | cons d ds =>
      simp only [pyOf, pyAll] at h1
      obtain ⟨ps, e1, h1⟩ := bnd_some h1
      cases h1
      obtain ⟨p1, e2, e1⟩ := bnd_some e1
      obtain ⟨p2, e3, e1⟩ := bnd_some e1
      cases e1
      simp [PyData.eqv, PyData.eqvAll]
  | non => simp [pyOf] at h1; subst h1; simp [PyData.eqv]
  | bl b => simp [pyOf] at h1; subst h1; simp [PyData.eqv]
  | int b => simp [pyOf] at h1; subst h1; simp [PyData.eqv]
  | str b => simp [pyOf] at h1; subst h1; simp [PyData.eqv]
  | lst ds =>
    simp only [pyOf] at h1
    obtain ⟨ps, e1, h1⟩ := bnd_some h1
    cases h1
    simp [PyData.eqv]
  | _ => simp [gd] at h
/-- x == (s,) for x a tuple that begins with a text -/
theorem eqD_word {s t : Str} {r : List D} (h : gd (.tup (.str t :: r)) = true) (hs : PyData.strOk s = true) : eqD (.tup (.str t :: r)) (.tup [.str s]) = some (t == s && r.isEmpty) := by
  have h' : PyData.strOk t = true ∧ gdAll r = true := by simpa [gd, gdAll] using h
  obtain ⟨ps, b1, b2, b3⟩ := gdAll_py r h'.2
  rw [eqD_gd (p := .tuple (.str t :: ps)) (q := .tuple [.str s]) (by simp [pyOf, pyAll, b1]) (by simp [pyOf, pyAll]) (by simp [PyData.canLay0, PyData.canLayAll0, h'.1, b2]) (by simp [PyData.canLay0, PyData.canLayAll0, hs]) (by simp [PyData.depth, PyData.depthAll])]
  congr 1
  cases r with
  | nil =>
    simp [pyAll] at b1
    subst b1
    simp [PyData.eqv, PyData.eqvAll]
  | cons d ds =>
    simp only [pyAll] at b1
    obtain ⟨p1, e2, b1⟩ := bnd_some b1
    obtain ⟨p2, e3, b1⟩ := bnd_some b1
    cases b1
    simp [PyData.eqv, PyData.eqvAll]
theorem eqD_str {s t : Str} (hs : PyData.strOk s = true) (ht : PyData.strOk t = true) : eqD (.str s) (.str t) = some (s == t) := by
  rw [eqD_gd (p := .str s) (q := .str t) (by simp [pyOf]) (by simp [pyOf]) (by simp [PyData.canLay0, hs]) (by simp [PyData.canLay0, ht]) (by simp [PyData.depth])]
  simp [PyData.eqv]
theorem pyAll_ints : ∀ m : List Int, pyAll (m.map D.int) = some (m.map PyData.int)
  | [] => by simp [pyAll]
  | i :: m => by simp [pyAll, pyOf, pyAll_ints m]
theorem lay_ints : ∀ m : List Int, PyData.canLayAll0 (m.map PyData.int) = true
  | [] => by simp [PyData.canLayAll0]
  | i :: m => by simp [PyData.canLayAll0, PyData.canLay0, lay_ints m]
theorem dep_ints : ∀ m : List Int, PyData.depthAll (m.map PyData.int) = 0
  | [] => by simp [PyData.depthAll]
  | i :: m => by simp [PyData.depthAll, PyData.depth, dep_ints m]
theorem eqv_ints : ∀ a b : List Int, PyData.eqvAll (a.map PyData.int) (b.map PyData.int) = decide (a = b)
  | [], [] => by simp [PyData.eqvAll]
  | [], _ :: _ => by simp [PyData.eqvAll]
  | _ :: _, [] => by simp [PyData.eqvAll]
  | x :: a, y :: b => by
    simp only [List.map_cons, PyData.eqvAll, PyData.eqv, eqv_ints a b]
    by_cases h : x = y <;> by_cases h2 : a = b <;> simp [h, h2]
theorem eqD_tI (a b : List Int) : eqD (tI a) (tI b) = some (decide (a = b)) := by
  rw [eqD_gd (p := .tuple (a.map PyData.int)) (q := .tuple (b.map PyData.int)) (by simp [tI, pyOf, pyAll_ints]) (by simp [tI, pyOf, pyAll_ints]) (by simp [PyData.canLay0, lay_ints]) (by simp [PyData.canLay0, lay_ints]) (by simp [PyData.depth, dep_ints])]
  simp [PyData.eqv, eqv_ints]
theorem eqD_lI (a b : List Int) : eqD (.lst (a.map D.int)) (.lst (b.map D.int)) = some (decide (a = b)) := by
  rw [eqD_gd (p := .list (a.map PyData.int)) (q := .list (b.map PyData.int)) (by simp [pyOf, pyAll_ints]) (by simp [pyOf, pyAll_ints]) (by simp [PyData.canLay0, lay_ints]) (by simp [PyData.canLay0, lay_ints]) (by simp [PyData.depth, dep_ints])]
  simp [PyData.eqv, eqv_ints]
/-! loops -/
theorem lc_of {set : D → Env → Option Env} {tt : Env → Option Bool} {elt : Env → Option D} {env : Env} {α : Type} (g : α → D) (p : α → Bool) (f : α → D) : ∀ xs : List α, (∀ x ∈ xs, ∃ e1, set (g x) env = some e1 ∧ tt e1 = some (p x) ∧ (p x = true → elt e1 = some (f x))) →
    lcD set tt elt env (xs.map g) = some ((xs.filter p).map f)
  | [], _ => rfl
  | x :: xs, h => by
    obtain ⟨e1, h1, h2, h3⟩ := h x (List.mem_cons_self ..)
    have ih := lc_of g p f xs fun y hy => h y (List.mem_cons_of_mem _ hy)
    show bnd (set (g x) env) _ = _
    rw [h1]
    show bnd (tt e1) _ = _
    rw [h2]
    show (if p x = true then _ else _) = _
    by_cases c : p x = true
    · rw [if_pos c, h3 c, ih]
      simp [c]
    · rw [if_neg c, ih]
      simp [c]
theorem for_of {set : D → Env → Option Env} {body : Env → Option Res} {α σ : Type} (g : α → D) (I : σ → Env → Prop) (step : σ → α → σ) : ∀ (xs : List α) (s : σ) (e : Env), (∀ s e x, x ∈ xs → I s e → ∃ e1 e2, set (g x) e = some e1 ∧ (body e1 = some (.nx e2) ∨ body e1 = some (.ct e2)) ∧ I (step s x) e2) → I s e →
    ∃ e', forD set body (xs.map g) e = some (.nx e') ∧ I (xs.foldl step s) e'
  | [], s, e, _, h => ⟨e, rfl, h⟩
  | x :: xs, s, e, hb, h => by
    obtain ⟨e1, e2, h1, h2, h3⟩ := hb s e x (List.mem_cons_self ..) h
    obtain ⟨e', q1, q2⟩ := for_of g I step xs (step s x) e2 (fun s e y hy => hb s e y (List.mem_cons_of_mem _ hy)) h3
    refine ⟨e', ?_, q2⟩
    show bnd (set (g x) e) _ = _
    rw [h1]
    show bnd (body e1) _ = _
    rcases h2 with h2 | h2
    · rw [h2]
      exact q1
    · rw [h2]
      exact q1
/-- a loop that looks for something -/
theorem for_find {set : D → Env → Option Env} {body : Env → Option Res} {α : Type} (g : α → D) (I : Env → Prop) (c : α → Bool) (r : α → D) : ∀ (xs : List α) (e : Env), (∀ e x, x ∈ xs → I e → ∃ e1 e2, set (g x) e = some e1 ∧ (if c x = true then body e1 = some (.rt e2 (r x)) else body e1 = some (.nx e2) ∧ I e2)) → I e →
    match xs.find? c with
    | some x => ∃ e', forD set body (xs.map g) e = some (.rt e' (r x))
    | none => ∃ e', forD set body (xs.map g) e = some (.nx e') ∧ I e'
  | [], e, _, h => ⟨e, rfl, h⟩
  | x :: xs, e, hb, h => by
    obtain ⟨e1, e2, h1, h2⟩ := hb e x (List.mem_cons_self ..) h
    by_cases hc : c x = true
    · rw [if_pos hc] at h2
      rw [List.find?_cons_of_pos hc]
      refine ⟨e2, ?_⟩
      show bnd (set (g x) e) _ = _
      rw [h1]
      show bnd (body e1) _ = _
      rw [h2]
      rfl
    · rw [if_neg hc] at h2
      rw [List.find?_cons_of_neg hc]
      have ih := for_find g I c r xs e2 (fun e y hy => hb e y (List.mem_cons_of_mem _ hy)) h2.2
      have st : forD set body ((x :: xs).map g) e = forD set body (xs.map g) e2 := by
        show bnd (set (g x) e) _ = _
        rw [h1]
        show bnd (body e1) _ = _
        rw [h2.1]
        rfl
      rw [st]
      exact ih
theorem rng_map : ∀ (lo : Int) (n : Nat), rng lo n = ((List.range n).map fun (i : Nat) => D.int (lo + (i : Int)))
  | lo, 0 => rfl
  | lo, n + 1 => by
    rw [List.range_succ_eq_map, List.map_cons, List.map_map]
    show D.int lo :: rng (lo + 1) n = _
    rw [rng_map (lo + 1) n]
    congr 1
    · congr 1
      simp
    · apply List.map_congr_left
      intro i _
      show D.int (lo + 1 + i) = D.int (lo + ((i + 1 : Nat) : Int))
      congr 1
      omega
end EM
set_option maxHeartbeats 1000000
namespace EM
open PySem PySem.Spec PyProof.Rows L2
/-! the steps as equations -/
theorem runD_at {np nn : Nat} {g : Env → Option Res} {ds : List D} (h : ds.length = np) : runD np nn g ds = outD (g (env0 nn ds)) := by
  unfold runD
  rw [if_pos h]
theorem sRet_at {f : Env → Option D} {env : Env} {d : D} (h : f env = some d) : sRet f env = some (.rt env d) := by
  unfold sRet
  rw [h]
  rfl
theorem cll1 {fa : Env → Option D} {g : List D → Option D} {env : Env} {x : D} (h : fa env = some x) : cll (aCons fa aNil) g env = g [x] := by
  show bnd (bnd (fa env) fun x => some [x]) g = _
  rw [h]
  rfl
theorem cll2 {fa fb : Env → Option D} {g : List D → Option D} {env : Env} {x y : D} (h : fa env = some x) (h2 : fb env = some y) : cll (aCons fa (aCons fb aNil)) g env = g [x, y] := by
  show bnd (bnd (fa env) fun x => bnd (bnd (fb env) fun y => some [y]) fun ys => some (x :: ys)) g = _
  rw [h, h2]
  rfl
theorem cll3 {fa fb fc : Env → Option D} {g : List D → Option D} {env : Env} {x y z : D} (h : fa env = some x) (h2 : fb env = some y) (h3 : fc env = some z) : cll (aCons fa (aCons fb (aCons fc aNil))) g env = g [x, y, z] := by
  show bnd (bnd (fa env) fun x => bnd (bnd (fb env) fun y => bnd (bnd (fc env) fun z => some [z]) fun zs => some (y :: zs)) fun ys => some (x :: ys)) g = _
  rw [h, h2, h3]
  rfl
theorem lstF {n : Env → Option (List D)} {env : Env} {ds : List D} (h : n env = some ds) : (fun env => bnd (n env) fun ds => some (D.lst ds)) env = some (.lst ds) := by
  show bnd (n env) _ = _
  rw [h]
  rfl
theorem nLc_of {α : Type} {vs : List Nat} {fi : Env → Option (List D)} {set : D → Env → Option Env} {tt : Env → Option Bool} {elt : Env → Option D} {env : Env} {xs : List α} (g : α → D) (p : α → Bool) (f : α → D) (hi : fi env = some (xs.map g)) (hl : xs.length ≤ 100000)
    (h : ∀ x ∈ xs, ∃ e1, set (g x) (wipeE env vs) = some e1 ∧ tt e1 = some (p x) ∧ (p x = true → elt e1 = some (f x))) : nLc vs fi set tt elt env = some ((xs.filter p).map f) := by
  unfold nLc
  rw [hi]
  show bnd (lcD set tt elt (wipeE env vs) (xs.map g)) _ = _
  rw [lc_of g p f xs h]
  show (if _ then _ else _) = _
  rw [if_pos]
  rw [List.length_map]
  exact Nat.le_trans (List.length_filter_le _ _) hl
theorem nLc_all {α : Type} {vs : List Nat} {fi : Env → Option (List D)} {set : D → Env → Option Env} {elt : Env → Option D} {env : Env} {xs : List α} (g : α → D) (f : α → D) (hi : fi env = some (xs.map g)) (hl : xs.length ≤ 100000)
    (h : ∀ x ∈ xs, ∃ e1, set (g x) (wipeE env vs) = some e1 ∧ elt e1 = some (f x)) : nLc vs fi set tYesD elt env = some (xs.map f) := by
  rw [nLc_of g (fun _ => true) f hi hl fun x hx => ?_]
  · rw [List.filter_eq_self.mpr fun _ _ => rfl]
  · obtain ⟨e1, h1, h2⟩ := h x hx
    exact ⟨e1, h1, rfl, fun _ => h2⟩
theorem tOfD_of {f : Env → Option D} {env : Env} {b : Bool} (h : f env = some (.bl b)) : tOfD f env = some b := by
  unfold tOfD
  rw [h]
theorem bop_of {g : D → D → Option D} {fa fb : Env → Option D} {env : Env} {x y : D} (h : fa env = some x) (h2 : fb env = some y) : bop g fa fb env = g x y := by
  unfold bop
  rw [h, h2]
  rfl
theorem gAll_of (bs : List Bool) : gAll [.lst (bs.map D.bl)] = some (.bl (bs.all id)) := by
  have e : ∀ bs : List Bool, blsOf (bs.map D.bl) = some bs := by
    intro bs
    induction bs with
    | nil => rfl
    | cons b bs ih =>
      show bnd (blsOf (bs.map D.bl)) _ = _
      rw [ih]
      rfl
  simp [gAll, seqOf, lstOf, e]
theorem gLen_lst (ds : List D) : gLen [.lst ds] = some (.int ds.length) := rfl
theorem gLen_tup (ds : List D) : gLen [.tup ds] = some (.int ds.length) := rfl
theorem aCons1 {fa : Env → Option D} {env : Env} {x : D} (h : fa env = some x) : aCons fa aNil env = some [x] := by
  show bnd (fa env) _ = _
  rw [h]
  rfl
theorem aCons2 {fa fb : Env → Option D} {env : Env} {x y : D} (h : fa env = some x) (h2 : fb env = some y) : aCons fa (aCons fb aNil) env = some [x, y] := by
  show bnd (fa env) (fun x => bnd (bnd (fb env) fun y => some [y]) fun ys => some (x :: ys)) = _
  rw [h, h2]
  rfl
theorem aCons3 {fa fb fc : Env → Option D} {env : Env} {x y z : D} (h : fa env = some x) (h2 : fb env = some y) (h3 : fc env = some z) : aCons fa (aCons fb (aCons fc aNil)) env = some [x, y, z] := by
  show bnd (fa env) (fun x => bnd (bnd (fb env) fun y => bnd (bnd (fc env) fun z => some [z]) fun zs => some (y :: zs)) fun ys => some (x :: ys)) = _
  rw [h, h2, h3]
  rfl
theorem small_of {i : Int} (h1 : -1000000000 < i) (h2 : i < 1000000000) : smallI i = true := by
  unfold smallI
  rw [decide_eq_true h1, decide_eq_true h2]
  rfl
theorem iRg1_of {fa : Env → Option (List D)} {env : Env} {j : Int} (h : fa env = some [.int j]) (h2 : -1000000000 < j) (h3 : j < 1000000000) : iRg1 fa env = some ((List.range j.toNat).map fun (i : Nat) => D.int (i : Int)) := by
  unfold iRg1
  rw [h]
  show (if smallI j = true then _ else _) = _
  rw [small_of h2 h3, if_pos rfl, rng_map]
  congr 2
  funext i
  rw [Int.zero_add]
theorem iRg2_of {fa : Env → Option (List D)} {env : Env} {i j : Int} (h : fa env = some [.int i, .int j]) (h1 : -1000000000 < i) (h2 : i < 1000000000) (h3 : -1000000000 < j) (h4 : j < 1000000000) : iRg2 fa env = some ((List.range (j - i).toNat).map fun (n : Nat) => D.int (i + (n : Int))) := by
  unfold iRg2
  rw [h]
  show (if (smallI i && smallI j) = true then _ else _) = _
  rw [small_of h1 h2, small_of h3 h4, Bool.and_self, if_pos rfl, rng_map]
theorem sFor_of {fi : Env → Option (List D)} {set : D → Env → Option Env} {body : Env → Option Res} {env : Env} {ds : List D} (h : fi env = some ds) : sFor fi set body env = forD set body ds env := by
  unfold sFor
  rw [h]
  rfl
theorem sSeq_of {f g : Env → Option Res} {env e : Env} (h : f env = some (.nx e)) : sSeq f g env = g e := by
  unfold sSeq
  rw [h]
  rfl
theorem sSeq_rt {f g : Env → Option Res} {env e : Env} {d : D} (h : f env = some (.rt e d)) : sSeq f g env = some (.rt e d) := by
  unfold sSeq
  rw [h]
  rfl
theorem sIf_of {t : Env → Option Bool} {f g : Env → Option Res} {env : Env} {c : Bool} (h : t env = some c) : sIf t f g env = if c = true then f env else g env := by
  unfold sIf
  rw [h]
  rfl
theorem sSet_of {i : Nat} {f : Env → Option D} {env : Env} {d : D} (h : f env = some d) : sSet i f env = some (.nx (env.set i (some (.fz d)))) := by
  unfold sSet
  rw [h]
  rfl
theorem sExt_of {i : Nat} {f : Env → Option D} {env : Env} {ds ys : List D} (h : f env = some (.lst ys)) (h2 : ownAt i env = some ds) (h3 : ds.length + ys.length ≤ 100000) : sExt i f env = some (.nx (env.set i (some (.own (ds ++ ys))))) := by
  unfold sExt
  rw [h]
  show bnd (ownAt i env) _ = _
  rw [h2]
  show (if _ then _ else _) = _
  rw [if_pos h3]
theorem sApp_of {i : Nat} {f : Env → Option D} {env : Env} {ds : List D} {d : D} (h : f env = some d) (h2 : ownAt i env = some ds) (h3 : ds.length < 100000) : sApp i f env = some (.nx (env.set i (some (.own (ds ++ [d]))))) := by
  unfold sApp
  rw [h]
  show bnd (ownAt i env) _ = _
  rw [h2]
  show (if _ then _ else _) = _
  rw [if_pos h3]
theorem for_ext {set : D → Env → Option Env} {i : Nat} {f : Env → Option D} {α : Type} (g : α → D) (row : α → List D) (I : Env → Prop) : ∀ (xs : List α) (acc : List D) (e : Env), I e → ownAt i e = some acc → (acc ++ xs.flatMap row).length ≤ 100000 →
    (∀ x ∈ xs, ∀ e acc, I e → ownAt i e = some acc → ∃ e1, set (g x) e = some e1 ∧ f e1 = some (.lst (row x)) ∧ ownAt i e1 = some acc ∧ I (e1.set i (some (.own (acc ++ row x)))) ∧ ownAt i (e1.set i (some (.own (acc ++ row x)))) = some (acc ++ row x)) →
    ∃ e', forD set (sExt i f) (xs.map g) e = some (.nx e') ∧ I e' ∧ ownAt i e' = some (acc ++ xs.flatMap row)
  | [], acc, e, hI, ha, _, _ => ⟨e, rfl, hI, by simpa using ha⟩
  | x :: xs, acc, e, hI, ha, hl, h => by
    obtain ⟨e1, h1, h2, h3, h4, h5⟩ := h x (List.mem_cons_self ..) e acc hI ha
    have hl1 : acc.length + (row x).length ≤ 100000 := by
      rw [List.flatMap_cons, List.length_append, List.length_append] at hl
      omega
    obtain ⟨e', q1, q2, q3⟩ := for_ext g row I xs (acc ++ row x) _ h4 h5 (by rw [List.append_assoc, ← List.flatMap_cons]; exact hl) fun y hy => h y (List.mem_cons_of_mem _ hy)
    refine ⟨e', ?_, q2, by rw [q3, List.append_assoc, List.flatMap_cons]⟩
    show bnd (set (g x) e) _ = _
    rw [h1]
    show bnd (sExt i f e1) _ = _
    rw [sExt_of h2 h3 hl1]
    exact q1
theorem for_app {set : D → Env → Option Env} {i : Nat} {f : Env → Option D} {α : Type} (g : α → D) (row : α → D) (I : Env → Prop) : ∀ (xs : List α) (acc : List D) (e : Env), I e → ownAt i e = some acc → acc.length + xs.length ≤ 100000 →
    (∀ x ∈ xs, ∀ e acc, I e → ownAt i e = some acc → ∃ e1, set (g x) e = some e1 ∧ f e1 = some (row x) ∧ ownAt i e1 = some acc ∧ I (e1.set i (some (.own (acc ++ [row x])))) ∧ ownAt i (e1.set i (some (.own (acc ++ [row x])))) = some (acc ++ [row x])) →
    ∃ e', forD set (sApp i f) (xs.map g) e = some (.nx e') ∧ I e' ∧ ownAt i e' = some (acc ++ xs.map row)
  | [], acc, e, hI, ha, _, _ => ⟨e, rfl, hI, by simpa using ha⟩
  | x :: xs, acc, e, hI, ha, hl, h => by
    obtain ⟨e1, h1, h2, h3, h4, h5⟩ := h x (List.mem_cons_self ..) e acc hI ha
    rw [List.length_cons] at hl
    obtain ⟨e', q1, q2, q3⟩ := for_app g row I xs (acc ++ [row x]) _ h4 h5 (by rw [List.length_append]; simp; omega) fun y hy => h y (List.mem_cons_of_mem _ hy)
    refine ⟨e', ?_, q2, by rw [q3, List.append_assoc]; rfl⟩
    show bnd (set (g x) e) _ = _
    rw [h1]
    show bnd (sApp i f e1) _ = _
    rw [sApp_of h2 h3 (by omega)]
    exact q1
/-! pairs, counts -/
def pD (q : Int × Int) : D := .tup [.int q.1, .int q.2]
def cnt2 (bs : List (List Int)) (a b : Int) : Nat := (bs.filter fun m => memI a m && memI b m).length
theorem gIn_tI (a : Int) (m : List Int) : gInN false (.int a) (tI m) = some (.bl (memI a m)) := by
  simp [gInN, seqOf, lstOf, tupOf, tI, intsOf_map]
theorem gNotIn_tI (a : Int) (m : List Int) : gInN true (.int a) (tI m) = some (.bl (!memI a m)) := by
  simp [gInN, seqOf, lstOf, tupOf, tI, intsOf_map]
theorem count_of_eq {x : D} {bs : List (List Int)} (a b : Int) (h : bs.length ≤ 100000) : d_count_of [.tup [x, .tup (bs.map tI)], pD (a, b)] = some (.int (cnt2 bs a b : Nat)) := by
  unfold d_count_of
  refine (runD_at rfl).trans ?_
  unfold g_count_of
  have lc : nLc [2] (iAny (bop gIx (dVar 0) (dC (.int 1)))) (setN 2) (tOfD (cll (aCons (fun env => bnd ((nLc [3] (iAny (dVar 1)) (setN 3) tYesD (bop (gInN false) (dVar 3) (dVar 2))) env) fun ds => some (.lst ds)) aNil) gAll)) (dVar 2) (env0 4 [.tup [x, .tup (bs.map tI)], pD (a, b)]) = some ((bs.filter fun m => memI a m && memI b m).map tI) := by
    refine nLc_of tI _ tI rfl h fun m _ => ⟨[some (.fz (.tup [x, .tup (bs.map tI)])), some (.fz (pD (a, b))), some (.fz (tI m)), none], rfl, ?_, fun _ => rfl⟩
    refine tOfD_of ?_
    rw [cll1 (lstF (nLc_all (xs := [a, b]) D.int (fun c => .bl (memI c m)) rfl (by simp) fun c _ => ⟨_, rfl, (bop_of rfl rfl).trans (gIn_tI c m)⟩))]
    rw [show [a, b].map (fun c => D.bl (memI c m)) = [memI a m, memI b m].map D.bl from rfl, gAll_of]
    simp
  rw [sRet_at ((cll1 (lstF lc)).trans (gLen_lst _))]
  simp [outD, cnt2]
/-! all pairs -/
def pairsN (v : Nat) : List (Int × Int) := (List.range v).flatMap fun (a : Nat) => (List.range (v - (a + 1))).map fun (i : Nat) => ((a : Int), ((a : Int) + 1 + (i : Int)))
theorem mem_pairsN {v : Nat} {q : Int × Int} : q ∈ pairsN v ↔ 0 ≤ q.1 ∧ q.1 < q.2 ∧ q.2 < v := by
  unfold pairsN
  rw [List.mem_flatMap]
  constructor
  · rintro ⟨a, ha, h⟩
    obtain ⟨i, hi, rfl⟩ := List.mem_map.mp h
    have := List.mem_range.mp ha
    have := List.mem_range.mp hi
    refine ⟨by simp, by simp; omega, by simp; omega⟩
  · rintro ⟨h1, h2, h3⟩
    refine ⟨q.1.toNat, List.mem_range.mpr (by omega), List.mem_map.mpr ⟨(q.2 - q.1 - 1).toNat, List.mem_range.mpr (by omega), ?_⟩⟩
    obtain ⟨a, b⟩ := q
    simp only at h1 h2 h3 ⊢
    congr 1 <;> omega
theorem len_flat_le {α β : Type} {n : Nat} (f : α → List β) : ∀ xs : List α, (∀ x ∈ xs, (f x).length ≤ n) → (xs.flatMap f).length ≤ xs.length * n
  | [], _ => by simp
  | x :: xs, h => by
    have ih := len_flat_le f xs fun y hy => h y (List.mem_cons_of_mem _ hy)
    have := h x (List.mem_cons_self ..)
    rw [List.flatMap_cons, List.length_append, List.length_cons, Nat.add_mul]
    omega
theorem len_pairsN (v : Nat) : (pairsN v).length ≤ v * v := by
  have := len_flat_le (n := v) (fun (a : Nat) => (List.range (v - (a + 1))).map fun (i : Nat) => ((a : Int), ((a : Int) + 1 + (i : Int)))) (List.range v) fun x _ => by
    rw [List.length_map, List.length_range]
    omega
  rw [List.length_range] at this
  exact this
theorem foldl_flat {α β : Type} (f : α → List β) : ∀ (xs : List α) (acc : List β), xs.foldl (fun acc x => acc ++ f x) acc = acc ++ xs.flatMap f
  | [], acc => by simp
  | x :: xs, acc => by
    rw [List.foldl_cons, foldl_flat f xs, List.flatMap_cons, List.append_assoc]
theorem pairs_of_eq (v : Nat) (hv : v ≤ 300) : d_pairs_of [.int v] = some (.lst ((pairsN v).map pD)) := by
  unfold d_pairs_of
  refine (runD_at rfl).trans ?_
  let row : Nat → List (Int × Int) := fun a => (List.range (v - (a + 1))).map fun (i : Nat) => ((a : Int), ((a : Int) + 1 + (i : Int)))
  have lc : ∀ (a : Nat) (ps : List (Int × Int)) (j : Option EV), a < v → nLc [3] (iRg2 (aCons (bop gAdd (dVar 2) (dC (.int 1))) (aCons (dVar 0) aNil))) (setN 3) tYesD (dTup (aCons (dVar 2) (aCons (dVar 3) aNil))) [some (.fz (.int v)), some (.own (ps.map pD)), some (.fz (.int a)), j] = some ((row a).map pD) := by
    intro a ps j ha
    have hi : iRg2 (aCons (bop gAdd (dVar 2) (dC (.int 1))) (aCons (dVar 0) aNil)) [some (.fz (.int v)), some (.own (ps.map pD)), some (.fz (.int a)), j] = some ((List.range (v - (a + 1))).map fun (i : Nat) => D.int ((a : Int) + 1 + (i : Int))) := by
      have z := iRg2_of (fa := aCons (bop gAdd (dVar 2) (dC (.int 1))) (aCons (dVar 0) aNil)) (env := [some (.fz (.int v)), some (.own (ps.map pD)), some (.fz (.int a)), j]) (i := (a : Int) + 1) (j := (v : Int)) rfl (by omega) (by omega) (by omega) (by omega)
      have e : ((v : Int) - ((a : Int) + 1)).toNat = v - (a + 1) := by omega
      rw [e] at z
      exact z
    rw [nLc_all (fun (i : Nat) => D.int ((a : Int) + 1 + (i : Int))) (fun (i : Nat) => pD ((a : Int), ((a : Int) + 1 + (i : Int)))) hi (by rw [List.length_range]; omega) fun i _ => ⟨_, rfl, rfl⟩]
    simp [row, List.map_map, Function.comp_def]
  have tot : (pairsN v).length ≤ 100000 := Nat.le_trans (len_pairsN v) (Nat.le_trans (Nat.mul_le_mul hv hv) (by decide))
  obtain ⟨e', h1, ⟨acc, j, j', rfl⟩, h3⟩ := for_ext (set := setN 2) (i := 1) (f := fun env => bnd ((nLc [3] (iRg2 (aCons (bop gAdd (dVar 2) (dC (.int 1))) (aCons (dVar 0) aNil))) (setN 3) tYesD (dTup (aCons (dVar 2) (aCons (dVar 3) aNil)))) env) fun ds => some (.lst ds))
    (fun (i : Nat) => D.int (i : Int)) (fun a => (row a).map pD) (fun e => ∃ (acc : List (Int × Int)) (j j' : Option EV), e = [some (.fz (.int v)), some (.own (acc.map pD)), j, j']) (List.range v) [] [some (.fz (.int v)), some (.own []), none, none] ⟨[], none, none, rfl⟩ rfl
    (by
      rw [List.nil_append, ← List.map_flatMap, List.length_map]
      exact tot)
    (fun a ha e acc0 hI h0 => by
      obtain ⟨acc, j, j', rfl⟩ := hI
      cases h0
      refine ⟨[some (.fz (.int v)), some (.own (acc.map pD)), some (.fz (.int a)), j'], rfl, lstF (lc a acc j' (List.mem_range.mp ha)), rfl, ⟨acc ++ row a, some (.fz (.int a)), j', ?_⟩, rfl⟩
      rw [List.map_append]
      rfl)
  have hacc : acc.map pD = (pairsN v).map pD := by
    have z : acc.map pD = [] ++ (List.range v).flatMap (fun a => (row a).map pD) := Option.some.inj h3
    rw [z, List.nil_append, ← List.map_flatMap]
    rfl
  have hf : sFor (iRg1 (aCons (dVar 0) aNil)) (setN 2) (sExt 1 fun env => bnd ((nLc [3] (iRg2 (aCons (bop gAdd (dVar 2) (dC (.int 1))) (aCons (dVar 0) aNil))) (setN 3) tYesD (dTup (aCons (dVar 2) (aCons (dVar 3) aNil)))) env) fun ds => some (.lst ds)) [some (.fz (.int v)), some (.own []), none, none] = some (.nx [some (.fz (.int v)), some (.own (acc.map pD)), j, j']) := by
    rw [sFor_of (iRg1_of (j := (v : Int)) rfl (by omega) (by omega)), Int.toNat_natCast]
    exact h1
  unfold g_pairs_of
  rw [sSeq_of (e := [some (.fz (.int v)), some (.own []), none, none]) rfl, sSeq_of hf, hacc]
  rfl
end EM
set_option maxHeartbeats 1000000
namespace EM
open PySem PySem.Spec PyProof.Rows L2
def WD (v k l : Int) (bs : List (List Int)) : D := .tup [.int v, .int k, .int l, .tup (bs.map tI)]
def overQ (l : Int) (bs : List (List Int)) (q : Int × Int) : Bool := decide (l < (cnt2 bs q.1 q.2 : Nat))
theorem tNotD_of {t : Env → Option Bool} {env : Env} {b : Bool} (h : t env = some b) : tNotD t env = some (!b) := by
  unfold tNotD
  rw [h]
  rfl
theorem tAndD_of {t u : Env → Option Bool} {env : Env} {b c : Bool} (h : t env = some b) (h2 : b = true → u env = some c) : tAndD t u env = some (b && c) := by
  unfold tAndD
  rw [h]
  cases b with
  | true => exact h2 rfl
  | false => rfl
theorem tOrD_of {t u : Env → Option Bool} {env : Env} {b c : Bool} (h : t env = some b) (h2 : b = false → u env = some c) : tOrD t u env = some (b || c) := by
  unfold tOrD
  rw [h]
  cases b with
  | false => exact h2 rfl
  | true => rfl
theorem over_paper_eq (v : Nat) (k l : Int) (bs : List (List Int)) (hv : v ≤ 300) (hb : bs.length ≤ 100000) : d_over_paper [WD v k l bs] = some (match (pairsN v).find? (overQ l bs) with
    | some q => .tup [.str "over", .int q.1, .int q.2]
    | none => .non) := by
  unfold d_over_paper
  refine (runD_at rfl).trans ?_
  unfold g_over_paper
  have ff := for_find (set := setT [5, 6]) (body := sIf (tOfD (bop gGt (cll (aCons (dTup (aCons (dVar 1) (aCons (dVar 4) aNil))) (aCons (dTup (aCons (dVar 5) (aCons (dVar 6) aNil))) aNil)) d_count_of) (dVar 3))) (sRet (dTup (aCons (dC (.str "over")) (aCons (dVar 5) (aCons (dVar 6) aNil))))) sNil)
    pD (fun e => ∃ j j' : Option EV, e = [some (.fz (WD v k l bs)), some (.fz (.int v)), some (.fz (.int k)), some (.fz (.int l)), some (.fz (.tup (bs.map tI))), j, j']) (overQ l bs) (fun q => .tup [.str "over", .int q.1, .int q.2]) (pairsN v) [some (.fz (WD v k l bs)), some (.fz (.int v)), some (.fz (.int k)), some (.fz (.int l)), some (.fz (.tup (bs.map tI))), none, none]
    (fun e q hq hI => by
      obtain ⟨j, j', rfl⟩ := hI
      refine ⟨[some (.fz (WD v k l bs)), some (.fz (.int v)), some (.fz (.int k)), some (.fz (.int l)), some (.fz (.tup (bs.map tI))), some (.fz (.int q.1)), some (.fz (.int q.2))], [some (.fz (WD v k l bs)), some (.fz (.int v)), some (.fz (.int k)), some (.fz (.int l)), some (.fz (.tup (bs.map tI))), some (.fz (.int q.1)), some (.fz (.int q.2))], rfl, ?_⟩
      have ht : tOfD (bop gGt (cll (aCons (dTup (aCons (dVar 1) (aCons (dVar 4) aNil))) (aCons (dTup (aCons (dVar 5) (aCons (dVar 6) aNil))) aNil)) d_count_of) (dVar 3)) [some (.fz (WD v k l bs)), some (.fz (.int v)), some (.fz (.int k)), some (.fz (.int l)), some (.fz (.tup (bs.map tI))), some (.fz (.int q.1)), some (.fz (.int q.2))] = some (overQ l bs q) := by
        refine tOfD_of ((bop_of ((cll2 rfl rfl).trans (count_of_eq q.1 q.2 hb)) rfl).trans ?_)
        rfl
      rw [sIf_of ht]
      by_cases c : overQ l bs q = true
      · rw [if_pos c, if_pos c]
        rfl
      · rw [if_neg c, if_neg c]
        exact ⟨rfl, _, _, rfl⟩) ⟨none, none, rfl⟩
  rw [sSeq_of (e := [some (.fz (WD v k l bs)), some (.fz (.int v)), some (.fz (.int k)), some (.fz (.int l)), some (.fz (.tup (bs.map tI))), none, none]) rfl]
  have hi : iAny (cll (aCons (dVar 1) aNil) d_pairs_of) [some (.fz (WD v k l bs)), some (.fz (.int v)), some (.fz (.int k)), some (.fz (.int l)), some (.fz (.tup (bs.map tI))), none, none] = some ((pairsN v).map pD) := by
    unfold iAny
    rw [(cll1 rfl).trans (pairs_of_eq v hv)]
    rfl
  cases e : (pairsN v).find? (overQ l bs) with
  | some q =>
    rw [e] at ff
    obtain ⟨e', h1⟩ := ff
    rw [sSeq_rt ((sFor_of hi).trans h1)]
    rfl
  | none =>
    rw [e] at ff
    obtain ⟨e', h1, j, j', rfl⟩ := ff
    rw [sSeq_of ((sFor_of hi).trans h1)]
    rfl
theorem over_taken_eq (v k l a b : Int) (bs : List (List Int)) (hb : bs.length ≤ 100000) (h0 : 0 ≤ a) (h1 : a < b) (h2 : b < v) : d_over_taken [WD v k l bs, .int a, .int b] = some (.bl (overQ l bs (a, b))) := by
  unfold d_over_taken
  refine (runD_at rfl).trans ?_
  unfold g_over_taken
  rw [sSeq_of (e := [some (.fz (WD v k l bs)), some (.fz (.int a)), some (.fz (.int b)), some (.fz (.int v)), some (.fz (.int k)), some (.fz (.int l)), some (.fz (.tup (bs.map tI))), none]) rfl]
  have ht : tNotD (tOfD (dChain3 gLe gLt gLt (dC (.int 0)) (dVar 1) (dVar 2) (dVar 3))) [some (.fz (WD v k l bs)), some (.fz (.int a)), some (.fz (.int b)), some (.fz (.int v)), some (.fz (.int k)), some (.fz (.int l)), some (.fz (.tup (bs.map tI))), none] = some false := by
    refine tNotD_of (b := true) (tOfD_of ?_)
    show (match some (D.bl (decide (0 ≤ a))) with
      | some (.bl true) => bnd (some (D.int b)) fun z => (match some (D.bl (decide (a < b))) with
        | some (.bl true) => bnd (some (D.int v)) fun w => gLt (.int b) w
        | some (.bl false) => some (.bl false)
        | _ => none)
      | some (.bl false) => some (.bl false)
      | _ => none) = _
    rw [decide_eq_true h0, decide_eq_true h1]
    show gLt (.int b) (.int v) = _
    show some (D.bl (decide (b < v))) = _
    rw [decide_eq_true h2]
  rw [sSeq_of (e := [some (.fz (WD v k l bs)), some (.fz (.int a)), some (.fz (.int b)), some (.fz (.int v)), some (.fz (.int k)), some (.fz (.int l)), some (.fz (.tup (bs.map tI))), none]) ((sIf_of ht).trans rfl)]
  have lc : nLc [7] (iAny (dVar 6)) (setN 7) (tAndD (tOfD (bop (gInN false) (dVar 1) (dVar 7))) (tOfD (bop (gInN false) (dVar 2) (dVar 7)))) (dVar 7) [some (.fz (WD v k l bs)), some (.fz (.int a)), some (.fz (.int b)), some (.fz (.int v)), some (.fz (.int k)), some (.fz (.int l)), some (.fz (.tup (bs.map tI))), none] = some ((bs.filter fun m => memI a m && memI b m).map tI) := by
    refine nLc_of tI _ tI rfl hb fun m _ => ⟨_, rfl, ?_, fun _ => rfl⟩
    exact tAndD_of (tOfD_of ((bop_of rfl rfl).trans (gIn_tI a m))) fun _ => tOfD_of ((bop_of rfl rfl).trans (gIn_tI b m))
  have hr : bop gGt (cll (aCons (fun env => bnd ((nLc [7] (iAny (dVar 6)) (setN 7) (tAndD (tOfD (bop (gInN false) (dVar 1) (dVar 7))) (tOfD (bop (gInN false) (dVar 2) (dVar 7)))) (dVar 7)) env) fun ds => some (.lst ds)) aNil) gLen) (dVar 5) [some (.fz (WD v k l bs)), some (.fz (.int a)), some (.fz (.int b)), some (.fz (.int v)), some (.fz (.int k)), some (.fz (.int l)), some (.fz (.tup (bs.map tI))), none] = some (.bl (overQ l bs (a, b))) := by
    refine (bop_of ((cll1 (lstF lc)).trans (gLen_lst _)) rfl).trans ?_
    rw [List.length_map]
    rfl
  rw [sRet_at hr]
  rfl
end EM
set_option maxHeartbeats 1000000
namespace EM
open PySem PySem.Spec PyProof.Rows L2
/-! the finite checks -/
def formB (v k : Nat) : Bool :=
  let l : Int := (k * (k - 1) / (v - 1) : Nat)
  let s : Int := if (v - 1) / 2 % 2 = 0 then l else 0 - l
  match d_form_told [.int (k - l), .int s] with
  | some (.tup [.str w, .int p]) => w == "rest" && decide (3 ≤ p) && (match d_shuts [.int (k - l), .int s, .int p] with
    | some (.bl true) => true
    | _ => false)
  | some (.tup (.str w :: _)) => PyData.strOk w && !(w == "rest")
  | _ => false
def formC (lo n : Nat) : Bool := (List.range n).all fun i => if (lo + i) % 2 = 1 then (List.range (lo + i)).all fun k => if decide (2 ≤ k) && decide (k * (k - 1) % (lo + i - 1) = 0) then formB (lo + i) k else true else true
def rootB (n : Nat) : Bool := match d_root_of [.int n] with
  | some (.int t) => decide (0 ≤ t) && decide (t < 1000)
  | _ => false
theorem form_0 : formC 0 10 = true := by decide +kernel
theorem form_1 : formC 10 10 = true := by decide +kernel
theorem form_2 : formC 20 10 = true := by decide +kernel
theorem form_3 : formC 30 10 = true := by decide +kernel
theorem form_4 : formC 40 10 = true := by decide +kernel
theorem form_5 : formC 50 10 = true := by decide +kernel
theorem form_6 : formC 60 10 = true := by decide +kernel
theorem form_7 : formC 70 10 = true := by decide +kernel
theorem form_8 : formC 80 10 = true := by decide +kernel
theorem form_9 : formC 90 10 = true := by decide +kernel
theorem form_10 : formC 100 10 = true := by decide +kernel
theorem form_11 : formC 110 10 = true := by decide +kernel
theorem form_12 : formC 120 10 = true := by decide +kernel
theorem form_13 : formC 130 10 = true := by decide +kernel
theorem form_14 : formC 140 10 = true := by decide +kernel
theorem form_15 : formC 150 10 = true := by decide +kernel
theorem form_16 : formC 160 10 = true := by decide +kernel
theorem form_17 : formC 170 10 = true := by decide +kernel
theorem form_18 : formC 180 10 = true := by decide +kernel
theorem form_19 : formC 190 10 = true := by decide +kernel
theorem form_20 : formC 200 10 = true := by decide +kernel
theorem root_all : ((List.range 201).all rootB) = true := by decide +kernel
theorem formC_get {lo n v k : Nat} (h : formC lo n = true) (h1 : lo ≤ v) (h2 : v < lo + n) (h3 : v % 2 = 1) (h4 : 2 ≤ k) (h5 : k < v) (h6 : k * (k - 1) % (v - 1) = 0) : formB v k = true := by
  have a := List.all_eq_true.mp h (v - lo) (List.mem_range.mpr (by omega))
  have e : lo + (v - lo) = v := by omega
  rw [e, if_pos h3] at a
  have b := List.all_eq_true.mp a k (List.mem_range.mpr h5)
  rw [decide_eq_true h4, decide_eq_true h6] at b
  exact b
theorem form_ok {v k : Nat} (h2 : v ≤ 200) (h3 : v % 2 = 1) (h4 : 2 ≤ k) (h5 : k < v) (h6 : k * (k - 1) % (v - 1) = 0) : formB v k = true := by
  by_cases c0 : v < 10
  · exact formC_get form_0 (by omega) (by omega) h3 h4 h5 h6
  by_cases c1 : v < 20
  · exact formC_get form_1 (by omega) (by omega) h3 h4 h5 h6
  by_cases c2 : v < 30
  · exact formC_get form_2 (by omega) (by omega) h3 h4 h5 h6
  by_cases c3 : v < 40
  · exact formC_get form_3 (by omega) (by omega) h3 h4 h5 h6
  by_cases c4 : v < 50
  · exact formC_get form_4 (by omega) (by omega) h3 h4 h5 h6
  by_cases c5 : v < 60
  · exact formC_get form_5 (by omega) (by omega) h3 h4 h5 h6
  by_cases c6 : v < 70
  · exact formC_get form_6 (by omega) (by omega) h3 h4 h5 h6
  by_cases c7 : v < 80
  · exact formC_get form_7 (by omega) (by omega) h3 h4 h5 h6
  by_cases c8 : v < 90
  · exact formC_get form_8 (by omega) (by omega) h3 h4 h5 h6
  by_cases c9 : v < 100
  · exact formC_get form_9 (by omega) (by omega) h3 h4 h5 h6
  by_cases c10 : v < 110
  · exact formC_get form_10 (by omega) (by omega) h3 h4 h5 h6
  by_cases c11 : v < 120
  · exact formC_get form_11 (by omega) (by omega) h3 h4 h5 h6
  by_cases c12 : v < 130
  · exact formC_get form_12 (by omega) (by omega) h3 h4 h5 h6
  by_cases c13 : v < 140
  · exact formC_get form_13 (by omega) (by omega) h3 h4 h5 h6
  by_cases c14 : v < 150
  · exact formC_get form_14 (by omega) (by omega) h3 h4 h5 h6
  by_cases c15 : v < 160
  · exact formC_get form_15 (by omega) (by omega) h3 h4 h5 h6
  by_cases c16 : v < 170
  · exact formC_get form_16 (by omega) (by omega) h3 h4 h5 h6
  by_cases c17 : v < 180
  · exact formC_get form_17 (by omega) (by omega) h3 h4 h5 h6
  by_cases c18 : v < 190
  · exact formC_get form_18 (by omega) (by omega) h3 h4 h5 h6
  by_cases c19 : v < 200
  · exact formC_get form_19 (by omega) (by omega) h3 h4 h5 h6
  by_cases c20 : v < 210
  · exact formC_get form_20 (by omega) (by omega) h3 h4 h5 h6
  omega
end EM
set_option maxHeartbeats 1000000
namespace EM
open PySem PySem.Spec PyProof.Rows L2
/-! the numbers of a wish -/
structure WOk (v k l : Nat) : Prop where
  v2 : 2 ≤ v
  v200 : v ≤ 200
  k2 : 2 ≤ k
  kv : k ≤ v
  l1 : 1 ≤ l
  l200 : l ≤ 200
def shN (v k l : Nat) : Option (Nat × Nat) := if l * (v - 1) % (k - 1) = 0 then (if v * (l * (v - 1) / (k - 1)) % k = 0 then some (l * (v - 1) / (k - 1), v * (l * (v - 1) / (k - 1)) / k) else none) else none
def shD : Option (Nat × Nat) → D
  | none => .non
  | some q => .tup [.int (q.1 : Nat), .int (q.2 : Nat)]
theorem gMul_of {i j : Int} (h : j.natAbs < 1000000) : gMul (.int i) (.int j) = some (.int (i * j)) := by
  unfold gMul orD iop
  have : cMul i j = true := by
    unfold cMul
    rw [Bool.or_eq_true]
    exact .inr (decide_eq_true (Nat.lt_trans h (by decide)))
  simp only [this, if_true]
theorem gMod_of {i j : Int} (h : j ≠ 0) : gMod (.int i) (.int j) = some (.int (i.fmod j)) := by
  unfold gMod iop
  have : cMod i j = true := decide_eq_true h
  simp only [this, if_true]
theorem gDiv_of {i j : Int} (h : j ≠ 0) (h2 : j.natAbs < 1000000) : gDiv (.int i) (.int j) = some (.int (i.fdiv j)) := by
  unfold gDiv iop
  have : cDiv i j = true := by
    unfold cDiv
    rw [decide_eq_true h, decide_eq_true (Nat.lt_trans h2 (by decide))]
    rfl
  simp only [this, if_true]
theorem fmod_nat (a b : Nat) : (a : Int).fmod (b : Int) = ((a % b : Nat) : Int) := by
  cases b with
  | zero => simp
  | succ b => exact (Int.fmod_eq_emod_of_nonneg _ (by omega)).trans (by omega)
theorem fdiv_nat (a b : Nat) : (a : Int).fdiv (b : Int) = ((a / b : Nat) : Int) := by
  rw [Int.fdiv_eq_ediv_of_nonneg _ (by omega)]
  omega
theorem gNe_int (i j : Int) : gNe (.int i) (.int j) = some (.bl (!(i == j))) := rfl
theorem gEq_int (i j : Int) : gEq (.int i) (.int j) = some (.bl (i == j)) := rfl
theorem shares_eq (v k l : Nat) (w : WOk v k l) (st : D) : d_shares [.tup [.int v, .int k, .int l, st]] = some (shD (shN v k l)) := by
  obtain ⟨h1, h2, h3, h4, h5, h6⟩ := w
  unfold d_shares
  refine (runD_at rfl).trans ?_
  unfold g_shares
  let W : D := .tup [.int v, .int k, .int l, st]
  let e0 : Env := [some (.fz W), none, some (.fz (.int v)), some (.fz (.int k)), some (.fz (.int l)), some (.fz st)]
  rw [sSeq_of (e := e0) rfl]
  have ea : bop gMul (dVar 4) (bop gSub (dVar 2) (dC (.int 1))) e0 = some (.int ((l * (v - 1) : Nat) : Int)) := by
    refine (bop_of (x := .int l) (y := .int ((v : Int) - 1)) rfl rfl).trans ?_
    rw [gMul_of (by omega)]
    congr 2
    rw [Int.natCast_mul]
    congr 1
    omega
  have eb : bop gSub (dVar 3) (dC (.int 1)) e0 = some (.int ((k - 1 : Nat) : Int)) := by
    show some (D.int ((k : Int) - 1)) = _
    congr 2
    omega
  have em : bop gMod (bop gMul (dVar 4) (bop gSub (dVar 2) (dC (.int 1)))) (bop gSub (dVar 3) (dC (.int 1))) e0 = some (.int ((l * (v - 1) % (k - 1) : Nat) : Int)) := by
    refine (bop_of ea eb).trans ?_
    rw [gMod_of (by omega), fmod_nat]
  have et : tOfD (bop gNe (bop gMod (bop gMul (dVar 4) (bop gSub (dVar 2) (dC (.int 1)))) (bop gSub (dVar 3) (dC (.int 1)))) (dC (.int 0))) e0 = some (!(((l * (v - 1) % (k - 1) : Nat) : Int) == 0)) := tOfD_of ((bop_of em rfl).trans (gNe_int _ _))
  by_cases c : l * (v - 1) % (k - 1) = 0
  · have c' : (!(((l * (v - 1) % (k - 1) : Nat) : Int) == 0)) = false := by rw [c]; rfl
    rw [c'] at et
    rw [sSeq_of (e := e0) ((sIf_of et).trans rfl)]
    let r := l * (v - 1) / (k - 1)
    have ed : bop gDiv (bop gMul (dVar 4) (bop gSub (dVar 2) (dC (.int 1)))) (bop gSub (dVar 3) (dC (.int 1))) e0 = some (.int (r : Nat)) := by
      refine (bop_of ea eb).trans ?_
      rw [gDiv_of (by omega) (by omega), fdiv_nat]
    let e1 : Env := [some (.fz W), some (.fz (.int r)), some (.fz (.int v)), some (.fz (.int k)), some (.fz (.int l)), some (.fz st)]
    rw [sSeq_of (e := e1) (sSet_of ed)]
    have hr : r < 1000000 := by
      have : r ≤ l * (v - 1) := Nat.div_le_self _ _
      have : l * (v - 1) ≤ 200 * 200 := Nat.mul_le_mul h6 (by omega)
      omega
    have ev : bop gMul (dVar 2) (dVar 1) e1 = some (.int ((v * r : Nat) : Int)) := by
      refine (bop_of (x := .int v) (y := .int r) rfl rfl).trans ?_
      rw [gMul_of (by rw [Int.natAbs_natCast]; exact hr), Int.natCast_mul]
    have et2 : tOfD (bop gNe (bop gMod (bop gMul (dVar 2) (dVar 1)) (dVar 3)) (dC (.int 0))) e1 = some (!(((v * r % k : Nat) : Int) == 0)) := by
      refine tOfD_of ((bop_of ((bop_of (y := .int k) ev rfl).trans ?_) rfl).trans (gNe_int _ _))
      rw [gMod_of (by omega), fmod_nat]
    by_cases c2 : v * r % k = 0
    · have c2' : (!(((v * r % k : Nat) : Int) == 0)) = false := by rw [c2]; rfl
      rw [c2'] at et2
      rw [sSeq_of (e := e1) ((sIf_of et2).trans rfl)]
      have ef : dTup (aCons (dVar 1) (aCons (bop gDiv (bop gMul (dVar 2) (dVar 1)) (dVar 3)) aNil)) e1 = some (.tup [.int r, .int ((v * r / k : Nat) : Int)]) := by
        unfold dTup
        rw [aCons2 (x := .int r) (y := .int ((v * r / k : Nat) : Int)) rfl (by
          refine (bop_of (y := .int k) ev rfl).trans ?_
          rw [gDiv_of (by omega) (by omega), fdiv_nat])]
        rfl
      rw [sRet_at ef]
      show some _ = _
      unfold shN
      rw [if_pos c, if_pos c2]
      rfl
    · have c2' : (!(((v * r % k : Nat) : Int) == 0)) = true := by
        rw [Bool.not_eq_true', beq_eq_false_iff_ne]
        omega
      rw [c2'] at et2
      rw [sSeq_rt (e := e1) (d := .non) ((sIf_of et2).trans rfl)]
      unfold shN
      rw [if_pos c, if_neg c2]
      rfl
  · have c' : (!(((l * (v - 1) % (k - 1) : Nat) : Int) == 0)) = true := by
      rw [Bool.not_eq_true', beq_eq_false_iff_ne]
      omega
    rw [c'] at et
    rw [sSeq_rt (e := e0) (d := .non) ((sIf_of et).trans rfl)]
    unfold shN
    rw [if_neg c]
    rfl
theorem counted_eq (v k l : Nat) (w : WOk v k l) (st : D) : d_counted [.tup [.int v, .int k, .int l, st]] = some (shD (shN v k l)) := shares_eq v k l w st
end EM
set_option maxHeartbeats 1000000
namespace EM
open PySem PySem.Spec PyProof.Rows L2
/-! papers of one word -/
theorem sIf_t {t : Env → Option Bool} {f g : Env → Option Res} {env : Env} {r : Option Res} (h : t env = some true) (h2 : f env = r) : sIf t f g env = r := by
  rw [sIf_of h, if_pos rfl, h2]
theorem sIf_f {t : Env → Option Bool} {f g : Env → Option Res} {env : Env} {r : Option Res} (h : t env = some false) (h2 : g env = r) : sIf t f g env = r := by
  rw [sIf_of h, if_neg Bool.false_ne_true, h2]
theorem sIf_skip {t : Env → Option Bool} {f : Env → Option Res} {env : Env} (h : t env = some false) : sIf t f sNil env = some (.nx env) := sIf_f h rfl
theorem gEq_str {s t : Str} (hs : PyData.strOk s = true) (ht : PyData.strOk t = true) : gEq (.str s) (.str t) = some (.bl (s == t)) := by
  rw [gEq_eq, eqD_str hs ht]
  rfl
theorem w_share : PyData.strOk "share" = true := by decide +kernel
theorem w_fewer : PyData.strOk "fewer" = true := by decide +kernel
theorem w_root : PyData.strOk "root" = true := by decide +kernel
theorem w_form : PyData.strOk "form" = true := by decide +kernel
theorem w_over : PyData.strOk "over" = true := by decide +kernel
theorem w_tree : PyData.strOk "tree" = true := by decide +kernel
theorem w_rest : PyData.strOk "rest" = true := by decide +kernel
theorem w_open : PyData.strOk "open" = true := by decide +kernel
theorem w_none : PyData.strOk "none" = true := by decide +kernel
theorem w_design : PyData.strOk "design" = true := by decide +kernel
theorem w_bases : PyData.strOk "bases" = true := by decide +kernel
/-- a comparison of words -/
theorem tW_of {fa fb : Env → Option D} {env : Env} {s t : Str} {b : Bool} (h : fa env = some (.str s)) (h2 : fb env = some (.str t)) (hs : PyData.strOk s = true) (ht : PyData.strOk t = true) (hb : (s == t) = b) : bop gEq fa fb env = some (.bl b) := by
  rw [bop_of h h2, gEq_str hs ht, hb]
theorem dAndV_true {f g : Env → Option D} {env : Env} {d : D} (h : f env = some (.bl true)) (h2 : g env = some d) : dAndV f g env = some d := by
  unfold dAndV
  rw [h]
  exact h2
theorem word_share {W x : D} (h : d_share_taken [W] = some x) : d_word_taken [W, .str "share"] = some x := by
  unfold d_word_taken
  refine (runD_at rfl).trans ?_
  unfold g_word_taken
  show outD (sSeq _ _ [some (.fz W), some (.fz (.str "share"))]) = _
  rw [sSeq_rt (e := [some (.fz W), some (.fz (.str "share"))]) (d := x) (sIf_t (tOfD_of (tW_of (s := "share") (t := "share") rfl rfl w_share w_share (by decide +kernel))) (sRet_at ((cll1 rfl).trans h)))]
  rfl
theorem word_fewer {W x : D} (h : d_fewer_taken [W] = some x) : d_word_taken [W, .str "fewer"] = some x := by
  unfold d_word_taken
  refine (runD_at rfl).trans ?_
  unfold g_word_taken
  show outD (sSeq _ _ [some (.fz W), some (.fz (.str "fewer"))]) = _
  rw [sSeq_of (e := [some (.fz W), some (.fz (.str "fewer"))]) (sIf_skip (tOfD_of (tW_of (s := "fewer") (t := "share") rfl rfl w_fewer w_share (by decide +kernel))))]
  rw [sSeq_rt (e := [some (.fz W), some (.fz (.str "fewer"))]) (d := x) (sIf_t (tOfD_of (tW_of (s := "fewer") (t := "fewer") rfl rfl w_fewer w_fewer (by decide +kernel))) (sRet_at ((cll1 rfl).trans h)))]
  rfl
theorem word_root {W x : D} (h : d_root_taken [W] = some x) : d_word_taken [W, .str "root"] = some x := by
  unfold d_word_taken
  refine (runD_at rfl).trans ?_
  unfold g_word_taken
  show outD (sSeq _ _ [some (.fz W), some (.fz (.str "root"))]) = _
  rw [sSeq_of (e := [some (.fz W), some (.fz (.str "root"))]) (sIf_skip (tOfD_of (tW_of (s := "root") (t := "share") rfl rfl w_root w_share (by decide +kernel))))]
  rw [sSeq_of (e := [some (.fz W), some (.fz (.str "root"))]) (sIf_skip (tOfD_of (tW_of (s := "root") (t := "fewer") rfl rfl w_root w_fewer (by decide +kernel))))]
  rw [sRet_at (dAndV_true (tW_of (s := "root") (t := "root") rfl rfl w_root w_root (by decide +kernel)) ((cll1 rfl).trans h))]
  rfl
theorem paper_share {W x : D} (h : d_share_taken [W] = some x) : d_paper_taken [W, .tup [.str "share"]] = some x := by
  unfold d_paper_taken
  refine (runD_at rfl).trans ?_
  unfold g_paper_taken
  show outD (sSeq _ _ [some (.fz W), some (.fz (.tup [.str "share"]))]) = _
  rw [sSeq_of (e := [some (.fz W), some (.fz (.tup [.str "share"]))]) rfl, sSeq_rt (e := [some (.fz W), some (.fz (.tup [.str "share"]))]) (d := x) (sIf_t rfl (sRet_at ((cll2 rfl rfl).trans (word_share h))))]
  rfl
theorem paper_fewer {W x : D} (h : d_fewer_taken [W] = some x) : d_paper_taken [W, .tup [.str "fewer"]] = some x := by
  unfold d_paper_taken
  refine (runD_at rfl).trans ?_
  unfold g_paper_taken
  show outD (sSeq _ _ [some (.fz W), some (.fz (.tup [.str "fewer"]))]) = _
  rw [sSeq_of (e := [some (.fz W), some (.fz (.tup [.str "fewer"]))]) rfl, sSeq_rt (e := [some (.fz W), some (.fz (.tup [.str "fewer"]))]) (d := x) (sIf_t rfl (sRet_at ((cll2 rfl rfl).trans (word_fewer h))))]
  rfl
theorem paper_root {W x : D} (h : d_root_taken [W] = some x) : d_paper_taken [W, .tup [.str "root"]] = some x := by
  unfold d_paper_taken
  refine (runD_at rfl).trans ?_
  unfold g_paper_taken
  show outD (sSeq _ _ [some (.fz W), some (.fz (.tup [.str "root"]))]) = _
  rw [sSeq_of (e := [some (.fz W), some (.fz (.tup [.str "root"]))]) rfl, sSeq_rt (e := [some (.fz W), some (.fz (.tup [.str "root"]))]) (d := x) (sIf_t rfl (sRet_at ((cll2 rfl rfl).trans (word_root h))))]
  rfl
theorem paper_form {W x : D} {p : Int} (h : d_form_taken [W, .int p] = some x) : d_paper_taken [W, .tup [.str "form", .int p]] = some x := by
  unfold d_paper_taken
  refine (runD_at rfl).trans ?_
  unfold g_paper_taken
  show outD (sSeq _ _ [some (.fz W), some (.fz (.tup [.str "form", .int p]))]) = _
  rw [sSeq_of (e := [some (.fz W), some (.fz (.tup [.str "form", .int p]))]) rfl, sSeq_of (e := [some (.fz W), some (.fz (.tup [.str "form", .int p]))]) rfl, sSeq_of (e := [some (.fz W), some (.fz (.tup [.str "form", .int p]))]) rfl, sSeq_of (e := [some (.fz W), some (.fz (.tup [.str "form", .int p]))]) rfl,
    sSeq_rt (e := [some (.fz W), some (.fz (.tup [.str "form", .int p]))]) (d := x) (sIf_t (tOfD_of (tW_of (s := "form") (t := "form") rfl rfl w_form w_form (by decide +kernel))) (sRet_at (dAndV_true rfl ((cll2 rfl rfl).trans h))))]
  rfl
theorem paper_over {W x : D} {a b : Int} (h : d_over_taken [W, .int a, .int b] = some x) : d_paper_taken [W, .tup [.str "over", .int a, .int b]] = some x := by
  unfold d_paper_taken
  refine (runD_at rfl).trans ?_
  unfold g_paper_taken
  show outD (sSeq _ _ [some (.fz W), some (.fz (.tup [.str "over", .int a, .int b]))]) = _
  rw [sSeq_of (e := [some (.fz W), some (.fz (.tup [.str "over", .int a, .int b]))]) rfl, sSeq_of (e := [some (.fz W), some (.fz (.tup [.str "over", .int a, .int b]))]) rfl,
    sSeq_rt (e := [some (.fz W), some (.fz (.tup [.str "over", .int a, .int b]))]) (d := x) (sIf_t rfl (sRet_at (dAndV_true (tW_of (s := "over") (t := "over") rfl rfl w_over w_over (by decide +kernel)) (dAndV_true rfl ((cll3 rfl rfl rfl).trans h)))))]
  rfl
theorem paper_tree {v k l : Int} {st x t : D} (hv : v ≤ 9) (h : d_tree_taken [.tup [.int v, .int k, .int l, st], t] = some x) : d_paper_taken [.tup [.int v, .int k, .int l, st], .tup [.str "tree", t]] = some x := by
  unfold d_paper_taken
  refine (runD_at rfl).trans ?_
  unfold g_paper_taken
  show outD (sSeq _ _ [some (.fz (.tup [.int v, .int k, .int l, st])), some (.fz (.tup [.str "tree", t]))]) = _
  let e : Env := [some (.fz (.tup [.int v, .int k, .int l, st])), some (.fz (.tup [.str "tree", t]))]
  have hv' : bop gLe (bop gIx (dVar 0) (dC (.int 0))) (dC (.int 9)) e = some (.bl true) := by
    show some (D.bl (decide (v ≤ 9))) = _
    rw [decide_eq_true hv]
  rw [sSeq_of (e := e) rfl, sSeq_of (e := e) rfl, sSeq_of (e := e) rfl, sSeq_of (e := e) rfl, sSeq_of (e := e) (sIf_skip (tOfD_of (tW_of (s := "tree") (t := "form") rfl rfl w_tree w_form (by decide +kernel)))),
    sRet_at (d := x) (dAndV_true (tW_of (s := "tree") (t := "tree") rfl rfl w_tree w_tree (by decide +kernel)) (dAndV_true hv' ((cll2 rfl rfl).trans h)))]
  rfl
end EM
set_option maxHeartbeats 1000000
namespace EM
open PySem PySem.Spec PyProof.Rows L2
section
variable {v k l : Nat} {bs : List (List Int)}
theorem share_taken_eq (w : WOk v k l) (h : shN v k l = none) : d_share_taken [WD v k l bs] = some (.bl true) := by
  unfold d_share_taken
  refine (runD_at rfl).trans ?_
  unfold g_share_taken
  have hc := counted_eq v k l w (.tup (bs.map tI))
  rw [h] at hc
  rw [sRet_at (d := .bl true) ((bop_of ((cll1 rfl).trans hc) rfl).trans rfl)]
  rfl
theorem blocks_due_eq {r b : Nat} (w : WOk v k l) (h : shN v k l = some (r, b)) (hk : k ≠ v) : d_blocks_due [WD v k l bs] = some (.int b) := by
  unfold d_blocks_due
  refine (runD_at rfl).trans ?_
  unfold g_blocks_due
  have hc := counted_eq v k l w (.tup (bs.map tI))
  rw [h] at hc
  show outD (sSeq _ _ [some (.fz (WD v k l bs)), none]) = _
  rw [sSeq_of (e := [some (.fz (WD v k l bs)), some (.fz (shD (some (r, b))))]) (sSet_of ((cll1 rfl).trans hc))]
  have ht : tOfD (bop gEq (bop gIx (dVar 0) (dC (.int 1))) (bop gIx (dVar 0) (dC (.int 0)))) [some (.fz (WD v k l bs)), some (.fz (shD (some (r, b))))] = some false := by
    refine tOfD_of ?_
    show some (D.bl ((k : Int) == (v : Int))) = _
    have : ((k : Int) == (v : Int)) = false := by
      rw [beq_eq_false_iff_ne]
      omega
    rw [this]
  rw [sSeq_of (e := [some (.fz (WD v k l bs)), some (.fz (shD (some (r, b))))]) (sIf_skip (tOrD_of (b := false) rfl fun _ => ht))]
  rfl
theorem fewer_taken_eq {r b : Nat} (w : WOk v k l) (h : shN v k l = some (r, b)) (hk : k ≠ v) (hb : b < v) : d_fewer_taken [WD v k l bs] = some (.bl true) := by
  unfold d_fewer_taken
  refine (runD_at rfl).trans ?_
  unfold g_fewer_taken
  show outD (sSeq _ _ [some (.fz (WD v k l bs)), none]) = _
  rw [sSeq_of (e := [some (.fz (WD v k l bs)), some (.fz (.int b))]) (sSet_of ((cll1 rfl).trans (blocks_due_eq w h hk)))]
  have ht : bop gLt (dVar 1) (bop gIx (dVar 0) (dC (.int 0))) [some (.fz (WD v k l bs)), some (.fz (.int b))] = some (.bl true) := by
    show some (D.bl (decide ((b : Int) < (v : Int)))) = _
    rw [decide_eq_true (by omega)]
  rw [sRet_at (dAndV_true rfl ht)]
  rfl
theorem root_taken_eq {r : Nat} {t : Int} (w : WOk v k l) (h : shN v k l = some (r, v)) (hk : k ≠ v) (he : v % 2 = 0) (hr : d_root_of [.int ((k : Int) - l)] = some (.int t)) (h0 : 0 ≤ t) (h1 : t < 1000) (hn : t * t ≠ (k : Int) - l) : d_root_taken [WD v k l bs] = some (.bl true) := by
  unfold d_root_taken
  refine (runD_at rfl).trans ?_
  unfold g_root_taken
  let e : Env := [some (.fz (WD v k l bs)), some (.fz (.int v)), some (.fz (.int k)), some (.fz (.int l)), some (.fz (.tup (bs.map tI)))]
  rw [sSeq_of (e := e) rfl]
  have t1 : tOfD (bop gNe (cll (aCons (dVar 0) aNil) d_blocks_due) (dVar 1)) e = some false := by
    refine tOfD_of ((bop_of ((cll1 rfl).trans (blocks_due_eq w h hk)) rfl).trans ((gNe_int _ _).trans ?_))
    simp
  have t2 : tOfD (bop gEq (bop gMod (dVar 1) (dC (.int 2))) (dC (.int 1))) e = some false := by
    refine tOfD_of ((bop_of ((bop_of (x := .int v) (y := .int (2 : Nat)) rfl rfl).trans ((gMod_of (by decide)).trans (by rw [fmod_nat]))) rfl).trans ((gEq_int _ _).trans ?_))
    rw [he]
    rfl
  rw [sSeq_of (e := e) (sIf_skip (tOrD_of t1 fun _ => t2))]
  have sub : bop gSub (dVar 2) (dVar 3) e = some (.int ((k : Int) - l)) := rfl
  have pw : bop gPow (cll (aCons (bop gSub (dVar 2) (dVar 3)) aNil) d_root_of) (dC (.int 2)) e = some (.int (t ^ 2)) := by
    refine (bop_of ((cll1 sub).trans hr) rfl).trans ?_
    unfold gPow iop
    have : cPow t 2 = true := by
      unfold cPow
      rw [decide_eq_true (by decide), decide_eq_true (by decide), decide_eq_true (show t.natAbs < 2 ^ 64 by omega)]
      rfl
    simp only [this, if_true]
    rfl
  have fin : bop gNe (bop gPow (cll (aCons (bop gSub (dVar 2) (dVar 3)) aNil) d_root_of) (dC (.int 2))) (bop gSub (dVar 2) (dVar 3)) e = some (.bl true) := by
    refine (bop_of pw sub).trans ((gNe_int _ _).trans ?_)
    have : (t ^ 2 == (k : Int) - l) = false := by
      rw [beq_eq_false_iff_ne, Int.pow_succ, Int.pow_succ, Int.pow_zero, Int.one_mul]
      exact hn
    rw [this]
    rfl
  rw [sRet_at fin]
  rfl
def signed (v l : Nat) : Int := if (v - 1) / 2 % 2 = 0 then l else 0 - l
theorem form_taken_eq {r : Nat} {p : Int} (w : WOk v k l) (h : shN v k l = some (r, v)) (hk : k ≠ v) (ho : v % 2 = 1) (hp : 3 ≤ p) (hs : d_shuts [.int ((k : Int) - l), .int (signed v l), .int p] = some (.bl true)) : d_form_taken [WD v k l bs, .int p] = some (.bl true) := by
  unfold d_form_taken
  refine (runD_at rfl).trans ?_
  unfold g_form_taken
  have w2 := w.v2
  let e : Option EV → Env := fun x => [some (.fz (WD v k l bs)), some (.fz (.int p)), x, some (.fz (.int v)), some (.fz (.int k)), some (.fz (.int l)), some (.fz (.tup (bs.map tI)))]
  rw [sSeq_of (e := e none) rfl]
  have t1 : tOfD (bop gNe (cll (aCons (dVar 0) aNil) d_blocks_due) (dVar 3)) (e none) = some false := by
    refine tOfD_of ((bop_of ((cll1 rfl).trans (blocks_due_eq w h hk)) rfl).trans ((gNe_int _ _).trans ?_))
    simp
  have t2 : tOfD (bop gEq (bop gMod (dVar 3) (dC (.int 2))) (dC (.int 0))) (e none) = some false := by
    refine tOfD_of ((bop_of ((bop_of (x := .int v) (y := .int (2 : Nat)) rfl rfl).trans ((gMod_of (by decide)).trans (by rw [fmod_nat]))) rfl).trans ((gEq_int _ _).trans ?_))
    rw [ho]
    rfl
  have t3 : tOfD (bop gLt (dVar 1) (dC (.int 3))) (e none) = some false := by
    refine tOfD_of ?_
    show some (D.bl (decide (p < 3))) = _
    rw [decide_eq_false (by omega)]
  rw [sSeq_of (e := e none) (sIf_skip (tOrD_of t1 fun _ => tOrD_of t2 fun _ => t3)), sSeq_of (e := e (some (.fz (.int l)))) rfl]
  have t4 : tOfD (bop gNe (bop gMod (bop gSub (dVar 3) (dC (.int 1))) (dC (.int 4))) (dC (.int 0))) (e (some (.fz (.int l)))) = some (!((((v - 1) % 4 : Nat) : Int) == 0)) := by
    have e1 : bop gSub (dVar 3) (dC (.int 1)) (e (some (.fz (.int l)))) = some (.int ((v - 1 : Nat) : Int)) := by
      show some (D.int ((v : Int) - 1)) = _
      congr 2
      omega
    refine tOfD_of ((bop_of ((bop_of (y := .int (4 : Nat)) e1 rfl).trans ((gMod_of (by decide)).trans (by rw [fmod_nat]))) rfl).trans (gNe_int _ _))
  have st : sIf (tOfD (bop gNe (bop gMod (bop gSub (dVar 3) (dC (.int 1))) (dC (.int 4))) (dC (.int 0)))) (sSet 2 (bop gSub (dC (.int 0)) (dVar 5))) sNil (e (some (.fz (.int l)))) = some (.nx (e (some (.fz (.int (signed v l)))))) := by
    by_cases c : (v - 1) % 4 = 0
    · rw [sIf_f (r := some (.nx (e (some (.fz (.int l)))))) (by rw [t4, c]; rfl) rfl]
      have : signed v l = l := if_pos (by omega)
      rw [this]
    · have : signed v l = 0 - l := if_neg (by omega)
      rw [this]
      refine sIf_t ?_ rfl
      rw [t4]
      have : ((((v - 1) % 4 : Nat) : Int) == 0) = false := by
        rw [beq_eq_false_iff_ne]
        omega
      rw [this]
      rfl
  rw [sSeq_of st, sRet_at ((cll3 (x := .int ((k : Int) - l)) (y := .int (signed v l)) (z := .int p) rfl rfl rfl).trans hs)]
  rfl
end
end EM
set_option maxHeartbeats 1000000
namespace EM
open PySem PySem.Spec PyProof.Rows L2
theorem gIx_head (d : D) (r : List D) : gIx (.tup (d :: r)) (.int 0) = some d := by
  simp [gIx, EM.seqOf, EM.lstOf, EM.tupOf, L2.atI, L2.ixN]
section
variable {v k l : Nat} {bs : List (List Int)}
/-- as many blocks as points -/
theorem square {r : Nat} (w : WOk v k l) (h : shN v k l = some (r, v)) (hk : k ≠ v) : k * (k - 1) = l * (v - 1) := by
  unfold shN at h
  obtain ⟨h1, h2, h3, h4, h5, h6⟩ := w
  split at h
  · rename_i c1
    split at h
    · rename_i c2
      simp only [Option.some.injEq, Prod.mk.injEq] at h
      obtain ⟨e1, e2⟩ := h
      have a1 : v * (l * (v - 1) / (k - 1)) = k * v := by
        have := Nat.div_add_mod (v * (l * (v - 1) / (k - 1))) k
        rw [c2, e2] at this
        omega
      have a2 : l * (v - 1) / (k - 1) = k := by
        rw [Nat.mul_comm k v] at a1
        exact Nat.eq_of_mul_eq_mul_left (by omega) a1
      have := Nat.div_add_mod (l * (v - 1)) (k - 1)
      rw [c1, a2] at this
      rw [Nat.mul_comm k (k - 1)]
      omega
    · cases h
  · cases h
def paperOk (v k l : Nat) (bs : List (List Int)) (d : D) : Prop := ∃ ps, d = .tup ps ∧ ps ≠ [] ∧ gd d = true ∧ d_paper_taken [WD v k l bs, d] = some (.bl true)
theorem number_paper_ok (w : WOk v k l) : ∃ d, d_number_paper [WD v k l bs] = some d ∧ ((d = .non ∧ ∃ r b, shN v k l = some (r, b) ∧ (k = v ∨ v ≤ b)) ∨ paperOk v k l bs d) := by
  obtain ⟨h1, h2, h3, h4, h5, h6⟩ := id w
  unfold d_number_paper
  rw [show runD 1 7 g_number_paper [WD v k l bs] = outD (g_number_paper [some (.fz (WD v k l bs)), none, none, none, none, none, none]) from rfl]
  unfold g_number_paper
  let e : Option EV → Option EV → Env := fun x y => [some (.fz (WD v k l bs)), x, y, some (.fz (.int v)), some (.fz (.int k)), some (.fz (.int l)), some (.fz (.tup (bs.map tI)))]
  rw [sSeq_of (e := e none none) rfl]
  have hc := shares_eq v k l w (.tup (bs.map tI))
  rw [sSeq_of (e := e (some (.fz (shD (shN v k l)))) none) (sSet_of ((cll1 rfl).trans hc))]
  cases hs : shN v k l with
  | none =>
    rw [sSeq_rt (e := e (some (.fz (shD none))) none) (d := .tup [.str "share"]) (sIf_t rfl rfl)]
    refine ⟨_, rfl, .inr ⟨_, rfl, by simp, gd_tup fun d hd => ?_, paper_share (share_taken_eq w hs)⟩⟩
    rw [List.mem_singleton] at hd
    rw [hd]
    simp [gd, w_share]
  | some q =>
    obtain ⟨r, b⟩ := q
    let E := e (some (.fz (shD (some (r, b))))) none
    rw [sSeq_of (e := E) (sIf_skip rfl)]
    have t1 : tOfD (bop gEq (dVar 4) (dVar 3)) E = some ((k : Int) == (v : Int)) := rfl
    have t2 : tOfD (bop gGt (bop gIx (dVar 1) (dC (.int 1))) (dVar 3)) E = some (decide ((v : Int) < (b : Int))) := rfl
    have t3 := tOrD_of t1 fun _ => t2
    by_cases c : k = v ∨ v < b
    · rw [sSeq_rt (e := E) (d := .non) (sIf_t (t3.trans (by
        rcases c with c | c
        · rw [c]; simp
        · rw [decide_eq_true (show (v : Int) < (b : Int) by omega), Bool.or_true])) rfl)]
      exact ⟨_, rfl, .inl ⟨rfl, r, b, rfl, c.imp id (fun c => by omega)⟩⟩
    · have hk : k ≠ v := fun z => c (.inl z)
      have hb : b ≤ v := by
        rcases Nat.lt_or_ge v b with z | z
        · exact absurd (.inr z) c
        · exact z
      have f1 : ((k : Int) == (v : Int)) = false := by
        rw [beq_eq_false_iff_ne]
        omega
      rw [sSeq_of (e := E) (sIf_skip (t3.trans (by rw [f1, decide_eq_false (show ¬ (v : Int) < (b : Int) by omega)]; rfl)))]
      have t4 : tOfD (bop gLt (bop gIx (dVar 1) (dC (.int 1))) (dVar 3)) E = some (decide ((b : Int) < (v : Int))) := rfl
      by_cases c2 : b < v
      · rw [sSeq_rt (e := E) (d := .tup [.str "fewer"]) (sIf_t (t4.trans (by rw [decide_eq_true (show (b : Int) < (v : Int) by omega)])) rfl)]
        refine ⟨_, rfl, .inr ⟨_, rfl, by simp, gd_tup fun d hd => ?_, paper_fewer (fewer_taken_eq w hs hk c2)⟩⟩
        rw [List.mem_singleton] at hd
        rw [hd]
        simp [gd, w_fewer]
      · have eb : b = v := by omega
        subst eb
        rw [sSeq_of (e := E) (sIf_skip (t4.trans (by rw [decide_eq_false (show ¬ (b : Int) < (b : Int) by omega)])))]
        have sq := square w hs hk
        have lk : l < k := by
          rcases Nat.lt_or_ge l k with z | z
          · exact z
          · have : k * (b - 1) ≤ l * (b - 1) := Nat.mul_le_mul_right _ z
            have : k * (k - 1) < k * (b - 1) := Nat.mul_lt_mul_of_pos_left (by omega) (by omega)
            omega
        have t5 : tOfD (bop gEq (bop gMod (dVar 3) (dC (.int 2))) (dC (.int 0))) E = some (((b % 2 : Nat) : Int) == 0) := tOfD_of ((bop_of ((bop_of (x := .int b) (y := .int (2 : Nat)) rfl rfl).trans ((gMod_of (by decide)).trans (by rw [fmod_nat]))) rfl).trans (gEq_int _ _))
        have sub : bop gSub (dVar 4) (dVar 5) E = some (.int ((k : Int) - l)) := rfl
        by_cases c3 : b % 2 = 0
        · have rb := List.all_eq_true.mp root_all (k - l) (List.mem_range.mpr (by omega))
          unfold rootB at rb
          split at rb
          · rename_i t et
            simp only [Bool.and_eq_true, decide_eq_true_eq] at rb
            rw [show ((k - l : Nat) : Int) = (k : Int) - l by omega] at et
            have rt : cll (aCons (bop gSub (dVar 4) (dVar 5)) aNil) d_root_of E = some (.int t) := (cll1 sub).trans et
            have mu : bop gMul (cll (aCons (bop gSub (dVar 4) (dVar 5)) aNil) d_root_of) (cll (aCons (bop gSub (dVar 4) (dVar 5)) aNil) d_root_of) E = some (.int (t * t)) := (bop_of rt rt).trans (gMul_of (by omega))
            have t6 : tOfD (bop gEq (bop gMul (cll (aCons (bop gSub (dVar 4) (dVar 5)) aNil) d_root_of) (cll (aCons (bop gSub (dVar 4) (dVar 5)) aNil) d_root_of)) (bop gSub (dVar 4) (dVar 5))) E = some (t * t == (k : Int) - l) := tOfD_of ((bop_of mu sub).trans (gEq_int _ _))
            by_cases c4 : t * t = (k : Int) - l
            · rw [sSeq_rt (e := E) (d := .non) (sIf_t (t5.trans (by rw [c3]; rfl)) (sSeq_rt (sIf_t (t6.trans (by rw [c4, beq_self_eq_true])) rfl)))]
              exact ⟨_, rfl, .inl ⟨rfl, r, b, rfl, .inr (Nat.le_refl _)⟩⟩
            · rw [sSeq_rt (e := E) (d := .tup [.str "root"]) (sIf_t (t5.trans (by rw [c3]; rfl)) ((sSeq_of (sIf_skip (t6.trans (by rw [beq_eq_false_iff_ne.mpr c4])))).trans rfl))]
              refine ⟨_, rfl, .inr ⟨_, rfl, by simp, gd_tup fun d hd => ?_, paper_root (root_taken_eq w hs hk c3 et rb.1 rb.2 c4)⟩⟩
              rw [List.mem_singleton] at hd
              rw [hd]
              simp [gd, w_root]
          · cases rb
        · have c3' : b % 2 = 1 := by omega
          rw [sSeq_of (e := E) (sIf_skip (t5.trans (by rw [c3']; rfl)))]
          have dv : k * (k - 1) % (b - 1) = 0 := by
            rw [sq]
            exact Nat.mul_mod_left _ _
          have lq : k * (k - 1) / (b - 1) = l := by
            rw [sq]
            exact Nat.mul_div_cancel _ (by omega)
          have fb := form_ok h2 c3' h3 (by omega) dv
          unfold formB at fb
          rw [lq] at fb
          have i1 : bop gMod (bop gDiv (bop gSub (dVar 3) (dC (.int 1))) (dC (.int 2))) (dC (.int 2)) E = some (.int (((b - 1) / 2 % 2 : Nat) : Int)) := by
            have e1 : bop gSub (dVar 3) (dC (.int 1)) E = some (.int ((b - 1 : Nat) : Int)) := by
              show some (D.int ((b : Int) - 1)) = _
              congr 2
              omega
            have e2 : bop gDiv (bop gSub (dVar 3) (dC (.int 1))) (dC (.int 2)) E = some (.int (((b - 1) / 2 : Nat) : Int)) := (bop_of (y := .int (2 : Nat)) e1 rfl).trans ((gDiv_of (by decide) (by decide)).trans (by rw [fdiv_nat]))
            exact (bop_of (y := .int (2 : Nat)) e2 rfl).trans ((gMod_of (by decide)).trans (by rw [fmod_nat]))
          have i2 : bop gIx (fun env => bnd ((nLst (aCons (dVar 5) (aCons (bop gSub (dC (.int 0)) (dVar 5)) aNil))) env) fun ds => some (.lst ds)) (bop gMod (bop gDiv (bop gSub (dVar 3) (dC (.int 1))) (dC (.int 2))) (dC (.int 2))) E = some (.int (signed b l)) := by
            refine (bop_of (x := .lst [.int l, .int (0 - (l : Int))]) rfl i1).trans ?_
            unfold signed
            have : (b - 1) / 2 % 2 = 0 ∨ (b - 1) / 2 % 2 = 1 := by omega
            rcases this with z | z
            · rw [z, if_pos rfl]
              rfl
            · rw [z, if_neg (by decide)]
              rfl
          have told := cll2 (g := d_form_told) sub i2
          have sg : (if (b - 1) / 2 % 2 = 0 then ((l : Nat) : Int) else 0 - ((l : Nat) : Int)) = signed b l := rfl
          simp only [sg] at fb
          split at fb
          · rename_i wd p et
            simp only [Bool.and_eq_true, decide_eq_true_eq, beq_iff_eq] at fb
            obtain ⟨⟨f2, f3⟩, f4⟩ := fb
            subst f2
            split at f4
            · rename_i es
              rw [sSeq_of (e := e (some (.fz (shD (some (r, b))))) (some (.fz (.tup [.str "rest", .int p])))) (sSet_of (told.trans et))]
              rw [sSeq_rt (e := e (some (.fz (shD (some (r, b))))) (some (.fz (.tup [.str "rest", .int p])))) (d := .tup [.str "form", .int p]) (sIf_t (tOfD_of (tW_of (s := "rest") (t := "rest") rfl rfl w_rest w_rest (by decide +kernel))) rfl)]
              refine ⟨_, rfl, .inr ⟨_, rfl, by simp, gd_tup fun d hd => ?_, paper_form (form_taken_eq w hs hk c3' f3 es)⟩⟩
              simp only [List.mem_cons, List.not_mem_nil, or_false] at hd
              rcases hd with rfl | rfl
              · simp [gd, w_form]
              · simp [gd]
            · cases f4
          · rename_i wd rest hne et
            simp only [Bool.and_eq_true, Bool.not_eq_true'] at fb
            obtain ⟨f1, f2⟩ := fb
            rw [sSeq_of (e := e (some (.fz (shD (some (r, b))))) (some (.fz (.tup (.str wd :: rest))))) (sSet_of (told.trans et))]
            rw [sSeq_of (e := e (some (.fz (shD (some (r, b))))) (some (.fz (.tup (.str wd :: rest))))) (sIf_skip (tOfD_of (tW_of (s := wd) (t := "rest") ((bop_of (x := .tup (.str wd :: rest)) rfl rfl).trans (gIx_head _ _)) rfl f1 w_rest f2)))]
            exact ⟨_, rfl, .inl ⟨rfl, r, b, rfl, .inr (Nat.le_refl _)⟩⟩
          · cases fb
end
end EM
set_option maxHeartbeats 1000000
namespace EM
open PySem PySem.Spec PyProof.Rows L2
/-! dicts of pairs -/
def mg (m : Mp) (q : Int × Int) : Int := (mget m q).getD 0
theorem keq {k q : Int × Int} : (k.1 == q.1 && k.2 == q.2) = decide (k = q) := by
  obtain ⟨a, b⟩ := k
  obtain ⟨c, d⟩ := q
  rw [Bool.eq_iff_iff]
  simp
theorem mhas_mem {q : Int × Int} : ∀ {m : Mp}, mhas m q = true ↔ q ∈ m.map (·.1)
  | [] => by simp [mhas]
  | (k, c) :: r => by
    unfold mhas
    rw [keq, Bool.or_eq_true, mhas_mem (m := r), decide_eq_true_eq, List.map_cons, List.mem_cons]
    exact or_congr_left eq_comm
theorem mget_mhas {q : Int × Int} : ∀ {m : Mp}, (mget m q).isSome = mhas m q
  | [] => rfl
  | (k, c) :: r => by
    unfold mget mhas
    rw [keq]
    by_cases h : k = q
    · simp [h]
    · simp [h, mget_mhas (m := r)]
theorem keys_mset (q : Int × Int) (v : Int) : ∀ m : Mp, (mset m q v).map (·.1) = m.map (·.1)
  | [] => rfl
  | (k, c) :: r => by
    unfold mset
    split
    · rw [List.map_cons, List.map_cons, keys_mset q v r]
    · rw [List.map_cons, List.map_cons, keys_mset q v r]
theorem mget_mset (q p : Int × Int) (v : Int) : ∀ m : Mp, mget (mset m q v) p = if p = q then (mget m q).map (fun _ => v) else mget m p
  | [] => by simp [mset, mget]
  | (k, c) :: r => by
    have ih := mget_mset q p v r
    unfold mset
    rw [keq]
    by_cases h : k = q
    · subst h
      rw [if_pos (decide_eq_true rfl)]
      unfold mget
      rw [keq, keq]
      by_cases h2 : k = p
      · subst h2
        simp
      · rw [if_neg (by simpa using h2)]
        have h3 : ¬ p = k := fun z => h2 z.symm
        rw [if_neg h3, if_neg (by simpa using h2)]
        rw [ih, if_neg h3]
    · rw [if_neg (by simpa using h)]
      unfold mget
      rw [keq, keq]
      by_cases h2 : k = p
      · subst h2
        have h3 : ¬ k = q := h
        rw [if_pos (by simp), if_neg h3, if_pos (by simp)]
      · rw [if_neg (by simpa using h2), ih, if_neg (show ¬ (decide (k = q)) = true by simpa using h)]
        by_cases h3 : p = q
        · rw [if_pos h3, if_pos h3]
        · rw [if_neg h3, if_neg h3, if_neg (by simpa using h2)]
theorem mget_app (p q : Int × Int) (v : Int) : ∀ m : Mp, mhas m q = false → mget (m ++ [(q, v)]) p = if p = q then some v else mget m p
  | [], _ => by
    show mget [(q, v)] p = _
    unfold mget mget
    rw [keq]
    by_cases h : p = q
    · subst h; simp
    · have : ¬ q = p := fun z => h z.symm
      simp [h, this]
  | (k, c) :: r, hn => by
    unfold mhas at hn
    rw [keq, Bool.or_eq_false_iff, decide_eq_false_iff_not] at hn
    have ih := mget_app p q v r hn.2
    show mget ((k, c) :: (r ++ [(q, v)])) p = _
    unfold mget
    rw [keq]
    by_cases h : k = p
    · subst h
      have : ¬ k = q := hn.1
      simp [this]
    · simp only [h, decide_false, Bool.false_eq_true, if_false]
      rw [ih]
theorem mget_mput (m : Mp) (p q : Int × Int) (v : Int) : mget (mput m q v) p = if p = q then some v else mget m p := by
  unfold mput
  by_cases h : mhas m q = true
  · rw [if_pos h, mget_mset]
    have : (mget m q).isSome = true := by rw [mget_mhas]; exact h
    by_cases h2 : p = q
    · rw [if_pos h2, if_pos h2]
      obtain ⟨c, e⟩ := Option.isSome_iff_exists.mp this
      rw [e]
      rfl
    · rw [if_neg h2, if_neg h2]
  · rw [if_neg h]
    exact mget_app p q v m (by simpa using h)
theorem mg_mput (m : Mp) (p q : Int × Int) (v : Int) : mg (mput m q v) p = if p = q then v else mg m p := by
  unfold mg
  rw [mget_mput]
  by_cases h : p = q
  · rw [if_pos h, if_pos h]
    rfl
  · rw [if_neg h, if_neg h]
/-- keys once each, among v points -/
structure DOk (v : Nat) (m : Mp) : Prop where
  nd : (m.map (·.1)).Nodup
  inn : ∀ q ∈ m.map (·.1), 0 ≤ q.1 ∧ q.1 < (v : Int) ∧ 0 ≤ q.2 ∧ q.2 < (v : Int)
theorem nodup_len {α : Type} [DecidableEq α] : ∀ {l L : List α}, l.Nodup → (∀ x ∈ l, x ∈ L) → l.length ≤ L.length
  | [], _, _, _ => Nat.zero_le _
  | a :: l, L, h, hs => by
    obtain ⟨h1, h2⟩ := List.nodup_cons.mp h
    have ha : a ∈ L := hs a (List.mem_cons_self ..)
    have ih := nodup_len (L := L.erase a) h2 fun x hx => by
      have hne : x ≠ a := fun z => h1 (z ▸ hx)
      exact (List.mem_erase_of_ne hne).mpr (hs x (List.mem_cons_of_mem _ hx))
    rw [List.length_erase_of_mem ha] at ih
    have : 0 < L.length := List.length_pos_of_mem ha
    rw [List.length_cons]
    omega
theorem DOk.len {v : Nat} {m : Mp} (h : DOk v m) : m.length ≤ v * v := by
  have z := nodup_len (L := (List.range v).flatMap fun (a : Nat) => (List.range v).map fun (b : Nat) => ((a : Int), (b : Int))) h.nd fun q hq => by
    obtain ⟨h1, h2, h3, h4⟩ := h.inn q hq
    refine List.mem_flatMap.mpr ⟨q.1.toNat, List.mem_range.mpr (by omega), List.mem_map.mpr ⟨q.2.toNat, List.mem_range.mpr (by omega), ?_⟩⟩
    obtain ⟨a, b⟩ := q
    simp only at h1 h2 h3 h4 ⊢
    congr 1 <;> omega
  rw [List.length_map] at z
  refine Nat.le_trans z ?_
  have := len_flat_le (n := v) (fun (a : Nat) => (List.range v).map fun (b : Nat) => ((a : Int), (b : Int))) (List.range v) fun x _ => by
    rw [List.length_map, List.length_range]
    exact Nat.le_refl _
  rw [List.length_range] at this
  exact this
theorem DOk.nil (v : Nat) : DOk v [] := ⟨List.nodup_nil, fun q h => by simp at h⟩
theorem DOk.put {v : Nat} {m : Mp} (h : DOk v m) {q : Int × Int} (c : Int) (h1 : 0 ≤ q.1) (h2 : q.1 < (v : Int)) (h3 : 0 ≤ q.2) (h4 : q.2 < (v : Int)) : DOk v (mput m q c) := by
  unfold mput
  by_cases hm : mhas m q = true
  · rw [if_pos hm]
    exact ⟨by rw [keys_mset]; exact h.nd, by rw [keys_mset]; exact h.inn⟩
  · rw [if_neg hm]
    have nm : q ∉ m.map (·.1) := fun z => hm (mhas_mem.mpr z)
    constructor
    · rw [List.map_append]
      refine List.nodup_append.mpr ⟨h.nd, by simp, ?_⟩
      intro a ha b hb
      simp only [List.map_cons, List.map_nil, List.mem_singleton] at hb
      subst hb
      exact fun z => nm (z ▸ ha)
    · intro p hp
      rw [List.map_append, List.mem_append] at hp
      rcases hp with hp | hp
      · exact h.inn p hp
      · simp only [List.map_cons, List.map_nil, List.mem_singleton] at hp
        subst hp
        exact ⟨h1, h2, h3, h4⟩
end EM
set_option maxHeartbeats 1000000
namespace EM
open PySem PySem.Spec PyProof.Rows L2
def oz : Option D → Option EV
  | none => none
  | some d => some (.fz d)
theorem oz_slf (d : Option D) : isSlf (oz d) = false := by cases d <;> rfl
def le (W lay : D) (m : Mp) (blk b one : Option D) (v k l st : D) (a pt : Option D) : Env := [some (.fz W), some (.fz lay), some (.dct .own m), oz blk, oz b, oz one, some (.fz v), some (.fz k), some (.fz l), some (.fz st), oz a, oz pt]
theorem le_slf {W lay : D} {m : Mp} {blk b one : Option D} {v k l st : D} {a pt : Option D} : noSlf (le W lay m blk b one v k l st a pt) = true := by
  cases blk <;> cases b <;> cases one <;> cases a <;> cases pt <;> rfl
def bump (m : Mp) (q : Int × Int) : Mp := mput m q (mg m q + 1)
theorem mg_bumps (p : Int × Int) : ∀ (qs : List (Int × Int)) (m : Mp), mg (qs.foldl bump m) p = mg m p + (qs.count p : Nat)
  | [], m => by simp
  | q :: qs, m => by
    rw [List.foldl_cons, mg_bumps p qs, List.count_cons]
    unfold bump
    rw [mg_mput]
    by_cases h : p = q
    · subst h
      simp
      omega
    · have : ¬ q = p := fun z => h z.symm
      rw [if_neg h]
      simp [this]
section
variable {W lay : D} {v k l st : D} {blk b one a pt : Option D}
theorem put_step {m : Mp} (x y : Int) (hm : m.length < 100000) : sPutD 2 (dTup (aCons (dVar 10) (aCons (dVar 4) aNil))) (bop gAdd (dGetOr 2 (dTup (aCons (dVar 10) (aCons (dVar 4) aNil))) (dC (.int 0))) (dC (.int 1))) (le W lay m blk (some (.int y)) one v k l st (some (.int x)) pt) = some (.nx (le W lay (bump m (x, y)) blk (some (.int y)) one v k l st (some (.int x)) pt)) := by
  have h1 : bop gAdd (dGetOr 2 (dTup (aCons (dVar 10) (aCons (dVar 4) aNil))) (dC (.int 0))) (dC (.int 1)) (le W lay m blk (some (.int y)) one v k l st (some (.int x)) pt) = some (.int (mg m (x, y) + 1)) := rfl
  unfold sPutD
  rw [h1]
  show (match dctW 2 (le W lay m blk (some (.int y)) one v k l st (some (.int x)) pt) with
    | some (b, m') => if decide (m'.length < 100000) && noSlf (le W lay m blk (some (.int y)) one v k l st (some (.int x)) pt) then some (Res.nx ((le W lay m blk (some (.int y)) one v k l st (some (.int x)) pt).set 2 (some (.dct b (mput m' (x, y) (mg m (x, y) + 1)))))) else none
    | none => none) = _
  rw [show dctW 2 (le W lay m blk (some (.int y)) one v k l st (some (.int x)) pt) = some (.own, m) from rfl]
  show (if decide (m.length < 100000) && noSlf (le W lay m blk (some (.int y)) one v k l st (some (.int x)) pt) then _ else none) = _
  rw [decide_eq_true hm, le_slf, Bool.and_self, if_pos rfl]
  rfl
/-- for a in block -/
theorem loop_a {n : Nat} (y : Int) (hn : n * n < 100000) (hy : 0 ≤ y ∧ y < n) : ∀ (xs : List Int) (m : Mp) (a : Option D), DOk n m → (∀ x ∈ xs, 0 ≤ x ∧ x < n) → ∃ a', forD (setN 10) (sPutD 2 (dTup (aCons (dVar 10) (aCons (dVar 4) aNil))) (bop gAdd (dGetOr 2 (dTup (aCons (dVar 10) (aCons (dVar 4) aNil))) (dC (.int 0))) (dC (.int 1)))) (xs.map D.int) (le W lay m blk (some (.int y)) one v k l st a pt) = some (.nx (le W lay ((xs.map fun x => (x, y)).foldl bump m) blk (some (.int y)) one v k l st a' pt)) ∧ DOk n ((xs.map fun x => (x, y)).foldl bump m)
  | [], m, a, hm, _ => ⟨a, rfl, hm⟩
  | x :: xs, m, a, hm, hx => by
    have hx0 := hx x (List.mem_cons_self ..)
    obtain ⟨a', h1, h2⟩ := loop_a y hn hy xs (bump m (x, y)) (some (.int x)) (hm.put _ hx0.1 hx0.2 hy.1 hy.2) fun z hz => hx z (List.mem_cons_of_mem _ hz)
    refine ⟨a', ?_, h2⟩
    show bnd (sPutD 2 _ _ (le W lay m blk (some (.int y)) one v k l st (some (.int x)) pt)) _ = _
    rw [put_step x y (Nat.lt_of_le_of_lt hm.len hn)]
    exact h1
/-- for b in block -/
theorem loop_b {n : Nat} (blk : List Int) (hn : n * n < 100000) (hb : ∀ x ∈ blk, 0 ≤ x ∧ x < (n : Int)) : ∀ (ys : List Int) (m : Mp) (b a : Option D), DOk n m → (∀ x ∈ ys, 0 ≤ x ∧ x < (n : Int)) → ∃ b' a', forD (setN 4) (sFor (iAny (dVar 3)) (setN 10) (sPutD 2 (dTup (aCons (dVar 10) (aCons (dVar 4) aNil))) (bop gAdd (dGetOr 2 (dTup (aCons (dVar 10) (aCons (dVar 4) aNil))) (dC (.int 0))) (dC (.int 1))))) (ys.map D.int) (le W lay m (some (tI blk)) b one v k l st a pt) = some (.nx (le W lay ((ys.flatMap fun y => blk.map fun x => (x, y)).foldl bump m) (some (tI blk)) b' one v k l st a' pt)) ∧ DOk n ((ys.flatMap fun y => blk.map fun x => (x, y)).foldl bump m)
  | [], m, b, a, hm, _ => ⟨b, a, rfl, hm⟩
  | y :: ys, m, b, a, hm, hy => by
    obtain ⟨a1, h1, h2⟩ := loop_a (W := W) (lay := lay) (blk := some (tI blk)) (one := one) (v := v) (k := k) (l := l) (st := st) (pt := pt) y hn (hy y (List.mem_cons_self ..)) blk m a hm hb
    obtain ⟨b', a', h3, h4⟩ := loop_b blk hn hb ys _ (some (.int y)) a1 h2 fun z hz => hy z (List.mem_cons_of_mem _ hz)
    refine ⟨b', a', ?_, ?_⟩
    · show bnd (sFor (iAny (dVar 3)) (setN 10) _ (le W lay m (some (tI blk)) (some (.int y)) one v k l st a pt)) _ = _
      rw [(sFor_of (ds := blk.map D.int) rfl).trans h1]
      rw [List.flatMap_cons, List.foldl_append]
      exact h3
    · rw [List.flatMap_cons, List.foldl_append]
      exact h4
end
/-- what is asked of a block -/
structure BOk (v k : Nat) (m : List Int) : Prop where
  len : m.length = k
  inc : incB m = true
  inn : ∀ x ∈ m, 0 ≤ x ∧ x < (v : Int)
theorem gNe_eqD {x y : D} {b : Bool} (h : eqD x y = some b) : gNe x y = some (.bl (!b)) := by
  rw [gNe_eq, h]
  rfl
/-- the looks at one block -/
theorem looks {W lay : D} {m : Mp} {b one a pt : Option D} {l st : D} {v k : Nat} {blk : List Int} (hk : k < 64) (h : BOk v k blk) :
    (sIf (tOrD (tNotD (tOfD (cll (aCons (dVar 3) aNil) (gIsi .tuple)))) (tOrD (tOfD (bop gNe (cll (aCons (dVar 3) aNil) gLen) (dVar 7))) (tOfD (bop gNe (fun env => bnd ((clN (aCons (dVar 3) aNil) gList) env) fun ds => some (.lst ds)) (fun env => bnd ((nSortedSet (dVar 3)) env) fun ds => some (.lst ds)))))) (sRet (dC (.bl false))) sNil) (le W lay m (some (tI blk)) b one (.int v) (.int k) l st a pt) = some (.nx (le W lay m (some (tI blk)) b one (.int v) (.int k) l st a pt)) ∧
    (sIf (tNotD (tOfD (cll (aCons (fun env => bnd ((nLc [11] (iAny (dVar 3)) (setN 11) tYesD (dAndV (cll (aCons (dVar 11) aNil) (gIsi .int)) (dAndV (dNotV (cll (aCons (dVar 11) aNil) (gIsi .bool))) (dChain gLe gLt (dC (.int 0)) (dVar 11) (dVar 6))))) env) fun ds => some (.lst ds)) aNil) gAll))) (sRet (dC (.bl false))) sNil) (le W lay m (some (tI blk)) b one (.int v) (.int k) l st a pt) = some (.nx (le W lay m (some (tI blk)) b one (.int v) (.int k) l st a pt)) := by
  constructor
  · refine sIf_skip (tOrD_of (b := false) rfl fun _ => tOrD_of (b := false) ?_ fun _ => ?_)
    · refine tOfD_of ((bop_of (x := .int (blk.map D.int).length) (y := .int k) rfl rfl).trans ((gNe_int _ _).trans ?_))
      rw [List.length_map, h.len]
      simp
    · refine tOfD_of ((bop_of (x := .lst (blk.map D.int)) (y := .lst (blk.map D.int)) rfl (lstF ?_)).trans ((gNe_eqD (eqD_lI blk blk)).trans (by simp)))
      show (bnd (intsOf (blk.map D.int)) fun ns => if incB ns && decide (ns.length < 64) then some (ns.map D.int) else none) = _
      rw [intsOf_map]
      show (if incB blk && decide (blk.length < 64) then _ else none) = _
      rw [h.inc, decide_eq_true (by rw [h.len]; exact hk), Bool.and_self, if_pos rfl]
  · refine sIf_skip (tNotD_of (b := true) (tOfD_of ?_))
    have lc : nLc [11] (iAny (dVar 3)) (setN 11) tYesD (dAndV (cll (aCons (dVar 11) aNil) (gIsi .int)) (dAndV (dNotV (cll (aCons (dVar 11) aNil) (gIsi .bool))) (dChain gLe gLt (dC (.int 0)) (dVar 11) (dVar 6)))) (le W lay m (some (tI blk)) b one (.int v) (.int k) l st a pt) = some (blk.map fun _ => D.bl true) := by
      refine nLc_all (xs := blk) D.int (fun _ => .bl true) rfl (by rw [h.len]; omega) fun x hx => ⟨_, rfl, ?_⟩
      obtain ⟨h1, h2⟩ := h.inn x hx
      refine dAndV_true rfl (dAndV_true rfl ?_)
      show (match some (D.bl (decide (0 ≤ x))) with
        | some (.bl true) => bnd (some (D.int v)) fun z => gLt (.int x) z
        | some (.bl false) => some (.bl false)
        | _ => none) = _
      rw [decide_eq_true h1]
      show some (D.bl (decide (x < (v : Int)))) = _
      rw [decide_eq_true h2]
    rw [cll1 (lstF lc)]
    rw [show blk.map (fun _ => D.bl true) = (blk.map fun _ => true).map D.bl by rw [List.map_map]; rfl, gAll_of]
    simp
end EM
set_option maxHeartbeats 1000000
namespace EM
open PySem PySem.Spec PyProof.Rows L2
theorem cp1 (a b y : Int) : ∀ xs : List Int, xs.Nodup → (xs.map fun x => (x, y)).count (a, b) = if b = y ∧ a ∈ xs then 1 else 0
  | [], _ => by simp
  | x :: xs, h => by
    obtain ⟨h1, h2⟩ := List.nodup_cons.mp h
    rw [List.map_cons, List.count_cons, cp1 a b y xs h2]
    by_cases hb : b = y
    · subst hb
      by_cases hx : a = x
      · subst hx
        simp [h1]
      · have : ¬ x = a := fun z => hx z.symm
        simp [hx, this]
    · have : ¬ y = b := fun z => hb z.symm
      simp [hb, this]
theorem cp2 (a b : Int) (blk : List Int) (hn : blk.Nodup) : ∀ ys : List Int, ys.Nodup → (ys.flatMap fun y => blk.map fun x => (x, y)).count (a, b) = if b ∈ ys ∧ a ∈ blk then 1 else 0
  | [], _ => by simp
  | y :: ys, h => by
    obtain ⟨h1, h2⟩ := List.nodup_cons.mp h
    rw [List.flatMap_cons, List.count_append, cp1 a b y blk hn, cp2 a b blk hn ys h2]
    by_cases ha : a ∈ blk
    · by_cases hb : b = y
      · subst hb
        simp [ha, h1]
      · simp [ha, hb]
    · simp [ha]
def qsOf (bs : List (List Int)) : List (Int × Int) := bs.flatMap fun blk => blk.flatMap fun y => blk.map fun x => (x, y)
theorem cp3 (a b : Int) : ∀ bs : List (List Int), (∀ m ∈ bs, m.Nodup) → (qsOf bs).count (a, b) = cnt2 bs a b
  | [], _ => rfl
  | m :: bs, h => by
    have ih := cp3 a b bs fun x hx => h x (List.mem_cons_of_mem _ hx)
    have hm := h m (List.mem_cons_self ..)
    unfold qsOf at ih ⊢
    rw [List.flatMap_cons, List.count_append, ih, cp2 a b m hm m hm]
    unfold cnt2
    rw [List.filter_cons]
    by_cases c : a ∈ m ∧ b ∈ m
    · rw [if_pos c.symm, if_pos (by rw [memI_mem.mpr c.1, memI_mem.mpr c.2]; rfl), List.length_cons]
      omega
    · rw [if_neg fun z => c z.symm, if_neg fun z => c (by
        rw [Bool.and_eq_true] at z
        exact ⟨memI_mem.mp z.1, memI_mem.mp z.2⟩)]
      omega
theorem forD_cons {set : D → Env → Option Env} {body : Env → Option Res} {d : D} {ds : List D} {e e1 e2 : Env} (h1 : set d e = some e1) (h2 : body e1 = some (.nx e2)) : forD set body (d :: ds) e = forD set body ds e2 := by
  show bnd (set d e) _ = _
  rw [h1]
  show bnd (body e1) _ = _
  rw [h2]
  rfl
structure Design (v k l : Nat) (st bs : List (List Int)) : Prop where
  v60 : v ≤ 60
  kv : k ≤ v
  many : bs.length ≤ 200
  ok : ∀ m ∈ bs, BOk v k m
  even : ∀ a b : Int, 0 ≤ a → a < b → b < (v : Int) → cnt2 bs a b = l
  begl : st.length ≤ 1000
  beg : ∀ s ∈ st, (st.filter fun m => decide (m = s)).length ≤ (bs.filter fun m => decide (m = s)).length
theorem loop_m {W lay l st : D} {v k : Nat} {one pt : Option D} (hk : k < 64) (hv : v ≤ 60) : ∀ (bs : List (List Int)) (m : Mp) (blk b a : Option D), DOk v m → (∀ x ∈ bs, BOk v k x) → ∃ blk' b' a', forD (setN 3) (sSeq (sIf (tOrD (tNotD (tOfD (cll (aCons (dVar 3) aNil) (gIsi .tuple)))) (tOrD (tOfD (bop gNe (cll (aCons (dVar 3) aNil) gLen) (dVar 7))) (tOfD (bop gNe (fun env => bnd ((clN (aCons (dVar 3) aNil) gList) env) fun ds => some (.lst ds)) (fun env => bnd ((nSortedSet (dVar 3)) env) fun ds => some (.lst ds)))))) (sRet (dC (.bl false))) sNil)
    (sSeq (sIf (tNotD (tOfD (cll (aCons (fun env => bnd ((nLc [11] (iAny (dVar 3)) (setN 11) tYesD (dAndV (cll (aCons (dVar 11) aNil) (gIsi .int)) (dAndV (dNotV (cll (aCons (dVar 11) aNil) (gIsi .bool))) (dChain gLe gLt (dC (.int 0)) (dVar 11) (dVar 6))))) env) fun ds => some (.lst ds)) aNil) gAll))) (sRet (dC (.bl false))) sNil)
    (sFor (iAny (dVar 3)) (setN 4) (sFor (iAny (dVar 3)) (setN 10) (sPutD 2 (dTup (aCons (dVar 10) (aCons (dVar 4) aNil))) (bop gAdd (dGetOr 2 (dTup (aCons (dVar 10) (aCons (dVar 4) aNil))) (dC (.int 0))) (dC (.int 1)))))))) (bs.map tI) (le W lay m blk b one (.int v) (.int k) l st a pt) = some (.nx (le W lay ((qsOf bs).foldl bump m) blk' b' one (.int v) (.int k) l st a' pt)) ∧ DOk v ((qsOf bs).foldl bump m)
  | [], m, blk, b, a, hm, _ => ⟨blk, b, a, rfl, hm⟩
  | x :: bs, m, blk, b, a, hm, hx => by
    have hb := hx x (List.mem_cons_self ..)
    obtain ⟨q1, q2⟩ := looks (W := W) (lay := lay) (m := m) (b := b) (one := one) (a := a) (pt := pt) (l := l) (st := st) hk hb
    obtain ⟨b1, a1, h1, h2⟩ := loop_b (W := W) (lay := lay) (one := one) (v := .int v) (k := .int k) (l := l) (st := st) (pt := pt) (n := v) x (Nat.lt_of_le_of_lt (Nat.mul_le_mul hv hv) (by decide)) hb.inn x m b a hm hb.inn
    obtain ⟨blk', b', a', h3, h4⟩ := loop_m hk hv bs _ (some (tI x)) b1 a1 h2 fun y hy => hx y (List.mem_cons_of_mem _ hy)
    refine ⟨blk', b', a', ?_, ?_⟩
    · show bnd (sSeq _ _ (le W lay m (some (tI x)) b one (.int v) (.int k) l st a pt)) _ = _
      rw [sSeq_of q1, sSeq_of q2, (sFor_of (ds := x.map D.int) rfl).trans h1]
      show forD _ _ (bs.map tI) _ = _
      unfold qsOf at h3 ⊢
      rw [List.flatMap_cons, List.foldl_append]
      exact h3
    · unfold qsOf at h4 ⊢
      rw [List.flatMap_cons, List.foldl_append]
      exact h4
theorem gEq_eqD {x y : D} {b : Bool} (h : eqD x y = some b) : gEq x y = some (.bl b) := by
  rw [gEq_eq, h]
  rfl
theorem law_design_ok {v k l : Nat} {st bs : List (List Int)} (d : Design v k l st bs) : d_law_design [WD v k l st, .tup [.int v, .tup (bs.map tI)]] = some (.bl true) := by
  obtain ⟨h60, hkv, h200, hok, hev, hsl, hbeg⟩ := d
  unfold d_law_design
  let W := WD v k l st
  let lay : D := .tup [.int v, .tup (bs.map tI)]
  rw [show runD 2 12 g_law_design [W, lay] = outD (g_law_design [some (.fz W), some (.fz lay), none, none, none, none, none, none, none, none, none, none]) from rfl]
  unfold g_law_design
  let e0 : Env := [some (.fz W), some (.fz lay), none, none, none, none, some (.fz (.int v)), some (.fz (.int k)), some (.fz (.int l)), some (.fz (.tup (st.map tI))), none, none]
  rw [sSeq_of (e := e0) rfl]
  have t1 : tOfD (bop gNe (bop gIx (dVar 1) (dC (.int 0))) (dVar 6)) e0 = some false := by
    refine tOfD_of ((bop_of (x := .int v) (y := .int v) rfl rfl).trans ((gNe_int _ _).trans (by simp)))
  rw [sSeq_of (e := e0) (sIf_skip (tOrD_of (b := false) rfl fun _ => tOrD_of (b := false) rfl fun _ => tOrD_of t1 fun _ => (rfl : _ = some false)))]
  have t2 : tOfD (bop gGt (dVar 6) (dC (.int 60))) e0 = some false := by
    refine tOfD_of ?_
    show some (D.bl (decide ((60 : Int) < (v : Int)))) = _
    rw [decide_eq_false (by omega)]
  have t3 : tOfD (bop gGt (cll (aCons (bop gIx (dVar 1) (dC (.int 1))) aNil) gLen) (dC (.int 200))) e0 = some false := by
    refine tOfD_of ?_
    show some (D.bl (decide ((200 : Int) < ((bs.map tI).length : Int)))) = _
    rw [List.length_map, decide_eq_false (by omega)]
  rw [sSeq_of (e := e0) (sIf_skip (tOrD_of t2 fun _ => t3))]
  rw [sSeq_of (e := le W lay [] none none none (.int v) (.int k) (.int l) (.tup (st.map tI)) none none) rfl]
  obtain ⟨blk', b', a', h1, h2⟩ := loop_m (W := W) (lay := lay) (l := .int l) (st := .tup (st.map tI)) (one := none) (pt := none) (v := v) (k := k) (by omega) h60 bs [] none none none (DOk.nil v) hok
  rw [sSeq_of ((sFor_of (ds := bs.map tI) rfl).trans h1)]
  have hmg : ∀ a b : Int, 0 ≤ a → a < b → b < (v : Int) → mg ((qsOf bs).foldl bump []) (a, b) = l := by
    intro a b g1 g2 g3
    rw [mg_bumps, cp3 a b bs fun m hm => inc_nodup (incB_ok (hok m hm).inc), hev a b g1 g2 g3]
    show (0 : Int) + _ = _
    omega
  generalize hM : (qsOf bs).foldl bump [] = M at hmg h2
  have ina : ∀ (xs : List Nat) (y : Nat) (a : Option D), y < v → (∀ x ∈ xs, x < y) → ∃ a', forD (setN 10) (sIf (tOfD (bop gNe (dGetOr 2 (dTup (aCons (dVar 10) (aCons (dVar 4) aNil))) (dC (.int 0))) (dVar 8))) (sRet (dC (.bl false))) sNil) (xs.map fun (i : Nat) => D.int (i : Int)) (le W lay M blk' (some (.int y)) none (.int v) (.int k) (.int l) (.tup (st.map tI)) a none) = some (.nx (le W lay M blk' (some (.int y)) none (.int v) (.int k) (.int l) (.tup (st.map tI)) a' none)) := by
    intro xs
    induction xs with
    | nil => exact fun y a _ _ => ⟨a, rfl⟩
    | cons x xs ih =>
      intro y a hy hx
      obtain ⟨a', h⟩ := ih y (some (.int x)) hy fun z hz => hx z (List.mem_cons_of_mem _ hz)
      have hxy := hx x (List.mem_cons_self ..)
      refine ⟨a', ?_⟩
      have tt : tOfD (bop gNe (dGetOr 2 (dTup (aCons (dVar 10) (aCons (dVar 4) aNil))) (dC (.int 0))) (dVar 8)) (le W lay M blk' (some (.int y)) none (.int v) (.int k) (.int l) (.tup (st.map tI)) (some (.int x)) none) = some false := by
        refine tOfD_of ((bop_of (x := .int (mg M ((x : Int), (y : Int)))) (y := .int l) rfl rfl).trans ((gNe_int _ _).trans ?_))
        rw [hmg x y (by omega) (by omega) (by omega)]
        simp
      show bnd (sIf _ _ _ (le W lay M blk' (some (.int y)) none (.int v) (.int k) (.int l) (.tup (st.map tI)) (some (.int x)) none)) _ = _
      rw [sIf_skip tt]
      exact h
  have inb : ∀ (ys : List Nat) (b a : Option D), (∀ y ∈ ys, y < v) → ∃ b'' a'', forD (setN 4) (sFor (iRg1 (aCons (dVar 4) aNil)) (setN 10) (sIf (tOfD (bop gNe (dGetOr 2 (dTup (aCons (dVar 10) (aCons (dVar 4) aNil))) (dC (.int 0))) (dVar 8))) (sRet (dC (.bl false))) sNil)) (ys.map fun (i : Nat) => D.int (i : Int)) (le W lay M blk' b none (.int v) (.int k) (.int l) (.tup (st.map tI)) a none) = some (.nx (le W lay M blk' b'' none (.int v) (.int k) (.int l) (.tup (st.map tI)) a'' none)) := by
    intro ys
    induction ys with
    | nil => exact fun b a _ => ⟨b, a, rfl⟩
    | cons y ys ih =>
      intro b a hy
      have hyv := hy y (List.mem_cons_self ..)
      obtain ⟨a1, g1⟩ := ina (List.range y) y a hyv fun x hx => List.mem_range.mp hx
      obtain ⟨b'', a'', g2⟩ := ih (some (.int y)) a1 fun z hz => hy z (List.mem_cons_of_mem _ hz)
      refine ⟨b'', a'', ?_⟩
      have ri := iRg1_of (fa := aCons (dVar 4) aNil) (env := le W lay M blk' (some (.int y)) none (.int v) (.int k) (.int l) (.tup (st.map tI)) a none) (j := (y : Int)) rfl (by omega) (by omega)
      rw [Int.toNat_natCast] at ri
      exact (forD_cons (e1 := le W lay M blk' (some (.int y)) none (.int v) (.int k) (.int l) (.tup (st.map tI)) a none) rfl ((sFor_of ri).trans g1)).trans g2
  obtain ⟨b2, a2, g2⟩ := inb (List.range v) b' a' fun y hy => List.mem_range.mp hy
  have ri := iRg1_of (fa := aCons (dVar 6) aNil) (env := le W lay M blk' b' none (.int v) (.int k) (.int l) (.tup (st.map tI)) a' none) (j := (v : Int)) rfl (by omega) (by omega)
  rw [Int.toNat_natCast] at ri
  rw [sSeq_of ((sFor_of ri).trans g2)]
  have ins : ∀ (ss : List (List Int)) (one : Option D), (∀ s ∈ ss, s ∈ st) → ∃ one', forD (setN 5) (sIf (tOfD (bop gGt (cll (aCons (fun env => bnd ((nLc [3] (iAny (dVar 9)) (setN 3) (tOfD (bop gEq (dVar 3) (dVar 5))) (dVar 3)) env) fun ds => some (.lst ds)) aNil) gLen) (cll (aCons (fun env => bnd ((nLc [3] (iAny (bop gIx (dVar 1) (dC (.int 1)))) (setN 3) (tOfD (bop gEq (dVar 3) (dVar 5))) (dVar 3)) env) fun ds => some (.lst ds)) aNil) gLen))) (sRet (dC (.bl false))) sNil) (ss.map tI) (le W lay M blk' b2 one (.int v) (.int k) (.int l) (.tup (st.map tI)) a2 none) = some (.nx (le W lay M blk' b2 one' (.int v) (.int k) (.int l) (.tup (st.map tI)) a2 none)) := by
    intro ss
    induction ss with
    | nil => exact fun one _ => ⟨one, rfl⟩
    | cons s ss ih =>
      intro one hs
      obtain ⟨one', g⟩ := ih (some (tI s)) fun z hz => hs z (List.mem_cons_of_mem _ hz)
      refine ⟨one', ?_⟩
      let E := le W lay M blk' b2 (some (tI s)) (.int v) (.int k) (.int l) (.tup (st.map tI)) a2 none
      have l1 : nLc [3] (iAny (dVar 9)) (setN 3) (tOfD (bop gEq (dVar 3) (dVar 5))) (dVar 3) E = some ((st.filter fun m => decide (m = s)).map tI) :=
        nLc_of tI _ tI rfl (by omega) fun m _ => ⟨_, rfl, tOfD_of ((bop_of (x := tI m) (y := tI s) rfl rfl).trans (gEq_eqD (eqD_tI m s))), fun _ => rfl⟩
      have l2 : nLc [3] (iAny (bop gIx (dVar 1) (dC (.int 1)))) (setN 3) (tOfD (bop gEq (dVar 3) (dVar 5))) (dVar 3) E = some ((bs.filter fun m => decide (m = s)).map tI) :=
        nLc_of tI _ tI rfl (by omega) fun m _ => ⟨_, rfl, tOfD_of ((bop_of (x := tI m) (y := tI s) rfl rfl).trans (gEq_eqD (eqD_tI m s))), fun _ => rfl⟩
      have tt : tOfD (bop gGt (cll (aCons (fun env => bnd ((nLc [3] (iAny (dVar 9)) (setN 3) (tOfD (bop gEq (dVar 3) (dVar 5))) (dVar 3)) env) fun ds => some (.lst ds)) aNil) gLen) (cll (aCons (fun env => bnd ((nLc [3] (iAny (bop gIx (dVar 1) (dC (.int 1)))) (setN 3) (tOfD (bop gEq (dVar 3) (dVar 5))) (dVar 3)) env) fun ds => some (.lst ds)) aNil) gLen)) E = some false := by
        refine tOfD_of ((bop_of ((cll1 (lstF l1)).trans (gLen_lst _)) ((cll1 (lstF l2)).trans (gLen_lst _))).trans ?_)
        show some (D.bl (decide (((((bs.filter fun m => decide (m = s)).map tI).length : Nat) : Int) < ((((st.filter fun m => decide (m = s)).map tI).length : Nat) : Int)))) = _
        rw [List.length_map, List.length_map, decide_eq_false (by have := hbeg s (hs s (List.mem_cons_self ..)); omega)]
      show bnd (sIf _ _ _ E) _ = _
      rw [sIf_skip tt]
      exact g
  obtain ⟨one', g3⟩ := ins st none fun _ h => h
  rw [sSeq_of ((sFor_of (ds := st.map tI) rfl).trans g3)]
  rfl
end EM
set_option maxHeartbeats 1000000
namespace EM
open PySem PySem.Spec PyProof.Rows L2
/-! all sets -/
def S : List Int → Nat → List (List Int)
  | _, 0 => [[]]
  | [], _ + 1 => []
  | p :: ps, n + 1 => (S ps n).map (p :: ·) ++ S ps (n + 1)
theorem S_zero (ps : List Int) : S ps 0 = [[]] := by cases ps <;> rfl
def ch : Nat → Nat → Nat
  | _, 0 => 1
  | 0, _ + 1 => 0
  | n + 1, k + 1 => ch n k + ch n (k + 1)
theorem ch_zero (n : Nat) : ch n 0 = 1 := by cases n <;> rfl
theorem S_len : ∀ (ps : List Int) (n : Nat), (S ps n).length = ch ps.length n
  | ps, 0 => by rw [S_zero, ch_zero]; rfl
  | [], n + 1 => rfl
  | p :: ps, n + 1 => by
    show ((S ps n).map (p :: ·) ++ S ps (n + 1)).length = ch ps.length n + ch ps.length (n + 1)
    rw [List.length_append, List.length_map, S_len ps n, S_len ps (n + 1)]
theorem ch_lt : ∀ {n k : Nat}, n < k → ch n k = 0
  | 0, k + 1, _ => rfl
  | n + 1, k + 1, h => by
    show ch n k + ch n (k + 1) = 0
    rw [ch_lt (n := n) (k := k) (by omega), ch_lt (n := n) (k := k + 1) (by omega)]
theorem ch_pos : ∀ {n k : Nat}, k ≤ n → 0 < ch n k
  | n, 0, _ => by rw [ch_zero]; exact Nat.one_pos
  | n + 1, k + 1, h => by
    show 0 < ch n k + ch n (k + 1)
    have := ch_pos (n := n) (k := k) (by omega)
    omega
/-- ch n (k+1) (k+1) = ch n k (n-k) -/
theorem ch_step : ∀ (n k : Nat), ch n (k + 1) * (k + 1) = ch n k * (n - k)
  | 0, 0 => rfl
  | 0, k + 1 => by
    show 0 * (k + 1 + 1) = 0 * _
    simp
  | n + 1, 0 => by
    have h : ch n 1 = n := by
      have h := ch_step n 0
      rw [ch_zero] at h
      simpa using h
    show (ch n 0 + ch n 1) * 1 = ch (n + 1) 0 * (n + 1 - 0)
    rw [ch_zero, ch_zero, h]
    omega
  | n + 1, k + 1 => by
    show (ch n (k + 1) + ch n (k + 1 + 1)) * (k + 1 + 1) = (ch n k + ch n (k + 1)) * (n + 1 - (k + 1))
    have h1 := ch_step n k
    have h2 := ch_step n (k + 1)
    by_cases hk : k + 1 ≤ n
    · rw [Nat.add_mul, h2, Nat.add_mul, show n + 1 - (k + 1) = n - k by omega, ← h1]
      have e : n - k = (n - (k + 1)) + 1 := by omega
      rw [e, Nat.mul_add (ch n (k + 1)) (k + 1) 1, Nat.mul_add (ch n (k + 1)) (n - (k + 1)) 1]
      omega
    · by_cases hk2 : k = n
      · subst hk2
        rw [ch_lt (n := k) (k := k + 1) (by omega), ch_lt (n := k) (k := k + 1 + 1) (by omega)]
        simp
      · rw [ch_lt (n := n) (k := k + 1) (by omega), ch_lt (n := n) (k := k + 1 + 1) (by omega), ch_lt (n := n) (k := k) (by omega)]
        simp
/-- ch (n+1) (k+1) (k+1) = (n+1) ch n k -/
theorem ch_head : ∀ (n k : Nat), ch (n + 1) (k + 1) * (k + 1) = (n + 1) * ch n k := by
  intro n k
  by_cases hk : k ≤ n
  · show (ch n k + ch n (k + 1)) * (k + 1) = _
    rw [Nat.add_mul, ch_step n k, ← Nat.mul_add, show k + 1 + (n - k) = n + 1 by omega, Nat.mul_comm]
  · rw [ch_lt (n := n + 1) (k := k + 1) (by omega), ch_lt (n := n) (k := k) (by omega)]
    simp
theorem S_sub : ∀ {ps : List Int} {n : Nat} {m : List Int}, m ∈ S ps n → m.Sublist ps ∧ m.length = n
  | ps, 0, m, h => by
    rw [S_zero, List.mem_singleton] at h
    subst h
    exact ⟨List.nil_sublist _, rfl⟩
  | [], n + 1, m, h => by cases h
  | p :: ps, n + 1, m, h => by
    rcases List.mem_append.mp h with h | h
    · obtain ⟨m', h1, rfl⟩ := List.mem_map.mp h
      obtain ⟨h2, h3⟩ := S_sub h1
      exact ⟨h2.cons_cons p, by rw [List.length_cons, h3]⟩
    · obtain ⟨h2, h3⟩ := S_sub h
      exact ⟨h2.cons p, h3⟩
def cnt1 (bs : List (List Int)) (a : Int) : Nat := (bs.filter fun m => memI a m).length
theorem cnt1_app (xs ys : List (List Int)) (a : Int) : cnt1 (xs ++ ys) a = cnt1 xs a + cnt1 ys a := by
  unfold cnt1
  rw [List.filter_append, List.length_append]
theorem cnt2_app (xs ys : List (List Int)) (a b : Int) : cnt2 (xs ++ ys) a b = cnt2 xs a b + cnt2 ys a b := by
  unfold cnt2
  rw [List.filter_append, List.length_append]
theorem memI_cons (a p : Int) (m : List Int) : memI a (p :: m) = (a == p || memI a m) := rfl
theorem cnt1_cons_self (p : Int) : ∀ xs : List (List Int), cnt1 (xs.map (p :: ·)) p = xs.length
  | [] => rfl
  | x :: xs => by
    have ih := cnt1_cons_self p xs
    unfold cnt1 at ih ⊢
    rw [List.map_cons, List.filter_cons_of_pos (by rw [memI_cons]; simp), List.length_cons, ih, List.length_cons]
theorem cnt1_cons_ne {p a : Int} (h : a ≠ p) : ∀ xs : List (List Int), cnt1 (xs.map (p :: ·)) a = cnt1 xs a
  | [] => rfl
  | x :: xs => by
    have ih := cnt1_cons_ne h xs
    unfold cnt1 at ih ⊢
    have e : memI a (p :: x) = memI a x := by
      rw [memI_cons, beq_eq_false_iff_ne.mpr h, Bool.false_or]
    rw [List.map_cons, List.filter_cons, List.filter_cons, e]
    split
    · rw [List.length_cons, List.length_cons, ih]
    · exact ih
theorem cnt2_cons_self {p b : Int} (h : b ≠ p) : ∀ xs : List (List Int), cnt2 (xs.map (p :: ·)) p b = cnt1 xs b
  | [] => rfl
  | x :: xs => by
    have ih := cnt2_cons_self h xs
    unfold cnt2 at ih ⊢
    unfold cnt1 at ih ⊢
    have e : (memI p (p :: x) && memI b (p :: x)) = memI b x := by
      rw [memI_cons, memI_cons, beq_self_eq_true, beq_eq_false_iff_ne.mpr h]
      simp
    rw [List.map_cons, List.filter_cons, List.filter_cons, e]
    split
    · rw [List.length_cons, List.length_cons, ih]
    · exact ih
theorem cnt2_cons_ne {p a b : Int} (h : a ≠ p) (h2 : b ≠ p) : ∀ xs : List (List Int), cnt2 (xs.map (p :: ·)) a b = cnt2 xs a b
  | [] => rfl
  | x :: xs => by
    have ih := cnt2_cons_ne h h2 xs
    unfold cnt2 at ih ⊢
    have e : (memI a (p :: x) && memI b (p :: x)) = (memI a x && memI b x) := by
      rw [memI_cons, memI_cons, beq_eq_false_iff_ne.mpr h, beq_eq_false_iff_ne.mpr h2]
      simp
    rw [List.map_cons, List.filter_cons, List.filter_cons, e]
    split
    · rw [List.length_cons, List.length_cons, ih]
    · exact ih
theorem cnt2_comm (bs : List (List Int)) (a b : Int) : cnt2 bs a b = cnt2 bs b a := by
  unfold cnt2
  congr 2
  funext m
  rw [Bool.and_comm]
theorem cnt1_out {ps : List Int} {n : Nat} {a : Int} (h : a ∉ ps) : cnt1 (S ps n) a = 0 := by
  unfold cnt1
  rw [List.length_eq_zero_iff, List.filter_eq_nil_iff]
  intro m hm
  rw [memI_mem]
  exact fun z => h ((S_sub hm).1.subset z)
theorem cnt2_out {ps : List Int} {n : Nat} {a b : Int} (h : a ∉ ps) : cnt2 (S ps n) a b = 0 := by
  unfold cnt2
  rw [List.length_eq_zero_iff, List.filter_eq_nil_iff]
  intro m hm
  rw [Bool.and_eq_true, memI_mem]
  exact fun z => h ((S_sub hm).1.subset z.1)
theorem cnt1_S : ∀ (ps : List Int) (n : Nat) (a : Int), ps.Nodup → a ∈ ps → cnt1 (S ps (n + 1)) a = ch (ps.length - 1) n
  | [], n, a, _, h => by simp at h
  | p :: ps, n, a, hn, h => by
    obtain ⟨h1, h2⟩ := List.nodup_cons.mp hn
    show cnt1 ((S ps n).map (p :: ·) ++ S ps (n + 1)) a = ch ps.length n
    rw [cnt1_app]
    by_cases e : a = p
    · subst e
      rw [cnt1_cons_self, S_len, cnt1_out h1]
      rfl
    · have ha : a ∈ ps := (List.mem_cons.mp h).resolve_left e
      rw [cnt1_cons_ne e, cnt1_S ps n a h2 ha]
      have hl : 0 < ps.length := List.length_pos_of_mem ha
      cases n with
      | zero =>
        rw [S_zero, ch_zero, ch_zero]
        rfl
      | succ n =>
        rw [cnt1_S ps n a h2 ha]
        obtain ⟨q, hq⟩ : ∃ q, ps.length = q + 1 := ⟨ps.length - 1, by omega⟩
        rw [hq]
        rfl
theorem cnt2_S : ∀ (ps : List Int) (n : Nat) (a b : Int), ps.Nodup → a ∈ ps → b ∈ ps → a ≠ b → cnt2 (S ps (n + 2)) a b = ch (ps.length - 2) n
  | [], n, a, b, _, h, _, _ => by simp at h
  | p :: ps, n, a, b, hn, ha, hb, hab => by
    obtain ⟨h1, h2⟩ := List.nodup_cons.mp hn
    show cnt2 ((S ps (n + 1)).map (p :: ·) ++ S ps (n + 2)) a b = ch (ps.length + 1 - 2) n
    rw [cnt2_app, show ps.length + 1 - 2 = ps.length - 1 by omega]
    by_cases e : a = p
    · subst e
      have hb' : b ∈ ps := (List.mem_cons.mp hb).resolve_left fun z => hab z.symm
      rw [cnt2_cons_self (fun z => hab z.symm), cnt2_out h1, cnt1_S ps n b h2 hb']
      rfl
    · by_cases e2 : b = p
      · subst e2
        have ha' : a ∈ ps := (List.mem_cons.mp ha).resolve_left e
        rw [cnt2_comm, cnt2_cons_self e, cnt2_comm, cnt2_out h1, cnt1_S ps n a h2 ha']
        rfl
      · have ha' : a ∈ ps := (List.mem_cons.mp ha).resolve_left e
        have hb' : b ∈ ps := (List.mem_cons.mp hb).resolve_left e2
        have hl : 2 ≤ ps.length := by
          have := nodup_len (l := [a, b]) (L := ps) (by simp [hab]) (by simp [ha', hb'])
          exact this
        rw [cnt2_cons_ne e e2, cnt2_S ps n a b h2 ha' hb' hab]
        obtain ⟨q, hq⟩ : ∃ q, ps.length = q + 2 := ⟨ps.length - 2, by omega⟩
        cases n with
        | zero =>
          have z : cnt2 (S ps 1) a b = 0 := by
            unfold cnt2
            rw [List.length_eq_zero_iff, List.filter_eq_nil_iff]
            intro m hm
            rw [Bool.and_eq_true, memI_mem, memI_mem]
            rintro ⟨z1, z2⟩
            have := nodup_len (l := [a, b]) (L := m) (by simp [hab]) (by simp [z1, z2])
            rw [(S_sub hm).2] at this
            simp at this
          rw [z, ch_zero, ch_zero]
        | succ n =>
          rw [cnt2_S ps n a b h2 ha' hb' hab, hq]
          rfl
/-! several times over -/
def times (m : Nat) (bs : List (List Int)) : List (List Int) := (List.replicate m bs).flatten
theorem times_len (bs : List (List Int)) : ∀ m : Nat, (times m bs).length = m * bs.length
  | 0 => by simp [times]
  | m + 1 => by
    have ih := times_len bs m
    unfold times at ih ⊢
    rw [List.replicate_succ, List.flatten_cons, List.length_append, ih, Nat.add_mul]
    omega
theorem times_mem {m : Nat} {bs : List (List Int)} {x : List Int} (h : x ∈ times m bs) : x ∈ bs := by
  unfold times at h
  obtain ⟨l, h1, h2⟩ := List.mem_flatten.mp h
  rw [(List.mem_replicate.mp h1).2] at h2
  exact h2
theorem times_cnt (a b : Int) (bs : List (List Int)) : ∀ m : Nat, cnt2 (times m bs) a b = m * cnt2 bs a b
  | 0 => by simp [times, cnt2]
  | m + 1 => by
    have ih := times_cnt a b bs m
    unfold times at ih ⊢
    rw [List.replicate_succ, List.flatten_cons, cnt2_app, ih, Nat.add_mul]
    omega
end EM
set_option maxHeartbeats 1000000
namespace EM
open PySem PySem.Spec PyProof.Rows L2
theorem S_short {ps : List Int} {n : Nat} (h : ps.length < n) : S ps n = [] := by
  have := S_len ps n
  rw [ch_lt h] at this
  exact List.length_eq_zero_iff.mp this
def rowS (ps : List Int) (n at_ : Nat) : List (List Int) := (S (ps.drop (at_ + 1)) n).map (ps.getD at_ 0 :: ·)
theorem S_rows : ∀ (ps : List Int) (n : Nat), (List.range (ps.length - n)).flatMap (rowS ps n) = S ps (n + 1)
  | [], n => by simp [S]
  | p :: ps, n => by
    by_cases h : n ≤ ps.length
    · have e : (p :: ps).length - n = (ps.length - n) + 1 := by rw [List.length_cons]; omega
      rw [e, List.range_succ_eq_map, List.flatMap_cons, List.flatMap_map]
      have ih := S_rows ps n
      show rowS (p :: ps) n 0 ++ (List.range (ps.length - n)).flatMap (fun i => rowS (p :: ps) n (i + 1)) = (S ps n).map (p :: ·) ++ S ps (n + 1)
      rw [← ih]
      congr 1
    · have e : (p :: ps).length - n = 0 := by rw [List.length_cons]; omega
      rw [e, S_short (by rw [List.length_cons]; omega)]
      rfl
theorem cut_drop (ds : List D) (j : Nat) : cutD ds (some (j : Int)) none = ds.drop j := by
  unfold cutD
  rw [HT.sIx_nat, HT.sIx_none]
  rw [List.take_of_length_le (by rw [List.length_drop]; exact Nat.le_refl _)]
  rcases Nat.lt_or_ge j ds.length with h | h
  · rw [Nat.min_eq_left (by omega)]
  · rw [Nat.min_eq_right h, List.drop_length, List.drop_of_length_le h]
theorem gAdd_tup (x : Int) (m : List Int) (h : m.length < 1000) : gAdd (.tup [.int x]) (tI m) = some (tI (x :: m)) := by
  show orD (iop0 fun i j => i + j) (orD gCatT gCatL) (.tup [.int x]) (.tup (m.map D.int)) = _
  have : gCatT (.tup [.int x]) (.tup (m.map D.int)) = some (.tup (.int x :: m.map D.int)) := by
    unfold gCatT
    simp only [List.length_map, List.length_cons, List.length_nil, List.cons_append, List.nil_append]
    rw [if_pos (by omega)]
  unfold orD
  simp only [iop0]
  rw [this]
  rfl
theorem gIx_int {ps : List Int} {j : Nat} (h : j < ps.length) : gIx (.lst (ps.map D.int)) (.int j) = some (.int (ps.getD j 0)) := by
  show bnd (some (ps.map D.int)) (fun ds => L2.atI ds (j : Int)) = _
  show L2.atI (ps.map D.int) (j : Int) = _
  unfold L2.atI L2.ixN
  rw [List.length_map, if_pos (by omega), if_pos (by omega), Int.toNat_natCast]
  simp [List.getElem?_eq_getElem h]
theorem sets_eq : ∀ (f : Nat) (ps : List Int) (n : Nat), n < f → f ≤ 900 → ps.length ≤ 1000 → (S ps n).length ≤ 99999 → d_sets_of_building f [.lst (ps.map D.int), .int n] = some (.lst ((S ps n).map tI))
  | 0, _, _, h, _, _, _ => absurd h (Nat.not_lt_zero _)
  | f + 1, ps, 0, _, _, _, _ => by
    rw [S_zero]
    rfl
  | f + 1, ps, n + 1, hf, h900, hps, hS => by
    have IH := sets_eq f
    show runD 2 5 (g_sets_of_building (d_sets_of_building f)) [.lst (ps.map D.int), .int ((n + 1 : Nat) : Int)] = _
    refine (runD_at rfl).trans ?_
    unfold g_sets_of_building
    let E : List (List Int) → Option EV → Option EV → Env := fun acc j3 j4 => [some (.fz (.lst (ps.map D.int))), some (.fz (.int ((n + 1 : Nat) : Int))), some (.own (acc.map tI)), j3, j4]
    let e0 : Env := [some (.fz (.lst (ps.map D.int))), some (.fz (.int ((n + 1 : Nat) : Int))), none, none, none]
    show outD (sSeq _ _ e0) = _
    have t1 : tOfD (bop gEq (dVar 1) (dC (.int 0))) e0 = some false := by
      refine tOfD_of ((bop_of (x := .int ((n + 1 : Nat) : Int)) (y := .int 0) rfl rfl).trans ((gEq_int _ _).trans ?_))
      rw [beq_eq_false_iff_ne.mpr (by omega)]
    rw [sSeq_of (sIf_skip t1), sSeq_of (e := E [] none none) rfl]
    have tot : ((List.range (ps.length - n)).flatMap (rowS ps n)).length ≤ 99999 := by rw [S_rows]; exact hS
    have inner : ∀ (a : Nat) (rs acc : List (List Int)) (j4 : Option EV), a < ps.length → (∀ r ∈ rs, r.length < 1000) → acc.length + rs.length ≤ 100000 → ∃ j4', forD (setN 4) (sApp 2 (bop gAdd (dTup (aCons (bop gIx (dVar 0) (dVar 3)) aNil)) (dVar 4))) (rs.map tI) (E acc (some (.fz (.int (a : Int)))) j4) = some (.nx (E (acc ++ rs.map (ps.getD a 0 :: ·)) (some (.fz (.int (a : Int)))) j4')) := by
      intro a rs
      induction rs with
      | nil =>
        intro acc j4 _ _ _
        refine ⟨j4, ?_⟩
        rw [List.map_nil, List.map_nil, List.append_nil]
        rfl
      | cons r rs ih =>
        intro acc j4 ha hr hl
        rw [List.length_cons] at hl
        obtain ⟨j4', h⟩ := ih (acc ++ [ps.getD a 0 :: r]) (some (.fz (tI r))) ha (fun x hx => hr x (List.mem_cons_of_mem _ hx)) (by rw [List.length_append]; simp; omega)
        refine ⟨j4', ?_⟩
        have v1 : bop gAdd (dTup (aCons (bop gIx (dVar 0) (dVar 3)) aNil)) (dVar 4) (E acc (some (.fz (.int (a : Int)))) (some (.fz (tI r)))) = some (tI (ps.getD a 0 :: r)) := by
          have v0 : dTup (aCons (bop gIx (dVar 0) (dVar 3)) aNil) (E acc (some (.fz (.int (a : Int)))) (some (.fz (tI r)))) = some (.tup [.int (ps.getD a 0)]) := by
            unfold dTup
            rw [aCons1 ((bop_of (x := .lst (ps.map D.int)) (y := .int (a : Int)) rfl rfl).trans (gIx_int ha))]
            rfl
          exact (bop_of v0 rfl).trans (gAdd_tup _ _ (hr r (List.mem_cons_self ..)))
        have ap := sApp_of (i := 2) (ds := acc.map tI) v1 rfl (by rw [List.length_map]; omega)
        rw [List.map_cons]
        refine (forD_cons (e1 := E acc (some (.fz (.int (a : Int)))) (some (.fz (tI r)))) rfl ap).trans ?_
        have ee : (E acc (some (.fz (.int (a : Int)))) (some (.fz (tI r)))).set 2 (some (.own (acc.map tI ++ [tI (ps.getD a 0 :: r)]))) = E (acc ++ [ps.getD a 0 :: r]) (some (.fz (.int (a : Int)))) (some (.fz (tI r))) := by
          show [_, _, some (EV.own (acc.map tI ++ [tI (ps.getD a 0 :: r)])), _, _] = [_, _, some (EV.own ((acc ++ [ps.getD a 0 :: r]).map tI)), _, _]
          rw [List.map_append]
          rfl
        rw [ee, h, List.map_cons, List.append_assoc]
        rfl
    have outer : ∀ (xs : List Nat) (acc : List (List Int)) (j3 j4 : Option EV), (∀ a ∈ xs, a < ps.length) → (acc ++ xs.flatMap (rowS ps n)).length ≤ 99999 → ∃ j3' j4', forD (setN 3) (sFor (iAny (cll (aCons (dSl (dVar 0) (oSome (bop gAdd (dVar 3) (dC (.int 1)))) oNone) (aCons (bop gSub (dVar 1) (dC (.int 1))) aNil)) (d_sets_of_building f))) (setN 4) (sApp 2 (bop gAdd (dTup (aCons (bop gIx (dVar 0) (dVar 3)) aNil)) (dVar 4)))) (xs.map fun (i : Nat) => D.int (i : Int)) (E acc j3 j4) = some (.nx (E (acc ++ xs.flatMap (rowS ps n)) j3' j4')) := by
      intro xs
      induction xs with
      | nil =>
        intro acc j3 j4 _ _
        refine ⟨j3, j4, ?_⟩
        rw [List.flatMap_nil, List.append_nil]
        rfl
      | cons a xs ih =>
        intro acc j3 j4 ha hl
        rw [List.flatMap_cons, ← List.append_assoc] at hl
        have hla : acc.length + (rowS ps n a).length ≤ 99999 := by
          rw [List.length_append, List.length_append] at hl
          omega
        have haa := ha a (List.mem_cons_self ..)
        have hSa : (S (ps.drop (a + 1)) n).length ≤ 99999 := by
          unfold rowS at hla
          rw [List.length_map] at hla
          omega
        obtain ⟨j4', g1⟩ := inner a (S (ps.drop (a + 1)) n) acc j4 haa (fun r hr => by rw [(S_sub hr).2]; omega) (by
          unfold rowS at hla
          rw [List.length_map] at hla
          omega)
        obtain ⟨j3', j4'', g2⟩ := ih (acc ++ rowS ps n a) (some (.fz (.int (a : Int)))) j4' (fun x hx => ha x (List.mem_cons_of_mem _ hx)) hl
        refine ⟨j3', j4'', ?_⟩
        have sl : dSl (dVar 0) (oSome (bop gAdd (dVar 3) (dC (.int 1)))) oNone (E acc (some (.fz (.int (a : Int)))) j4) = some (.lst ((ps.drop (a + 1)).map D.int)) := by
          show (match (none : Option D) with
            | some d => some d
            | none => bnd (some (cutD (ps.map D.int) (some ((a : Int) + 1)) none)) fun ds => some (.lst ds)) = _
          rw [show ((a : Int) + 1) = ((a + 1 : Nat) : Int) by omega, cut_drop, List.map_drop]
          rfl
        have mn : bop gSub (dVar 1) (dC (.int 1)) (E acc (some (.fz (.int (a : Int)))) j4) = some (.int (n : Nat)) := by
          show some (D.int (((n + 1 : Nat) : Int) - 1)) = _
          congr 2
          omega
        have it : iAny (cll (aCons (dSl (dVar 0) (oSome (bop gAdd (dVar 3) (dC (.int 1)))) oNone) (aCons (bop gSub (dVar 1) (dC (.int 1))) aNil)) (d_sets_of_building f)) (E acc (some (.fz (.int (a : Int)))) j4) = some ((S (ps.drop (a + 1)) n).map tI) := by
          unfold iAny
          rw [(cll2 sl mn).trans (IH (ps.drop (a + 1)) n (by omega) (by omega) (by rw [List.length_drop]; omega) hSa)]
          rfl
        rw [List.map_cons]
        refine (forD_cons (e1 := E acc (some (.fz (.int (a : Int)))) j4) rfl ((sFor_of it).trans g1)).trans ?_
        rw [List.flatMap_cons, ← List.append_assoc]
        exact g2
    obtain ⟨j3, j4, g⟩ := outer (List.range (ps.length - n)) [] none none (fun a ha => by have := List.mem_range.mp ha; omega) (by rw [List.nil_append]; exact tot)
    have hr : iRg1 (aCons (bop gAdd (bop gSub (cll (aCons (dVar 0) aNil) gLen) (dVar 1)) (dC (.int 1))) aNil) (E [] none none) = some ((List.range (ps.length - n)).map fun (i : Nat) => D.int (i : Int)) := by
      have z := iRg1_of (fa := aCons (bop gAdd (bop gSub (cll (aCons (dVar 0) aNil) gLen) (dVar 1)) (dC (.int 1))) aNil) (env := E [] none none) (j := (((ps.map D.int).length : Nat) : Int) - ((n + 1 : Nat) : Int) + 1) rfl (by rw [List.length_map]; omega) (by rw [List.length_map]; omega)
      rw [z, List.length_map]
      have e : ((((ps.length : Nat) : Int) - ((n + 1 : Nat) : Int) + 1)).toNat = ps.length - n := by omega
      rw [e]
    rw [sSeq_of ((sFor_of hr).trans g), List.nil_append, S_rows]
    rfl
theorem ways_eq (n k : Nat) (hn : n ≤ 300) (hk : k ≤ n) : d_ways_of [.int n, .int k] = some (.int (ch n k : Nat)) := by
  unfold d_ways_of
  refine (runD_at rfl).trans ?_
  unfold g_ways_of
  let E : Int → Option EV → Env := fun x j => [some (.fz (.int n)), some (.fz (.int k)), some (.fz (.int x)), j]
  rw [sSeq_of (e := E 1 none) rfl]
  have lp : ∀ (d i : Nat) (j : Option EV), i + d = k → ∃ j', forD (setN 3) (sSet 2 (bop gDiv (bop gMul (dVar 2) (bop gSub (dVar 0) (dVar 3))) (bop gAdd (dVar 3) (dC (.int 1))))) ((List.range d).map fun (x : Nat) => D.int ((i : Int) + (x : Int))) (E (ch n i : Nat) j) = some (.nx (E (ch n k : Nat) j')) := by
    intro d
    induction d with
    | zero =>
      intro i j h
      have : i = k := by omega
      subst this
      exact ⟨j, rfl⟩
    | succ d ih =>
      intro i j h
      obtain ⟨j', g⟩ := ih (i + 1) (some (.fz (.int (i : Int)))) (by omega)
      refine ⟨j', ?_⟩
      have mu : bop gMul (dVar 2) (bop gSub (dVar 0) (dVar 3)) (E (ch n i : Nat) (some (.fz (.int (i : Int))))) = some (.int ((ch n i * (n - i) : Nat) : Int)) := by
        refine (bop_of (x := .int ((ch n i : Nat) : Int)) (y := .int ((n : Int) - (i : Int))) rfl rfl).trans ?_
        rw [gMul_of (by omega), Int.natCast_mul]
        congr 3
        omega
      have dv : bop gDiv (bop gMul (dVar 2) (bop gSub (dVar 0) (dVar 3))) (bop gAdd (dVar 3) (dC (.int 1))) (E (ch n i : Nat) (some (.fz (.int (i : Int))))) = some (.int ((ch n (i + 1) : Nat) : Int)) := by
        refine (bop_of (y := .int ((i + 1 : Nat) : Int)) mu rfl).trans ?_
        rw [gDiv_of (by omega) (by omega), fdiv_nat, ← ch_step, Nat.mul_div_cancel _ (by omega)]
      rw [List.range_succ_eq_map, List.map_cons, List.map_map]
      have e0 : ((i : Int) + ((0 : Nat) : Int)) = (i : Int) := by omega
      rw [e0]
      refine (forD_cons (e1 := E (ch n i : Nat) (some (.fz (.int (i : Int))))) rfl (sSet_of dv)).trans ?_
      have em : (List.range d).map ((fun (x : Nat) => D.int ((i : Int) + (x : Int))) ∘ Nat.succ) = (List.range d).map fun (x : Nat) => D.int (((i + 1 : Nat) : Int) + (x : Int)) := by
        apply List.map_congr_left
        intro x _
        show D.int ((i : Int) + ((x + 1 : Nat) : Int)) = _
        congr 1
        omega
      rw [em]
      exact g
  obtain ⟨j', g⟩ := lp k 0 none (by omega)
  have hr := iRg1_of (fa := aCons (dVar 1) aNil) (env := E 1 none) (j := (k : Int)) rfl (by omega) (by omega)
  rw [Int.toNat_natCast] at hr
  have em : (List.range k).map (fun (x : Nat) => D.int (((0 : Nat) : Int) + (x : Int))) = (List.range k).map fun (x : Nat) => D.int (x : Int) := by
    apply List.map_congr_left
    intro x _
    rw [show (((0 : Nat) : Int) + (x : Int)) = (x : Int) by omega]
  rw [em, ch_zero] at g
  rw [sSeq_of ((sFor_of hr).trans g)]
  rfl
end EM
set_option maxHeartbeats 1000000
namespace EM
open PySem PySem.Spec PyProof.Rows L2
/-! a layout looked at -/
def mask (m : List Int) : Nat := m.foldr (fun i acc => acc ||| 2 ^ i.toNat) 0
def cntM (ms : List Nat) (a b : Nat) : Nat := (ms.filter fun M => M.testBit a && M.testBit b).length
def layB (v : Nat) (d : D) : Bool := match d with
  | .tup [.int v', .tup ds] => decide (v' = (v : Int)) && (match tupsOf ds with
    | some (b0 :: bs) => ((b0 :: bs).all fun m => m.length == b0.length && (incB m && m.all fun x => decide (0 ≤ x) && decide (x < (v : Int)))) &&
      (decide (b0.length ≤ v) && decide ((b0 :: bs).length ≤ 1000) && (let ms := (b0 :: bs).map mask; let lam := cntM ms 0 1; decide ((b0 :: bs).length * (b0.length * (b0.length - 1)) = v * (v - 1) * lam) && (pairsN v).all fun q => cntM ms q.1.toNat q.2.toNat == lam))
    | _ => false)
  | _ => false
def namedB (v : Nat) : Bool := match d_named_layouts [.int v] with
  | some (.lst ds) => ds.all (layB v)
  | _ => false
end EM
set_option maxHeartbeats 1000000
namespace EM
open PySem PySem.Spec PyProof.Rows L2
theorem mask_bit : ∀ {m : List Int} {a : Nat}, (∀ x ∈ m, 0 ≤ x) → (mask m).testBit a = memI (a : Int) m
  | [], a, _ => by simp [mask, memI]
  | x :: m, a, h => by
    have ih := mask_bit (m := m) (a := a) fun y hy => h y (List.mem_cons_of_mem _ hy)
    have hx := h x (List.mem_cons_self ..)
    show (mask m ||| 2 ^ x.toNat).testBit a = _
    rw [Nat.testBit_or, ih, Nat.testBit_two_pow, memI_cons, Bool.or_comm]
    congr 1
    rw [Bool.eq_iff_iff]
    simp
    omega
theorem cntM_eq {bs : List (List Int)} (h : ∀ m ∈ bs, ∀ x ∈ m, 0 ≤ x) (a b : Nat) : cntM (bs.map mask) a b = cnt2 bs a b := by
  unfold cntM cnt2
  rw [List.filter_map, List.length_map]
  congr 1
  apply List.filter_congr
  intro m hm
  show ((mask m).testBit a && (mask m).testBit b) = _
  rw [mask_bit (h m hm), mask_bit (h m hm)]
/-- blocks all alike, each pair as often as each other -/
structure Lay (v k lam : Nat) (bs : List (List Int)) : Prop where
  kv : k ≤ v
  ne : bs ≠ []
  ok : ∀ m ∈ bs, BOk v k m
  even : ∀ a b : Int, 0 ≤ a → a < b → b < (v : Int) → cnt2 bs a b = lam
  cnt : bs.length * (k * (k - 1)) = v * (v - 1) * lam
theorem layB_ok {v : Nat} {d : D} (h : layB v d = true) : ∃ k lam bs, d = .tup [.int v, .tup (bs.map tI)] ∧ Lay v k lam bs ∧ (bs.headD []).length = k ∧ bs.length ≤ 1000 := by
  unfold layB at h
  split at h
  · rename_i v' ds
    rw [Bool.and_eq_true, decide_eq_true_eq] at h
    obtain ⟨h1, h2⟩ := h
    subst h1
    split at h2
    · rename_i b0 bs e
      rw [Bool.and_eq_true, Bool.and_eq_true, Bool.and_eq_true, decide_eq_true_eq, decide_eq_true_eq] at h2
      obtain ⟨h3, ⟨h4, h7⟩, h5⟩ := h2
      simp only [Bool.and_eq_true, decide_eq_true_eq] at h5
      obtain ⟨h6, h5⟩ := h5
      have ok : ∀ m ∈ b0 :: bs, BOk v b0.length m := fun m hm => by
        have z := List.all_eq_true.mp h3 m hm
        rw [Bool.and_eq_true, Bool.and_eq_true, beq_iff_eq] at z
        refine ⟨z.1, z.2.1, fun x hx => ?_⟩
        have y := List.all_eq_true.mp z.2.2 x hx
        rw [Bool.and_eq_true, decide_eq_true_eq, decide_eq_true_eq] at y
        exact y
      have pos : ∀ m ∈ b0 :: bs, ∀ x ∈ m, 0 ≤ x := fun m hm x hx => ((ok m hm).inn x hx).1
      have c01 : cntM ((b0 :: bs).map mask) 0 1 = cnt2 (b0 :: bs) 0 1 := cntM_eq pos 0 1
      refine ⟨b0.length, cnt2 (b0 :: bs) 0 1, b0 :: bs, by rw [of_tupsOf e], ⟨h4, by simp, ok, fun a b g1 g2 g3 => ?_, by rw [← c01]; exact h6⟩, rfl, h7⟩
      have z := List.all_eq_true.mp h5 (a, b) (mem_pairsN.mpr ⟨g1, g2, g3⟩)
      rw [beq_iff_eq] at z
      simp only at z
      rw [cntM_eq pos, cntM_eq pos] at z
      have ea : ((a.toNat : Nat) : Int) = a := by omega
      have eb : ((b.toNat : Nat) : Int) = b := by omega
      rw [ea, eb] at z
      exact z
    · cases h2
  · cases h
theorem Lay.times {v k lam : Nat} {bs : List (List Int)} (L : Lay v k lam bs) {m l : Nat} (hl : m * lam = l) (h60 : v ≤ 60) (h200 : m * bs.length ≤ 200) : Design v k l [] (times m bs) :=
  ⟨h60, L.kv, by rw [times_len]; exact h200, fun x hx => L.ok x (times_mem hx), fun a b g1 g2 g3 => by rw [times_cnt, L.even a b g1 g2 g3, hl], by simp, fun s hs => by cases hs⟩
theorem gMulT_of {bs : List (List Int)} {m : Nat} (h1 : 1 ≤ m) (h2 : m ≤ 1000) (h3 : bs.length ≤ 1000) (h4 : bs ≠ []) : gMulT (.tup (bs.map tI)) (.int m) = some (.tup ((times m bs).map tI)) := by
  by_cases c : m = 1
  · subst c
    have e : times 1 bs = bs := by simp [times]
    rw [e]
    have hr : gRepT (.tup (bs.map tI)) (.int ((1 : Nat) : Int)) = none := by
      unfold gRepT
      show (if (bs.map tI).length ≤ 1000 ∧ (bs.map tI).length ≠ 0 ∧ (2 : Int) ≤ ((1 : Nat) : Int) ∧ ((1 : Nat) : Int) ≤ 1000 then _ else none) = none
      rw [if_neg fun z => by have := z.2.2.1; omega]
    have : gMul (.tup (bs.map tI)) (.int ((1 : Nat) : Int)) = none := by
      unfold gMul orD
      simp only [iop, gRepL]
      rw [hr]
    unfold gMulT orD
    rw [this]
    rfl
  · have hr : gRepT (.tup (bs.map tI)) (.int m) = some (.tup ((times m bs).map tI)) := by
      have hne : bs.length ≠ 0 := fun z => h4 (List.length_eq_zero_iff.mp z)
      unfold gRepT
      show (if (bs.map tI).length ≤ 1000 ∧ (bs.map tI).length ≠ 0 ∧ (2 : Int) ≤ (m : Int) ∧ (m : Int) ≤ 1000 then some (D.tup (List.replicate (m : Int).toNat (bs.map tI)).flatten) else none) = _
      rw [if_pos ⟨by rw [List.length_map]; exact h3, by rw [List.length_map]; exact hne, by omega, by omega⟩, Int.toNat_natCast]
      unfold times
      rw [List.map_flatten, List.map_replicate]
    unfold gMulT orD
    have : gMul (.tup (bs.map tI)) (.int m) = some (.tup ((times m bs).map tI)) := by
      unfold gMul orD
      simp only [iop, gRepL]
      rw [hr]
    rw [this]
/-- incB from order -/
theorem incB_of : ∀ {m : List Int}, m.Pairwise (· < ·) → incB m = true
  | [], _ => rfl
  | [_], _ => rfl
  | a :: b :: r, h => by
    obtain ⟨h1, h2⟩ := List.pairwise_cons.mp h
    show (decide (a < b) && incB (b :: r)) = true
    rw [decide_eq_true (h1 b (List.mem_cons_self ..)), incB_of h2]
    rfl
def rangeI (v : Nat) : List Int := (List.range v).map fun (i : Nat) => (i : Int)
theorem mem_rangeI {v : Nat} {x : Int} : x ∈ rangeI v ↔ 0 ≤ x ∧ x < (v : Int) := by
  unfold rangeI
  rw [List.mem_map]
  constructor
  · rintro ⟨i, h, rfl⟩
    have := List.mem_range.mp h
    omega
  · intro h
    exact ⟨x.toNat, List.mem_range.mpr (by omega), by omega⟩
theorem rangeI_inc (v : Nat) : (rangeI v).Pairwise (· < ·) := by
  unfold rangeI
  rw [List.pairwise_map]
  exact List.pairwise_lt_range.imp fun h => by omega
theorem len_rangeI (v : Nat) : (rangeI v).length = v := by simp [rangeI]
theorem S_bok {v k : Nat} {m : List Int} (h : m ∈ S (rangeI v) k) : BOk v k m := by
  obtain ⟨h1, h2⟩ := S_sub h
  exact ⟨h2, incB_of ((rangeI_inc v).sublist h1), fun x hx => mem_rangeI.mp (h1.subset hx)⟩
theorem ch_two {v k : Nat} (h2 : 2 ≤ k) (hk : k ≤ v) : ch v k * (k * (k - 1)) = v * (v - 1) * ch (v - 2) (k - 2) := by
  obtain ⟨n, rfl⟩ : ∃ n, k = n + 2 := ⟨k - 2, by omega⟩
  obtain ⟨u, rfl⟩ : ∃ u, v = u + 2 := ⟨v - 2, by omega⟩
  have a := ch_head (u + 1) (n + 1)
  have b := ch_head u n
  show ch (u + 2) (n + 2) * ((n + 2) * (n + 1)) = (u + 2) * (u + 1) * ch u n
  calc ch (u + 2) (n + 2) * ((n + 2) * (n + 1)) = ch (u + 1 + 1) (n + 1 + 1) * (n + 1 + 1) * (n + 1) := (Nat.mul_assoc ..).symm
    _ = (u + 2) * (ch (u + 1) (n + 1) * (n + 1)) := by rw [a, Nat.mul_assoc]
    _ = (u + 2) * ((u + 1) * ch u n) := by rw [b]
    _ = (u + 2) * (u + 1) * ch u n := (Nat.mul_assoc ..).symm
theorem S_lay {v k : Nat} (h2 : 2 ≤ k) (hk : k ≤ v) : Lay v k (ch (v - 2) (k - 2)) (S (rangeI v) k) := by
  refine ⟨hk, fun z => ?_, fun m hm => S_bok hm, fun a b g1 g2 g3 => ?_, by rw [S_len, len_rangeI]; exact ch_two h2 hk⟩
  · have := S_len (rangeI v) k
    rw [z, len_rangeI] at this
    have := ch_pos hk
    simp at *
    omega
  · obtain ⟨n, rfl⟩ : ∃ n, k = n + 2 := ⟨k - 2, by omega⟩
    rw [cnt2_S (rangeI v) n a b (inc_nodup (rangeI_inc v)) (mem_rangeI.mpr ⟨g1, by omega⟩) (mem_rangeI.mpr ⟨by omega, g3⟩) (by omega), len_rangeI]
    rfl
theorem shN_eq {v k l r b : Nat} (w : WOk v k l) (h : shN v k l = some (r, b)) : b * (k * (k - 1)) = l * (v * (v - 1)) := by
  unfold shN at h
  obtain ⟨h1, h2, h3, h4, h5, h6⟩ := w
  split at h
  · rename_i c1
    split at h
    · rename_i c2
      simp only [Option.some.injEq, Prod.mk.injEq] at h
      obtain ⟨e1, e2⟩ := h
      rw [e1] at c2 e2
      have a1 : r * (k - 1) = l * (v - 1) := by
        have := Nat.div_add_mod (l * (v - 1)) (k - 1)
        rw [c1, e1] at this
        rw [Nat.mul_comm r]
        omega
      have a2 : b * k = v * r := by
        have := Nat.div_add_mod (v * r) k
        rw [c2, e2] at this
        rw [Nat.mul_comm b]
        omega
      calc b * (k * (k - 1)) = b * k * (k - 1) := (Nat.mul_assoc ..).symm
        _ = v * (r * (k - 1)) := by rw [a2, Nat.mul_assoc]
        _ = v * (l * (v - 1)) := by rw [a1]
        _ = l * (v * (v - 1)) := by rw [Nat.mul_left_comm]
    · cases h
  · cases h
/-- how many blocks a layout with these counts has -/
theorem Lay.many {v k lam : Nat} {bs : List (List Int)} (L : Lay v k lam bs) {l r b m : Nat} (w : WOk v k l) (h : shN v k l = some (r, b)) (hm : m * lam = l) : m * bs.length = b := by
  have e := shN_eq w h
  have k2 := w.k2
  have pos : 0 < k * (k - 1) := Nat.mul_pos (by omega) (by omega)
  refine Nat.eq_of_mul_eq_mul_right pos ?_
  calc m * bs.length * (k * (k - 1)) = m * (v * (v - 1) * lam) := by rw [Nat.mul_assoc, L.cnt]
    _ = m * (lam * (v * (v - 1))) := by rw [Nat.mul_comm lam]
    _ = m * lam * (v * (v - 1)) := (Nat.mul_assoc ..).symm
    _ = b * (k * (k - 1)) := by rw [hm, e]
end EM
set_option maxHeartbeats 1000000
namespace EM
open PySem PySem.Spec PyProof.Rows L2
theorem gDiv_nat {a b : Nat} (h : b ≠ 0) (h2 : b < 1000000) : gDiv (.int a) (.int b) = some (.int ((a / b : Nat) : Int)) := by
  rw [gDiv_of (by omega) (by omega), fdiv_nat]
theorem gMod_nat {a b : Nat} (h : b ≠ 0) : gMod (.int a) (.int b) = some (.int ((a % b : Nat) : Int)) := by
  rw [gMod_of (by omega), fmod_nat]
theorem count_ne {v lam k : Nat} {bs : List (List Int)} (L : Lay v k lam bs) (hv : 2 ≤ v) (hb : bs.length ≤ 100000) : d_count_of [.tup [.int v, .tup (bs.map tI)], .tup [.int 0, .int 1]] = some (.int lam) := by
  have z := count_of_eq (x := .int v) (bs := bs) 0 1 hb
  rw [L.even 0 1 (by omega) (by omega) (by omega)] at z
  exact z
theorem named_ok {v k l r b : Nat} (w : WOk v k l) (hs : shN v k l = some (r, b)) (hb : b ≤ 200) (h60 : v ≤ 60) (hN : namedB v = true) : ∃ d, d_named_design [WD v k l []] = some d ∧ (d = .non ∨ ∃ bs, d = .tup [.int v, .tup (bs.map tI)] ∧ Design v k l [] bs) := by
  obtain ⟨h1, h2, h3, h4, h5, h6⟩ := id w
  unfold d_named_design
  rw [show runD 1 7 g_named_design [WD v k l []] = outD (g_named_design [some (.fz (WD v k l [])), none, none, none, none, none, none]) from rfl]
  unfold g_named_design
  let E : Option EV → Option EV → Env := fun t lay => [some (.fz (WD v k l [])), t, lay, some (.fz (.int v)), some (.fz (.int k)), some (.fz (.int l)), some (.fz (.tup []))]
  rw [sSeq_of (e := E none none) rfl]
  let t := ch (v - 2) (k - 2)
  have tp : 0 < t := ch_pos (by omega)
  have ew : cll (aCons (bop gSub (dVar 3) (dC (.int 2))) (aCons (bop gSub (dVar 4) (dC (.int 2))) aNil)) d_ways_of (E none none) = some (.int (t : Nat)) := by
    have a1 : bop gSub (dVar 3) (dC (.int 2)) (E none none) = some (.int ((v - 2 : Nat) : Int)) := by
      show some (D.int ((v : Int) - 2)) = _
      rw [show (v : Int) - 2 = ((v - 2 : Nat) : Int) by omega]
    have a2 : bop gSub (dVar 4) (dC (.int 2)) (E none none) = some (.int ((k - 2 : Nat) : Int)) := by
      show some (D.int ((k : Int) - 2)) = _
      rw [show (k : Int) - 2 = ((k - 2 : Nat) : Int) by omega]
    exact (cll2 a1 a2).trans (ways_eq _ _ (by omega) (by omega))
  rw [sSeq_of (e := E (some (.fz (.int (t : Nat)))) none) (sSet_of ew)]
  have et : tOfD (bop gEq (bop gMod (dVar 5) (dVar 1)) (dC (.int 0))) (E (some (.fz (.int (t : Nat)))) none) = some (((l % t : Nat) : Int) == 0) := tOfD_of ((bop_of ((bop_of (x := .int l) (y := .int (t : Nat)) rfl rfl).trans (gMod_nat (by omega))) rfl).trans (gEq_int _ _))
  by_cases c : l % t = 0
  · have hm : l / t * t = l := Nat.div_mul_cancel (Nat.dvd_of_mod_eq_zero c)
    have tl : t ≤ l := Nat.le_of_dvd (by omega) (Nat.dvd_of_mod_eq_zero c)
    have m1 : 1 ≤ l / t := Nat.div_pos tl tp
    have L := S_lay h3 h4
    have hmany := L.many w hs hm
    have hSl : (S (rangeI v) k).length ≤ 200 := by
      have : 1 * (S (rangeI v) k).length ≤ l / t * (S (rangeI v) k).length := Nat.mul_le_mul_right _ m1
      omega
    have e1 : cll (aCons (fun env => bnd ((nListRg (dVar 3)) env) fun ds => some (.lst ds)) (aCons (dVar 4) aNil)) (d_sets_of_building 62) (E (some (.fz (.int (t : Nat)))) none) = some (.lst ((S (rangeI v) k).map tI)) := by
      have a1 : (fun env => bnd ((nListRg (dVar 3)) env) fun ds => some (D.lst ds)) (E (some (.fz (.int (t : Nat)))) none) = some (.lst ((rangeI v).map D.int)) := by
        refine lstF ?_
        unfold nListRg
        show (if (0 : Int) ≤ (v : Int) ∧ (v : Int) ≤ 100000 then some (rng 0 (v : Int).toNat) else none) = _
        rw [if_pos ⟨by omega, by omega⟩, Int.toNat_natCast, rng_map]
        unfold rangeI
        rw [List.map_map]
        congr 1
        apply List.map_congr_left
        intro i _
        show D.int (0 + (i : Int)) = D.int (i : Int)
        rw [Int.zero_add]
      exact (cll2 a1 rfl).trans (sets_eq 62 (rangeI v) k (by omega) (by omega) (by rw [len_rangeI]; omega) (by omega))
    have e2 : bop gMulT (cll (aCons (cll (aCons (fun env => bnd ((nListRg (dVar 3)) env) fun ds => some (.lst ds)) (aCons (dVar 4) aNil)) (d_sets_of_building 62)) aNil) gTuple) (bop gDiv (dVar 5) (dVar 1)) (E (some (.fz (.int (t : Nat)))) none) = some (.tup ((times (l / t) (S (rangeI v) k)).map tI)) := by
      refine (bop_of (x := .tup ((S (rangeI v) k).map tI)) (y := .int ((l / t : Nat) : Int)) ((cll1 e1).trans rfl) ((bop_of (x := .int l) (y := .int (t : Nat)) rfl rfl).trans (gDiv_nat (by omega) (by omega)))).trans ?_
      exact gMulT_of m1 (Nat.le_trans (Nat.div_le_self _ _) (by omega)) (by omega) L.ne
    have e3 : dTup (aCons (dVar 3) (aCons (bop gMulT (cll (aCons (cll (aCons (fun env => bnd ((nListRg (dVar 3)) env) fun ds => some (.lst ds)) (aCons (dVar 4) aNil)) (d_sets_of_building 62)) aNil) gTuple) (bop gDiv (dVar 5) (dVar 1))) aNil)) (E (some (.fz (.int (t : Nat)))) none) = some (.tup [.int v, .tup ((times (l / t) (S (rangeI v) k)).map tI)]) := by
      unfold dTup
      rw [aCons2 (x := .int v) rfl e2]
      rfl
    rw [sSeq_rt (sIf_t (et.trans (by rw [c]; rfl)) (sRet_at e3))]
    exact ⟨_, rfl, .inr ⟨_, rfl, L.times hm h60 (by omega)⟩⟩
  · rw [sSeq_of (sIf_skip (et.trans (by rw [beq_eq_false_iff_ne.mpr (by omega)])))]
    unfold namedB at hN
    split at hN
    · rename_i ds ed
      have it : iAny (cll (aCons (dVar 3) aNil) d_named_layouts) (E (some (.fz (.int (t : Nat)))) none) = some ds := by
        unfold iAny
        rw [(cll1 rfl).trans ed]
        rfl
      have lp : ∀ (ds : List D) (x lay : Option EV), (ds.all (layB v)) = true → (∃ x' lay', forD (setN 2) (sSeq (sSet 1 (cll (aCons (dVar 2) (aCons (dTup (aCons (dC (.int 0)) (aCons (dC (.int 1)) aNil))) aNil)) d_count_of))
          (sIf (tAndD (tOfD (bop gEq (cll (aCons (bop gIx (bop gIx (dVar 2) (dC (.int 1))) (dC (.int 0))) aNil) gLen) (dVar 4))) (tOfD (bop gEq (bop gMod (dVar 5) (dVar 1)) (dC (.int 0))))) (sRet (dTup (aCons (dVar 3) (aCons (bop gMulT (bop gIx (dVar 2) (dC (.int 1))) (bop gDiv (dVar 5) (dVar 1))) aNil)))) sNil)) ds (E x lay) = some (.nx (E x' lay'))) ∨
          (∃ e' bs, forD (setN 2) (sSeq (sSet 1 (cll (aCons (dVar 2) (aCons (dTup (aCons (dC (.int 0)) (aCons (dC (.int 1)) aNil))) aNil)) d_count_of))
          (sIf (tAndD (tOfD (bop gEq (cll (aCons (bop gIx (bop gIx (dVar 2) (dC (.int 1))) (dC (.int 0))) aNil) gLen) (dVar 4))) (tOfD (bop gEq (bop gMod (dVar 5) (dVar 1)) (dC (.int 0))))) (sRet (dTup (aCons (dVar 3) (aCons (bop gMulT (bop gIx (dVar 2) (dC (.int 1))) (bop gDiv (dVar 5) (dVar 1))) aNil)))) sNil)) ds (E x lay) = some (.rt e' (.tup [.int v, .tup (bs.map tI)])) ∧ Design v k l [] bs) := by
        intro ds
        induction ds with
        | nil => exact fun x lay _ => .inl ⟨x, lay, rfl⟩
        | cons d ds ih =>
          intro x lay hd
          rw [List.all_cons, Bool.and_eq_true] at hd
          obtain ⟨k', lam, bs, rfl, L, hk', hlen⟩ := layB_ok hd.1
          have hne := L.ne
          obtain ⟨b0, bs', rfl⟩ := List.exists_cons_of_ne_nil hne
          have hk0 : b0.length = k' := hk'
          let lay1 : D := .tup [.int v, .tup ((b0 :: bs').map tI)]
          have q1 : sSet 1 (cll (aCons (dVar 2) (aCons (dTup (aCons (dC (.int 0)) (aCons (dC (.int 1)) aNil))) aNil)) d_count_of) (E x (some (.fz lay1))) = some (.nx (E (some (.fz (.int (lam : Nat)))) (some (.fz lay1)))) := sSet_of ((cll2 rfl rfl).trans (count_ne L h1 (by omega)))
          let E1 := E (some (.fz (.int (lam : Nat)))) (some (.fz lay1))
          have q2 : tOfD (bop gEq (cll (aCons (bop gIx (bop gIx (dVar 2) (dC (.int 1))) (dC (.int 0))) aNil) gLen) (dVar 4)) E1 = some (((b0.length : Nat) : Int) == (k : Int)) := by
            have a1 : bop gIx (bop gIx (dVar 2) (dC (.int 1))) (dC (.int 0)) E1 = some (tI b0) := (bop_of (x := .tup ((b0 :: bs').map tI)) (y := .int 0) rfl rfl).trans (gIx_head (tI b0) (bs'.map tI))
            refine tOfD_of ((bop_of (x := .int ((b0.map D.int).length : Nat)) ((cll1 a1).trans rfl) rfl).trans ((gEq_int _ _).trans ?_))
            rw [List.length_map]
          by_cases ck : k' = k
          · subst ck
            have lp0 : lam ≠ 0 := fun z => by
              have := L.cnt
              rw [z] at this
              have p1 : 0 < (b0 :: bs').length * (k' * (k' - 1)) := Nat.mul_pos (by simp) (Nat.mul_pos (by omega) (by omega))
              omega
            have q3 : tOfD (bop gEq (bop gMod (dVar 5) (dVar 1)) (dC (.int 0))) E1 = some (((l % lam : Nat) : Int) == 0) := tOfD_of ((bop_of ((bop_of (x := .int l) (y := .int (lam : Nat)) rfl rfl).trans (gMod_nat lp0)) rfl).trans (gEq_int _ _))
            have q4 := tAndD_of q2 fun _ => q3
            rw [hk0, beq_self_eq_true, Bool.true_and] at q4
            by_cases cl : l % lam = 0
            · refine .inr ?_
              have hm : l / lam * lam = l := Nat.div_mul_cancel (Nat.dvd_of_mod_eq_zero cl)
              have tl : lam ≤ l := Nat.le_of_dvd (by omega) (Nat.dvd_of_mod_eq_zero cl)
              have m1 : 1 ≤ l / lam := Nat.div_pos tl (by omega)
              have hmany := L.many w hs hm
              have lle : l / lam ≤ l := Nat.div_le_self _ _
              have e2 : bop gMulT (bop gIx (dVar 2) (dC (.int 1))) (bop gDiv (dVar 5) (dVar 1)) E1 = some (.tup ((times (l / lam) (b0 :: bs')).map tI)) := by
                refine (bop_of (x := .tup ((b0 :: bs').map tI)) (y := .int ((l / lam : Nat) : Int)) rfl ((bop_of (x := .int l) (y := .int (lam : Nat)) rfl rfl).trans (gDiv_nat lp0 (by omega)))).trans ?_
                exact gMulT_of m1 (by omega) hlen L.ne
              have e3 : dTup (aCons (dVar 3) (aCons (bop gMulT (bop gIx (dVar 2) (dC (.int 1))) (bop gDiv (dVar 5) (dVar 1))) aNil)) E1 = some (.tup [.int v, .tup ((times (l / lam) (b0 :: bs')).map tI)]) := by
                unfold dTup
                rw [aCons2 (x := .int v) rfl e2]
                rfl
              refine ⟨E1, times (l / lam) (b0 :: bs'), ?_, L.times hm h60 (by omega)⟩
              show bnd (sSeq _ _ (E x (some (.fz lay1)))) _ = _
              rw [sSeq_of q1, sIf_t (q4.trans (by rw [cl]; rfl)) (sRet_at e3)]
              rfl
            · have step := forD_cons (set := setN 2) (d := lay1) (ds := ds) (e := E x lay) (e1 := E x (some (.fz lay1))) rfl ((sSeq_of q1).trans (sIf_skip (f := sRet (dTup (aCons (dVar 3) (aCons (bop gMulT (bop gIx (dVar 2) (dC (.int 1))) (bop gDiv (dVar 5) (dVar 1))) aNil)))) (q4.trans (by rw [beq_eq_false_iff_ne.mpr (by omega)]))))
              rw [step]
              exact ih _ _ hd.2
          · have q4 := tAndD_of (u := tOfD (bop gEq (bop gMod (dVar 5) (dVar 1)) (dC (.int 0)))) (c := false) q2 fun z => absurd (by rw [beq_iff_eq] at z; omega) ck
            have step := forD_cons (set := setN 2) (d := lay1) (ds := ds) (e := E x lay) (e1 := E x (some (.fz lay1))) rfl ((sSeq_of q1).trans (sIf_skip (f := sRet (dTup (aCons (dVar 3) (aCons (bop gMulT (bop gIx (dVar 2) (dC (.int 1))) (bop gDiv (dVar 5) (dVar 1))) aNil)))) (q4.trans (by rw [Bool.and_false]))))
            rw [step]
            exact ih _ _ hd.2
      rcases lp ds (some (.fz (.int (t : Nat)))) none hN with ⟨x', lay', g⟩ | ⟨e', bs, g, hd⟩
      · rw [sSeq_of ((sFor_of it).trans g)]
        exact ⟨_, rfl, .inl rfl⟩
      · rw [sSeq_rt ((sFor_of it).trans g)]
        exact ⟨_, rfl, .inr ⟨bs, rfl, hd⟩⟩
    · cases hN
end EM
set_option maxHeartbeats 1000000
namespace EM
open PySem PySem.Spec PyProof.Rows L2
/-! layout_of, complement -/
def lI (m : List Int) : D := .lst (m.map D.int)
theorem incB_memI : ∀ {a : Int} {m : List Int}, incB (a :: m) = true → memI a m = false := fun {a m} h => by
  cases e : memI a m with
  | false => rfl
  | true => exact absurd rfl (Int.ne_of_gt ((List.pairwise_cons.mp (incB_ok h)).1 a (memI_mem.mp e)))
theorem incB_tail {a : Int} {m : List Int} (h : incB (a :: m) = true) : incB m = true := incB_of (List.pairwise_cons.mp (incB_ok h)).2
theorem nodB_inc : ∀ {m : List Int}, incB m = true → nodB m = true
  | [], _ => rfl
  | a :: m, h => by
    show (!memI a m && nodB m) = true
    rw [incB_memI h, nodB_inc (incB_tail h)]
    rfl
theorem sortI_inc {m : List Int} (h : incB m = true) : sortI m = m := (sortI_uniq (.refl m) ((incB_ok h).imp fun h => Int.le_of_lt h)).symm
theorem is_block_ok {v : Nat} {m : List Int} (h1 : incB m = true) (h2 : ∀ x ∈ m, 0 ≤ x ∧ x < (v : Int)) (h3 : m.length ≤ 1000) : d_is_block [lI m, .int v] = some (.bl true) := by
  unfold d_is_block
  refine (runD_at rfl).trans ?_
  unfold g_is_block
  let e : Env := [some (.fz (lI m)), some (.fz (.int v)), none]
  have lc : nLc [2] (iAny (dVar 0)) (setN 2) tYesD (cll (aCons (dVar 2) (aCons (dVar 1) aNil)) d_is_point) e = some (m.map fun _ => D.bl true) := by
    refine nLc_all (xs := m) D.int (fun _ => .bl true) rfl (by omega) fun x hx => ⟨[some (.fz (lI m)), some (.fz (.int v)), some (.fz (.int x))], rfl, ?_⟩
    obtain ⟨g1, g2⟩ := h2 x hx
    refine (cll2 (x := .int x) (y := .int v) rfl rfl).trans ?_
    unfold d_is_point
    refine (runD_at rfl).trans ?_
    unfold g_is_point
    rw [sRet_at (d := .bl true) (dAndV_true rfl (by
      show (match some (D.bl (decide (0 ≤ x))) with
        | some (.bl true) => bnd (some (D.int v)) fun z => gLt (.int x) z
        | some (.bl false) => some (.bl false)
        | _ => none) = _
      rw [decide_eq_true g1]
      show some (D.bl (decide (x < (v : Int)))) = _
      rw [decide_eq_true g2]))]
    rfl
  have t1 : tNotD (tOfD (cll (aCons (fun env => bnd ((nLc [2] (iAny (dVar 0)) (setN 2) tYesD (cll (aCons (dVar 2) (aCons (dVar 1) aNil)) d_is_point)) env) fun ds => some (.lst ds)) aNil) gAll)) e = some false := by
    refine tNotD_of (b := true) (tOfD_of ?_)
    rw [cll1 (lstF lc), show m.map (fun _ => D.bl true) = (m.map fun _ => true).map D.bl by rw [List.map_map]; rfl, gAll_of]
    simp
  show outD (sSeq _ _ e) = _
  rw [sSeq_of (sIf_skip t1)]
  have q : bop gEq (dLenSet (dVar 0)) (cll (aCons (dVar 0) aNil) gLen) e = some (.bl true) := by
    have a1 : dLenSet (dVar 0) e = some (.int m.length) := by
      unfold dLenSet
      show bnd (intsOf (m.map D.int)) _ = _
      rw [intsOf_map]
      show (if nodB m && decide (m.length ≤ 1000) then _ else _) = _
      rw [nodB_inc h1, decide_eq_true h3]
      rfl
    refine (bop_of a1 (y := .int ((m.map D.int).length : Nat)) rfl).trans ((gEq_int _ _).trans ?_)
    rw [List.length_map]
    simp
  rw [sRet_at q]
  rfl
theorem gIx_at {α : Type} {xs : List α} {f : α → D} {i : Nat} {x : α} (h : xs[i]? = some x) : gIx (.lst (xs.map f)) (.int i) = some (f x) := by
  have hi : i < xs.length := (List.getElem?_eq_some_iff.mp h).1
  show bnd (some (xs.map f)) (fun ds => L2.atI ds (i : Int)) = _
  show L2.atI (xs.map f) (i : Int) = _
  unfold L2.atI L2.ixN
  rw [List.length_map, if_pos (by omega), if_pos (by omega), Int.toNat_natCast]
  simp [h]
theorem gIx_atT {α : Type} {xs : List α} {f : α → D} {i : Nat} {x : α} (h : xs[i]? = some x) : gIx (.tup (xs.map f)) (.int i) = some (f x) := by
  have hi : i < xs.length := (List.getElem?_eq_some_iff.mp h).1
  show bnd (some (xs.map f)) (fun ds => L2.atI ds (i : Int)) = _
  show L2.atI (xs.map f) (i : Int) = _
  unfold L2.atI L2.ixN
  rw [List.length_map, if_pos (by omega), if_pos (by omega), Int.toNat_natCast]
  simp [h]
theorem layout_of_ok {v : Nat} {bs : List (List Int)} (hv1 : 1 ≤ v) (hv : v ≤ 60) (hb : bs.length ≤ 200) (h : ∀ m ∈ bs, incB m = true ∧ (∀ x ∈ m, 0 ≤ x ∧ x < (v : Int)) ∧ m.length < 64) : d_layout_of [.int v, .lst (bs.map lI)] = some (.tup [.int v, .tup (bs.map tI)]) := by
  unfold d_layout_of
  refine (runD_at rfl).trans ?_
  unfold g_layout_of
  let E : Option EV → Env := fun j => [some (.fz (.int v)), some (.fz (.lst (bs.map lI))), j, none]
  have t2 : tOfD (dChain gLe gLe (dC (.int 1)) (dVar 0) (dC (.int 60))) (E none) = some true := by
    refine tOfD_of ?_
    show (match some (D.bl (decide ((1 : Int) ≤ (v : Int)))) with
      | some (.bl true) => bnd (some (D.int 60)) fun z => gLe (.int v) z
      | some (.bl false) => some (.bl false)
      | _ => none) = _
    rw [decide_eq_true (by omega)]
    show some (D.bl (decide ((v : Int) ≤ 60))) = _
    rw [decide_eq_true (by omega)]
  have t3 : tOfD (bop gGt (cll (aCons (dVar 1) aNil) gLen) (dC (.int 200))) (E none) = some false := by
    refine tOfD_of ?_
    show some (D.bl (decide ((200 : Int) < (((bs.map lI).length : Nat) : Int)))) = _
    rw [List.length_map, decide_eq_false (by omega)]
  show outD (sSeq _ _ (E none)) = _
  rw [sSeq_of (sIf_skip (tOrD_of (b := false) rfl fun _ => tOrD_of (tNotD_of t2) fun _ => t3))]
  have lp : ∀ (xs : List Nat) (j : Option EV), (∀ i ∈ xs, i < bs.length) → ∃ j', forD (setN 2) (sIf (tNotD (tOfD (cll (aCons (bop gIx (dVar 1) (dVar 2)) (aCons (dVar 0) aNil)) d_is_block))) sNever sNil) (xs.map fun (i : Nat) => D.int (i : Int)) (E j) = some (.nx (E j')) := by
    intro xs
    induction xs with
    | nil => exact fun j _ => ⟨j, rfl⟩
    | cons i xs ih =>
      intro j hi
      obtain ⟨j', g⟩ := ih (some (.fz (.int (i : Int)))) fun x hx => hi x (List.mem_cons_of_mem _ hx)
      have hlt := hi i (List.mem_cons_self ..)
      obtain ⟨g1, g2, g3⟩ := h bs[i] (List.getElem_mem hlt)
      refine ⟨j', (forD_cons (e1 := E (some (.fz (.int (i : Int))))) rfl (sIf_skip (tNotD_of (b := true) (tOfD_of ((cll2 ((bop_of (x := .lst (bs.map lI)) (y := .int (i : Int)) rfl rfl).trans (gIx_at (List.getElem?_eq_getElem hlt))) rfl).trans (is_block_ok g1 g2 (by omega))))))).trans g⟩
  obtain ⟨j', g⟩ := lp (List.range bs.length) none fun i hi => List.mem_range.mp hi
  have ri := iRg1_of (fa := aCons (cll (aCons (dVar 1) aNil) gLen) aNil) (env := E none) (j := (((bs.map lI).length : Nat) : Int)) rfl (by omega) (by rw [List.length_map]; omega)
  rw [Int.toNat_natCast, List.length_map] at ri
  rw [sSeq_of ((sFor_of ri).trans g)]
  have lc : nLc [3] (iAny (dVar 1)) (setN 3) tYesD (cll (aCons (fun env => bnd ((clN (aCons (dVar 3) aNil) gSortedI) env) fun ds => some (.lst ds)) aNil) gTuple) (E j') = some (bs.map tI) := by
    refine nLc_all (xs := bs) lI tI rfl (by omega) fun m hm => ⟨[some (.fz (.int v)), some (.fz (.lst (bs.map lI))), j', some (.fz (lI m))], rfl, ?_⟩
    obtain ⟨g1, g2, g3⟩ := h m hm
    have so : clN (aCons (dVar 3) aNil) gSortedI [some (.fz (.int v)), some (.fz (.lst (bs.map lI))), j', some (.fz (lI m))] = some (m.map D.int) := by
      show bnd (intsOf (m.map D.int)) _ = _
      rw [intsOf_map]
      show (if m.length < 64 then some ((sortI m).map D.int) else none) = _
      rw [if_pos g3, sortI_inc g1]
    exact (cll1 (lstF so)).trans rfl
  have fin : dTup (aCons (dVar 0) (aCons (cll (aCons (fun env => bnd ((nLc [3] (iAny (dVar 1)) (setN 3) tYesD (cll (aCons (fun env => bnd ((clN (aCons (dVar 3) aNil) gSortedI) env) fun ds => some (.lst ds)) aNil) gTuple)) env) fun ds => some (.lst ds)) aNil) gTuple) aNil)) (E j') = some (.tup [.int v, .tup (bs.map tI)]) := by
    unfold dTup
    rw [aCons2 (x := .int v) (y := .tup (bs.map tI)) rfl ((cll1 (lstF lc)).trans rfl)]
    rfl
  rw [sRet_at fin]
  rfl
def compl (v : Nat) (m : List Int) : List Int := (rangeI v).filter fun x => !memI x m
theorem complement_eq {v : Nat} {bs : List (List Int)} (hv : v ≤ 1000) (hb : bs.length ≤ 1000) : d_complement [.tup [.int v, .tup (bs.map tI)]] = some (.tup [.int v, .tup ((bs.map (compl v)).map tI)]) := by
  unfold d_complement
  refine (runD_at rfl).trans ?_
  unfold g_complement
  let L : D := .tup [.int v, .tup (bs.map tI)]
  let e : Env := [some (.fz L), none, none, none]
  have lc : nLc [2] (iAny (bop gIx (dVar 0) (dC (.int 1)))) (setN 2) tYesD (cll (aCons (fun env => bnd ((nLc [3] (iRg1 (aCons (bop gIx (dVar 0) (dC (.int 0))) aNil)) (setN 3) (tOfD (bop (gInN true) (dVar 3) (dVar 2))) (dVar 3)) env) fun ds => some (.lst ds)) aNil) gTuple) e = some (bs.map fun m => tI (compl v m)) := by
    refine nLc_all (xs := bs) tI (fun m => tI (compl v m)) rfl (by omega) fun m hm => ⟨[some (.fz L), none, some (.fz (tI m)), none], rfl, ?_⟩
    have ri := iRg1_of (fa := aCons (bop gIx (dVar 0) (dC (.int 0))) aNil) (env := [some (.fz L), none, some (.fz (tI m)), none]) (j := (v : Int)) rfl (by omega) (by omega)
    rw [Int.toNat_natCast] at ri
    have l2 : nLc [3] (iRg1 (aCons (bop gIx (dVar 0) (dC (.int 0))) aNil)) (setN 3) (tOfD (bop (gInN true) (dVar 3) (dVar 2))) (dVar 3) [some (.fz L), none, some (.fz (tI m)), none] = some (((List.range v).filter fun (i : Nat) => !memI (i : Int) m).map fun (i : Nat) => D.int (i : Int)) :=
      nLc_of (fun (i : Nat) => D.int (i : Int)) (fun (i : Nat) => !memI (i : Int) m) (fun (i : Nat) => D.int (i : Int)) ri (by rw [List.length_range]; omega) fun i _ => ⟨_, rfl, tOfD_of ((bop_of rfl rfl).trans (gNotIn_tI _ m)), fun _ => rfl⟩
    have ec : ((List.range v).filter fun (i : Nat) => !memI (i : Int) m).map (fun (i : Nat) => D.int (i : Int)) = (compl v m).map D.int := by
      unfold compl rangeI
      rw [List.filter_map, List.map_map]
      rfl
    rw [ec] at l2
    have l3 : (fun env => bnd ((nLc [3] (iRg1 (aCons (bop gIx (dVar 0) (dC (.int 0))) aNil)) (setN 3) (tOfD (bop (gInN true) (dVar 3) (dVar 2))) (dVar 3)) env) fun ds => some (D.lst ds)) [some (.fz L), none, some (.fz (tI m)), none] = some (.lst ((compl v m).map D.int)) := by
      show bnd _ _ = _
      rw [l2]
      rfl
    have l4 : ∀ fa : Env → Option D, fa [some (.fz L), none, some (.fz (tI m)), none] = some (.lst ((compl v m).map D.int)) → cll (aCons fa aNil) gTuple [some (.fz L), none, some (.fz (tI m)), none] = some (tI (compl v m)) := fun fa h => (cll1 h).trans rfl
    exact l4 _ l3
  have q1 : sSet 1 (fun env => bnd ((nLc [2] (iAny (bop gIx (dVar 0) (dC (.int 1)))) (setN 2) tYesD (cll (aCons (fun env => bnd ((nLc [3] (iRg1 (aCons (bop gIx (dVar 0) (dC (.int 0))) aNil)) (setN 3) (tOfD (bop (gInN true) (dVar 3) (dVar 2))) (dVar 3)) env) fun ds => some (.lst ds)) aNil) gTuple)) env) fun ds => some (.lst ds)) e = some (.nx [some (.fz L), some (.fz (.lst (bs.map fun m => tI (compl v m)))), none, none]) := sSet_of (lstF lc)
  show outD (sSeq _ _ e) = _
  rw [sSeq_of q1]
  show some (D.tup [.int v, .tup (bs.map fun m => tI (compl v m))]) = _
  rw [List.map_map]
  rfl
end EM
set_option maxHeartbeats 1000000
namespace EM
open PySem PySem.Spec PyProof.Rows L2
/-! the five fields -/
def fplus (q a b : Nat) : Nat := if q = 4 then a ^^^ b else (a + b) % q
def ftimes (q a b : Nat) : Nat := if q = 4 then [0, 0, 0, 0, 0, 1, 2, 3, 0, 2, 3, 1, 0, 3, 1, 2].getD (4 * a + b) 0 else a * b % q
def trips (q : Nat) : List (Nat × Nat × Nat) := (0, 0, 1) :: (((List.range q).map fun z => (0, 1, z)) ++ (List.range q).flatMap fun y => (List.range q).map fun z => (1, y, z))
def trD (t : Nat × Nat × Nat) : D := .tup [.int (t.1 : Nat), .int (t.2.1 : Nat), .int (t.2.2 : Nat)]
def rowD (f : Nat → Nat → Nat) (q a : Nat) : D := .lst ((List.range q).map fun (b : Nat) => D.int ((f a b : Nat) : Int))
def tabD (q : Nat) : D := .tup [.lst ((List.range q).map (rowD (fplus q) q)), .lst ((List.range q).map (rowD (ftimes q) q))]
def cell (f : Option D) (n : Nat) : Bool := match f with
  | some (.int z) => decide (z = (n : Int))
  | _ => false
structure FOk (q : Nat) (F : D) : Prop where
  q2 : 2 ≤ q
  q7 : q ≤ 7
  size : d_Field_size [F] = some (.int q)
  isf : isFld F = true
  tr : d_triples_of [F] = some (.lst ((trips q).map trD))
  tab : d_tables_of [F] = some (tabD q)
  plus : ((List.range q).all fun a => (List.range q).all fun b => cell (d_Field_plus [F, .int (a : Nat), .int (b : Nat)]) (fplus q a b) && decide (fplus q a b < q)) = true
  times : ((List.range q).all fun a => (List.range q).all fun b => cell (d_Field_times [F, .int (a : Nat), .int (b : Nat)]) (ftimes q a b) && decide (ftimes q a b < q)) = true
  trl : ((trips q).all fun t => decide (t.1 < q) && decide (t.2.1 < q) && decide (t.2.2 < q)) = true
def F2 : D := .fld (.int 2) (.kt [.int 0, .int 1])
def F3 : D := .fld (.int 3) (.kt [.int 0, .int 1])
def F4 : D := .fld (.int 2) (.kt [.int 1, .int 1, .int 1])
def F5 : D := .fld (.int 5) (.kt [.int 0, .int 1])
def F7 : D := .fld (.int 7) (.kt [.int 0, .int 1])
theorem fok2 : FOk 2 F2 := ⟨by decide, by decide, by kernel_rfl, rfl, by kernel_rfl, by kernel_rfl, by decide +kernel, by decide +kernel, by decide +kernel⟩
theorem fok3 : FOk 3 F3 := ⟨by decide, by decide, by kernel_rfl, rfl, by kernel_rfl, by kernel_rfl, by decide +kernel, by decide +kernel, by decide +kernel⟩
theorem fok4 : FOk 4 F4 := ⟨by decide, by decide, by kernel_rfl, rfl, by kernel_rfl, by kernel_rfl, by decide +kernel, by decide +kernel, by decide +kernel⟩
theorem fok5 : FOk 5 F5 := ⟨by decide, by decide, by kernel_rfl, rfl, by kernel_rfl, by kernel_rfl, by decide +kernel, by decide +kernel, by decide +kernel⟩
theorem fok7 : FOk 7 F7 := ⟨by decide, by decide, by kernel_rfl, rfl, by kernel_rfl, by kernel_rfl, by decide +kernel, by decide +kernel, by decide +kernel⟩
def meetsB (q : Nat) (x y : Nat × Nat × Nat) : Bool := fplus q (fplus q (fplus q 0 (ftimes q x.1 y.1)) (ftimes q x.2.1 y.2.1)) (ftimes q x.2.2 y.2.2) == 0
def planeB (q : Nat) : List (List Int) := (trips q).map fun t => ((List.range (trips q).length).filter fun k => meetsB q ((trips q).getD k (0, 0, 0)) t).map fun (k : Nat) => (k : Int)
def flatB (q : Nat) : List (List Int) := ((List.range q).flatMap fun m => (List.range q).map fun c => (List.range q).map fun x => ((x * q + fplus q (ftimes q m x) c : Nat) : Int)) ++ (List.range q).map fun c => (List.range q).map fun y => ((c * q + y : Nat) : Int)
def blkB (v : Nat) (bs : List (List Int)) : Bool := decide (bs.length ≤ 200) && bs.all fun m => incB m && (m.all fun x => decide (0 ≤ x) && decide (x < (v : Int))) && decide (m.length < 64)
theorem blkB_ok {v : Nat} {bs : List (List Int)} (h : blkB v bs = true) : bs.length ≤ 200 ∧ ∀ m ∈ bs, incB m = true ∧ (∀ x ∈ m, 0 ≤ x ∧ x < (v : Int)) ∧ m.length < 64 := by
  unfold blkB at h
  rw [Bool.and_eq_true, decide_eq_true_eq] at h
  refine ⟨h.1, fun m hm => ?_⟩
  have z := List.all_eq_true.mp h.2 m hm
  rw [Bool.and_eq_true, Bool.and_eq_true, decide_eq_true_eq] at z
  refine ⟨z.1.1, fun x hx => ?_, z.2⟩
  have y := List.all_eq_true.mp z.1.2 x hx
  rw [Bool.and_eq_true, decide_eq_true_eq, decide_eq_true_eq] at y
  exact y
section
variable {q : Nat} {F : D} (f : FOk q F)
include f
theorem FOk.pl {a b : Nat} (ha : a < q) (hb : b < q) : d_Field_plus [F, .int (a : Nat), .int (b : Nat)] = some (.int (fplus q a b : Nat)) ∧ fplus q a b < q := by
  have z := List.all_eq_true.mp (List.all_eq_true.mp f.plus a (List.mem_range.mpr ha)) b (List.mem_range.mpr hb)
  rw [Bool.and_eq_true, decide_eq_true_eq] at z
  refine ⟨?_, z.2⟩
  have z1 := z.1
  unfold cell at z1
  split at z1
  · rename_i w e
    rw [e, of_decide_eq_true z1]
  · cases z1
theorem FOk.ti {a b : Nat} (ha : a < q) (hb : b < q) : d_Field_times [F, .int (a : Nat), .int (b : Nat)] = some (.int (ftimes q a b : Nat)) ∧ ftimes q a b < q := by
  have z := List.all_eq_true.mp (List.all_eq_true.mp f.times a (List.mem_range.mpr ha)) b (List.mem_range.mpr hb)
  rw [Bool.and_eq_true, decide_eq_true_eq] at z
  refine ⟨?_, z.2⟩
  have z1 := z.1
  unfold cell at z1
  split at z1
  · rename_i w e
    rw [e, of_decide_eq_true z1]
  · cases z1
theorem FOk.trb {t : Nat × Nat × Nat} (h : t ∈ trips q) : t.1 < q ∧ t.2.1 < q ∧ t.2.2 < q := by
  have z := List.all_eq_true.mp f.trl t h
  simp only [Bool.and_eq_true, decide_eq_true_eq] at z
  exact ⟨z.1.1, z.1.2, z.2⟩
theorem meets_eq {x y : Nat × Nat × Nat} (hx : x ∈ trips q) (hy : y ∈ trips q) : d_meets [tabD q, trD x, trD y] = some (.bl (meetsB q x y)) := by
  obtain ⟨x1, x2, x3⟩ := f.trb hx
  obtain ⟨y1, y2, y3⟩ := f.trb hy
  have hq := f.q2
  unfold d_meets
  refine (runD_at rfl).trans ?_
  unfold g_meets
  let E : Option EV → Option EV → Env := fun t k => [some (.fz (tabD q)), some (.fz (trD x)), some (.fz (trD y)), t, k, some (.fz (.lst ((List.range q).map (rowD (fplus q) q)))), some (.fz (.lst ((List.range q).map (rowD (ftimes q) q))))]
  rw [sSeq_of (e := E none none) rfl, sSeq_of (e := E (some (.fz (.int 0))) none) rfl]
  have look : ∀ (g : Nat → Nat → Nat) (a b : Nat), a < q → b < q → ∀ (fa fb fc : Env → Option D) (e : Env), fa e = some (.lst ((List.range q).map (rowD g q))) → fb e = some (.int a) → fc e = some (.int b) → bop gIx (bop gIx fa fb) fc e = some (.int (g a b : Nat)) := by
    intro g a b ha hb fa fb fc e h1 h2 h3
    refine (bop_of ((bop_of h1 h2).trans (gIx_at (i := a) (x := a) (by rw [List.getElem?_range ha]))) h3).trans ?_
    exact gIx_at (i := b) (x := b) (by rw [List.getElem?_range hb])
  have step : ∀ (t a b : Nat) (k : Int), t < q → a < q → b < q → bop gIx (dVar 1) (dVar 4) (E (some (.fz (.int (t : Nat)))) (some (.fz (.int k)))) = some (.int a) → bop gIx (dVar 2) (dVar 4) (E (some (.fz (.int (t : Nat)))) (some (.fz (.int k)))) = some (.int b) →
      sSet 3 (bop gIx (bop gIx (dVar 5) (dVar 3)) (bop gIx (bop gIx (dVar 6) (bop gIx (dVar 1) (dVar 4))) (bop gIx (dVar 2) (dVar 4)))) (E (some (.fz (.int (t : Nat)))) (some (.fz (.int k)))) = some (.nx (E (some (.fz (.int (fplus q t (ftimes q a b) : Nat)))) (some (.fz (.int k))))) := by
    intro t a b k ht ha hb h1 h2
    have l1 := look (ftimes q) a b ha hb (dVar 6) (bop gIx (dVar 1) (dVar 4)) (bop gIx (dVar 2) (dVar 4)) _ rfl h1 h2
    exact sSet_of (look (fplus q) t (ftimes q a b) ht (f.ti ha hb).2 (dVar 5) (dVar 3) _ _ rfl rfl l1)
  have p1 := (f.pl (a := 0) (by omega) (f.ti x1 y1).2).2
  have p2 := (f.pl p1 (f.ti x2 y2).2).2
  have lp : forD (setN 4) (sSet 3 (bop gIx (bop gIx (dVar 5) (dVar 3)) (bop gIx (bop gIx (dVar 6) (bop gIx (dVar 1) (dVar 4))) (bop gIx (dVar 2) (dVar 4))))) [.int 0, .int 1, .int 2] (E (some (.fz (.int 0))) none) = some (.nx (E (some (.fz (.int (fplus q (fplus q (fplus q 0 (ftimes q x.1 y.1)) (ftimes q x.2.1 y.2.1)) (ftimes q x.2.2 y.2.2) : Nat)))) (some (.fz (.int 2))))) := by
    rw [forD_cons (e1 := E (some (.fz (.int ((0 : Nat) : Int)))) (some (.fz (.int 0)))) rfl (step 0 x.1 y.1 0 (by omega) x1 y1 rfl rfl)]
    rw [forD_cons (e1 := E (some (.fz (.int ((fplus q 0 (ftimes q x.1 y.1) : Nat) : Int)))) (some (.fz (.int 1)))) rfl (step _ x.2.1 y.2.1 1 p1 x2 y2 rfl rfl)]
    rw [forD_cons (e1 := E (some (.fz (.int ((fplus q (fplus q 0 (ftimes q x.1 y.1)) (ftimes q x.2.1 y.2.1) : Nat) : Int)))) (some (.fz (.int 2)))) rfl (step _ x.2.2 y.2.2 2 p2 x3 y3 rfl rfl)]
    rfl
  rw [sSeq_of ((sFor_of (ds := [.int 0, .int 1, .int 2]) rfl).trans lp)]
  have fin : bop gEq (dVar 3) (dC (.int 0)) (E (some (.fz (.int (fplus q (fplus q (fplus q 0 (ftimes q x.1 y.1)) (ftimes q x.2.1 y.2.1)) (ftimes q x.2.2 y.2.2) : Nat)))) (some (.fz (.int 2)))) = some (.bl (meetsB q x y)) := by
    refine (bop_of rfl rfl).trans ((gEq_int _ _).trans ?_)
    unfold meetsB
    congr 2
    rw [Bool.eq_iff_iff, beq_iff_eq, beq_iff_eq]
    omega
  rw [sRet_at fin]
  rfl
end
end EM
set_option maxHeartbeats 1000000
namespace EM
open PySem PySem.Spec PyProof.Rows L2
def planeElt : Env → Option D := (fun env => bnd ((nLc [6] (iRg1 (aCons (dVar 2) aNil)) (setN 6) (tOfD (cll (aCons (dVar 3) (aCons (bop gIx (dVar 1) (dVar 6)) (aCons (dVar 5) aNil))) d_meets)) (dVar 6)) env) fun ds => some (.lst ds))
def flatElt : Env → Option D := (fun env => bnd ((nLc [6] (iRg1 (aCons (dVar 1) aNil)) (setN 6) tYesD (bop gAdd (bop gMul (dVar 6) (dVar 1)) (mll (dVar 0) (aCons (mll (dVar 0) (aCons (dVar 3) (aCons (dVar 6) aNil)) d_Field_times) (aCons (dVar 4) aNil)) d_Field_plus))) env) fun ds => some (.lst ds))
def flatElt2 : Env → Option D := (fun env => bnd ((nLc [5] (iRg1 (aCons (dVar 1) aNil)) (setN 5) tYesD (bop gAdd (bop gMul (dVar 4) (dVar 1)) (dVar 5))) env) fun ds => some (.lst ds))
section
variable {q : Nat} {F : D} (f : FOk q F)
include f
theorem plane_eq (hl : (trips q).length = q * q + q + 1) (hb : blkB (q * q + q + 1) (planeB q) = true) : d_plane_of [F] = some (.tup [.int ((q * q + q + 1 : Nat) : Int), .tup ((planeB q).map tI)]) := by
  have hq := f.q7
  have hqq : q * q ≤ 7 * 7 := Nat.mul_le_mul hq hq
  unfold d_plane_of
  refine (runD_at rfl).trans ?_
  unfold g_plane_of
  let n := q * q + q + 1
  let E : Option EV → Option EV → Env := fun b t => [some (.fz F), some (.fz (.lst ((trips q).map trD))), some (.fz (.int (n : Nat))), some (.fz (tabD q)), b, t, none]
  have s1 : sSet 1 (cll (aCons (dVar 0) aNil) d_triples_of) [some (.fz F), none, none, none, none, none, none] = some (.nx [some (.fz F), some (.fz (.lst ((trips q).map trD))), none, none, none, none, none]) := sSet_of ((cll1 rfl).trans f.tr)
  have s2 : sSet 2 (cll (aCons (dVar 1) aNil) gLen) [some (.fz F), some (.fz (.lst ((trips q).map trD))), none, none, none, none, none] = some (.nx [some (.fz F), some (.fz (.lst ((trips q).map trD))), some (.fz (.int (n : Nat))), none, none, none, none]) := by
    refine sSet_of (d := .int (n : Nat)) ((cll1 (x := .lst ((trips q).map trD)) rfl).trans ((gLen_lst _).trans ?_))
    rw [List.length_map, hl]
  have s3 : sSet 3 (cll (aCons (dVar 0) aNil) d_tables_of) [some (.fz F), some (.fz (.lst ((trips q).map trD))), some (.fz (.int (n : Nat))), none, none, none, none] = some (.nx (E none none)) := sSet_of ((cll1 rfl).trans f.tab)
  show outD (sSeq _ _ [some (.fz F), none, none, none, none, none, none]) = _
  rw [sSeq_of s1, sSeq_of s2, sSeq_of s3, sSeq_of (e := E (some (.own [])) none) rfl]
  let blk : Nat × Nat × Nat → List Int := fun t => ((List.range (trips q).length).filter fun k => meetsB q ((trips q).getD k (0, 0, 0)) t).map fun (k : Nat) => (k : Int)
  have lp : ∀ (ts : List (Nat × Nat × Nat)) (acc : List (List Int)) (j : Option EV), (∀ t ∈ ts, t ∈ trips q) → acc.length + ts.length ≤ 1000 → ∃ j', forD (setN 5) (sApp 4 planeElt) (ts.map trD) (E (some (.own (acc.map lI))) j) = some (.nx (E (some (.own ((acc ++ ts.map blk).map lI))) j')) := by
    intro ts
    induction ts with
    | nil =>
      intro acc j _ _
      refine ⟨j, ?_⟩
      rw [List.map_nil, List.map_nil, List.append_nil]
      rfl
    | cons t ts ih =>
      intro acc j ht hlen
      rw [List.length_cons] at hlen
      obtain ⟨j', g⟩ := ih (acc ++ [blk t]) (some (.fz (trD t))) (fun x hx => ht x (List.mem_cons_of_mem _ hx)) (by rw [List.length_append]; simp; omega)
      refine ⟨j', ?_⟩
      let e1 := E (some (.own (acc.map lI))) (some (.fz (trD t)))
      have ri := iRg1_of (fa := aCons (dVar 2) aNil) (env := e1) (j := (n : Int)) rfl (by omega) (by omega)
      rw [Int.toNat_natCast] at ri
      have lc : nLc [6] (iRg1 (aCons (dVar 2) aNil)) (setN 6) (tOfD (cll (aCons (dVar 3) (aCons (bop gIx (dVar 1) (dVar 6)) (aCons (dVar 5) aNil))) d_meets)) (dVar 6) e1 = some ((blk t).map D.int) := by
        have z := nLc_of (vs := [6]) (set := setN 6) (tt := tOfD (cll (aCons (dVar 3) (aCons (bop gIx (dVar 1) (dVar 6)) (aCons (dVar 5) aNil))) d_meets)) (elt := dVar 6) (fun (i : Nat) => D.int (i : Int)) (fun (k : Nat) => meetsB q ((trips q).getD k (0, 0, 0)) t) (fun (i : Nat) => D.int (i : Int)) ri (by rw [List.length_range]; omega) (fun i hi => by
          have hi' : i < (trips q).length := by rw [hl]; exact List.mem_range.mp hi
          refine ⟨[some (.fz F), some (.fz (.lst ((trips q).map trD))), some (.fz (.int (n : Nat))), some (.fz (tabD q)), some (.own (acc.map lI)), some (.fz (trD t)), some (.fz (.int (i : Int)))], rfl, ?_, fun _ => rfl⟩
          have hg : (trips q).getD i (0, 0, 0) = (trips q)[i] := by simp [List.getD, hi']
          have ix : bop gIx (dVar 1) (dVar 6) [some (.fz F), some (.fz (.lst ((trips q).map trD))), some (.fz (.int (n : Nat))), some (.fz (tabD q)), some (.own (acc.map lI)), some (.fz (trD t)), some (.fz (.int (i : Int)))] = some (trD ((trips q)[i])) := (bop_of rfl rfl).trans (gIx_at (List.getElem?_eq_getElem hi'))
          refine tOfD_of ((cll3 rfl ix rfl).trans ?_)
          rw [hg]
          exact meets_eq f (List.getElem_mem hi') (ht t (List.mem_cons_self ..)))
        rw [z]
        show some _ = some ((((List.range (trips q).length).filter fun k => meetsB q ((trips q).getD k (0, 0, 0)) t).map fun (k : Nat) => (k : Int)).map D.int)
        rw [List.map_map, hl]
        rfl
      have v1 : planeElt e1 = some (lI (blk t)) := by
        show bnd _ _ = _
        rw [lc]
        rfl
      have ap := sApp_of (i := 4) (ds := acc.map lI) v1 rfl (by rw [List.length_map]; omega)
      have ee : e1.set 4 (some (.own (acc.map lI ++ [lI (blk t)]))) = E (some (.own ((acc ++ [blk t]).map lI))) (some (.fz (trD t))) := by
        rw [List.map_append]
        rfl
      rw [ee] at ap
      rw [List.map_cons]
      refine (forD_cons (e1 := e1) rfl ap).trans ?_
      rw [g, List.map_cons, List.append_assoc]
      rfl
  obtain ⟨j', g⟩ := lp (trips q) [] none (fun t h => h) (by rw [hl]; simp; omega)
  rw [List.nil_append] at g
  have g2 : sFor (iAny (dVar 1)) (setN 5) (sApp 4 planeElt) (E (some (.own [])) none) = some (.nx (E (some (.own ((planeB q).map lI))) j')) := (sFor_of (ds := (trips q).map trD) rfl).trans g
  show outD (sSeq (sFor (iAny (dVar 1)) (setN 5) (sApp 4 planeElt)) _ (E (some (.own [])) none)) = _
  rw [sSeq_of g2]
  obtain ⟨b1, b2⟩ := blkB_ok hb
  have lay := layout_of_ok (v := n) (bs := planeB q) (by omega) (by omega) b1 b2
  have fin : cll (aCons (dVar 2) (aCons (dVar 4) aNil)) d_layout_of (E (some (.fz (.lst ((planeB q).map lI)))) j') = some (.tup [.int (n : Nat), .tup ((planeB q).map tI)]) := (cll2 rfl rfl).trans lay
  show outD (sRet _ (E (some (.fz (.lst ((planeB q).map lI)))) j')) = _
  rw [sRet_at fin]
  rfl
theorem flat_eq (hb : blkB (q * q) (flatB q) = true) : d_flat_of [F] = some (.tup [.int ((q * q : Nat) : Int), .tup ((flatB q).map tI)]) := by
  have hq := f.q7
  have hq2 := f.q2
  have hqq : q * q ≤ 7 * 7 := Nat.mul_le_mul hq hq
  have hq4 : 2 * 2 ≤ q * q := Nat.mul_le_mul hq2 hq2
  unfold d_flat_of
  refine (runD_at rfl).trans ?_
  unfold g_flat_of
  let E : List (List Int) → Option EV → Option EV → Env := fun acc m c => [some (.fz F), some (.fz (.int q)), some (.own (acc.map lI)), m, c, none, none]
  have s1 : sSet 1 (mll (dVar 0) aNil d_Field_size) [some (.fz F), none, none, none, none, none, none] = some (.nx [some (.fz F), some (.fz (.int q)), none, none, none, none, none]) := by
    refine sSet_of ?_
    show (if isFld F then d_Field_size [F] else none) = _
    rw [f.isf, if_pos rfl, f.size]
  show outD (sSeq _ _ [some (.fz F), none, none, none, none, none, none]) = _
  rw [sSeq_of s1, sSeq_of (e := E [] none none) rfl]
  have mcall : ∀ (fa fb : Env → Option D) (e : Env) (x y : D) (g : List D → Option D), dVar 0 e = some F → fa e = some x → fb e = some y → mll (dVar 0) (aCons fa (aCons fb aNil)) g e = g [F, x, y] := by
    intro fa fb e x y g h0 h1 h2
    unfold mll
    rw [h0, aCons2 h1 h2]
    show (if isFld F then g [F, x, y] else none) = _
    rw [f.isf, if_pos rfl]
  let blk : Nat → Nat → List Int := fun m c => (List.range q).map fun x => ((x * q + fplus q (ftimes q m x) c : Nat) : Int)
  have rg : ∀ (j : Nat) (e : Env), dVar 1 e = some (.int q) → iRg1 (aCons (dVar 1) aNil) e = some ((List.range q).map fun (i : Nat) => D.int (i : Int)) := by
    intro j e h
    have ri := iRg1_of (fa := aCons (dVar 1) aNil) (env := e) (j := (q : Int)) (aCons1 h) (by omega) (by omega)
    rw [Int.toNat_natCast] at ri
    exact ri
  have lc1 : ∀ (acc : List (List Int)) (m c : Nat), m < q → c < q → sApp 2 flatElt (E acc (some (.fz (.int (m : Nat)))) (some (.fz (.int (c : Nat))))) = if acc.length < 100000 then some (.nx (E (acc ++ [blk m c]) (some (.fz (.int (m : Nat)))) (some (.fz (.int (c : Nat)))))) else none := by
    intro acc m c hm hc
    let e1 := E acc (some (.fz (.int (m : Nat)))) (some (.fz (.int (c : Nat))))
    have lc : nLc [6] (iRg1 (aCons (dVar 1) aNil)) (setN 6) tYesD (bop gAdd (bop gMul (dVar 6) (dVar 1)) (mll (dVar 0) (aCons (mll (dVar 0) (aCons (dVar 3) (aCons (dVar 6) aNil)) d_Field_times) (aCons (dVar 4) aNil)) d_Field_plus)) e1 = some ((List.range q).map fun x => D.int ((x * q + fplus q (ftimes q m x) c : Nat) : Int)) := by
      refine nLc_all (fun (i : Nat) => D.int (i : Int)) _ (rg 0 e1 rfl) (by rw [List.length_range]; omega) fun x hx => ?_
      have hx' := List.mem_range.mp hx
      let e2 : Env := [some (.fz F), some (.fz (.int q)), some (.own (acc.map lI)), some (.fz (.int (m : Nat))), some (.fz (.int (c : Nat))), none, some (.fz (.int (x : Int)))]
      refine ⟨e2, rfl, ?_⟩
      have t1 := (mcall (dVar 3) (dVar 6) e2 _ _ d_Field_times rfl rfl rfl).trans (f.ti hm hx').1
      have t2 := (mcall (mll (dVar 0) (aCons (dVar 3) (aCons (dVar 6) aNil)) d_Field_times) (dVar 4) e2 _ _ d_Field_plus rfl t1 rfl).trans (f.pl (f.ti hm hx').2 hc).1
      have t3 : bop gMul (dVar 6) (dVar 1) e2 = some (.int ((x * q : Nat) : Int)) := (bop_of (x := .int (x : Int)) (y := .int (q : Int)) rfl rfl).trans (by rw [gMul_of (by omega), Int.natCast_mul])
      refine (bop_of t3 t2).trans ?_
      show some (D.int (((x * q : Nat) : Int) + ((fplus q (ftimes q m x) c : Nat) : Int))) = _
      rw [Int.natCast_add]
    have v1 : flatElt e1 = some (lI (blk m c)) := by
      show bnd _ _ = _
      rw [lc]
      show some (D.lst _) = some (D.lst (((List.range q).map fun x => ((x * q + fplus q (ftimes q m x) c : Nat) : Int)).map D.int))
      rw [List.map_map]
      rfl
    by_cases hl : acc.length < 100000
    · rw [if_pos hl, sApp_of (i := 2) (ds := acc.map lI) v1 rfl (by rw [List.length_map]; exact hl)]
      show some (Res.nx [_, _, some (.own (acc.map lI ++ [lI (blk m c)])), _, _, _, _]) = some (Res.nx [_, _, some (.own ((acc ++ [blk m c]).map lI)), _, _, _, _])
      rw [List.map_append]
      rfl
    · rw [if_neg hl]
      unfold sApp
      rw [v1]
      show (if (acc.map lI).length < 100000 then _ else none) = none
      rw [List.length_map, if_neg hl]
  have lpc : ∀ (cs : List Nat) (acc : List (List Int)) (m : Nat) (c0 : Option EV), m < q → (∀ c ∈ cs, c < q) → acc.length + cs.length ≤ 1000 → ∃ c1, forD (setN 4) (sApp 2 flatElt) (cs.map fun (i : Nat) => D.int (i : Int)) (E acc (some (.fz (.int (m : Nat)))) c0) = some (.nx (E (acc ++ cs.map (blk m)) (some (.fz (.int (m : Nat)))) c1)) := by
    intro cs
    induction cs with
    | nil =>
      intro acc m c0 _ _ _
      refine ⟨c0, ?_⟩
      rw [List.map_nil, List.map_nil, List.append_nil]
      rfl
    | cons c cs ih =>
      intro acc m c0 hm hc hlen
      rw [List.length_cons] at hlen
      obtain ⟨c1, g⟩ := ih (acc ++ [blk m c]) m (some (.fz (.int (c : Nat)))) hm (fun x hx => hc x (List.mem_cons_of_mem _ hx)) (by rw [List.length_append]; simp; omega)
      refine ⟨c1, ?_⟩
      have st := lc1 acc m c hm (hc c (List.mem_cons_self ..))
      rw [if_pos (by omega)] at st
      rw [List.map_cons]
      refine (forD_cons (e1 := E acc (some (.fz (.int (m : Nat)))) (some (.fz (.int (c : Nat))))) rfl st).trans ?_
      rw [g, List.map_cons, List.append_assoc]
      rfl
  have lpm : ∀ (ms : List Nat) (acc : List (List Int)) (m0 c0 : Option EV), (∀ m ∈ ms, m < q) → acc.length + ms.length * q ≤ 1000 → ∃ m1 c1, forD (setN 3) (sFor (iRg1 (aCons (dVar 1) aNil)) (setN 4) (sApp 2 flatElt)) (ms.map fun (i : Nat) => D.int (i : Int)) (E acc m0 c0) = some (.nx (E (acc ++ ms.flatMap fun m => (List.range q).map (blk m)) m1 c1)) := by
    intro ms
    induction ms with
    | nil =>
      intro acc m0 c0 _ _
      refine ⟨m0, c0, ?_⟩
      rw [List.map_nil, List.flatMap_nil, List.append_nil]
      rfl
    | cons m ms ih =>
      intro acc m0 c0 hm hlen
      rw [List.length_cons, Nat.add_mul] at hlen
      obtain ⟨c1, g1⟩ := lpc (List.range q) acc m c0 (hm m (List.mem_cons_self ..)) (fun c hc => List.mem_range.mp hc) (by rw [List.length_range]; omega)
      obtain ⟨m2, c2, g2⟩ := ih (acc ++ (List.range q).map (blk m)) (some (.fz (.int (m : Nat)))) c1 (fun x hx => hm x (List.mem_cons_of_mem _ hx)) (by rw [List.length_append, List.length_map, List.length_range]; omega)
      refine ⟨m2, c2, ?_⟩
      rw [List.map_cons]
      refine (forD_cons (e1 := E acc (some (.fz (.int (m : Nat)))) c0) rfl ((sFor_of (rg 0 _ rfl)).trans g1)).trans ?_
      rw [g2, List.flatMap_cons, List.append_assoc]
  let blk2 : Nat → List Int := fun c => (List.range q).map fun y => ((c * q + y : Nat) : Int)
  have lp2 : ∀ (cs : List Nat) (acc : List (List Int)) (m c0 : Option EV), (∀ c ∈ cs, c < q) → acc.length + cs.length ≤ 1000 → ∃ c1, forD (setN 4) (sApp 2 flatElt2) (cs.map fun (i : Nat) => D.int (i : Int)) (E acc m c0) = some (.nx (E (acc ++ cs.map blk2) m c1)) := by
    intro cs
    induction cs with
    | nil =>
      intro acc m c0 _ _
      refine ⟨c0, ?_⟩
      rw [List.map_nil, List.map_nil, List.append_nil]
      rfl
    | cons c cs ih =>
      intro acc m c0 hc hlen
      rw [List.length_cons] at hlen
      obtain ⟨c1, g⟩ := ih (acc ++ [blk2 c]) m (some (.fz (.int (c : Nat)))) (fun x hx => hc x (List.mem_cons_of_mem _ hx)) (by rw [List.length_append]; simp; omega)
      refine ⟨c1, ?_⟩
      let e1 := E acc m (some (.fz (.int (c : Nat))))
      have lc : nLc [5] (iRg1 (aCons (dVar 1) aNil)) (setN 5) tYesD (bop gAdd (bop gMul (dVar 4) (dVar 1)) (dVar 5)) e1 = some ((List.range q).map fun y => D.int ((c * q + y : Nat) : Int)) := by
        refine nLc_all (fun (i : Nat) => D.int (i : Int)) _ (rg 0 e1 rfl) (by rw [List.length_range]; omega) fun y hy => ?_
        let e2 : Env := [some (.fz F), some (.fz (.int q)), some (.own (acc.map lI)), m, some (.fz (.int (c : Nat))), some (.fz (.int (y : Int))), none]
        refine ⟨e2, rfl, ?_⟩
        have t3 : bop gMul (dVar 4) (dVar 1) e2 = some (.int ((c * q : Nat) : Int)) := (bop_of (x := .int (c : Int)) (y := .int (q : Int)) rfl rfl).trans (by rw [gMul_of (by omega), Int.natCast_mul])
        refine (bop_of (y := .int (y : Int)) t3 rfl).trans ?_
        show some (D.int (((c * q : Nat) : Int) + ((y : Nat) : Int))) = _
        rw [Int.natCast_add]
      have v1 : flatElt2 e1 = some (lI (blk2 c)) := by
        show bnd _ _ = _
        rw [lc]
        show some (D.lst _) = some (D.lst (((List.range q).map fun y => ((c * q + y : Nat) : Int)).map D.int))
        rw [List.map_map]
        rfl
      have ap := sApp_of (i := 2) (ds := acc.map lI) v1 rfl (by rw [List.length_map]; omega)
      have ee : e1.set 2 (some (.own (acc.map lI ++ [lI (blk2 c)]))) = E (acc ++ [blk2 c]) m (some (.fz (.int (c : Nat)))) := by
        show [_, _, some (EV.own (acc.map lI ++ [lI (blk2 c)])), _, _, _, _] = [_, _, some (EV.own ((acc ++ [blk2 c]).map lI)), _, _, _, _]
        rw [List.map_append]
        rfl
      rw [ee] at ap
      rw [List.map_cons]
      refine (forD_cons (e1 := e1) rfl ap).trans ?_
      rw [g, List.map_cons, List.append_assoc]
      rfl
  have hlen : ((List.range q).flatMap fun m => (List.range q).map (blk m)).length ≤ 49 := by
    have := len_flat_le (n := q) (fun m => (List.range q).map (blk m)) (List.range q) fun x _ => by
      rw [List.length_map, List.length_range]
      exact Nat.le_refl _
    rw [List.length_range] at this
    omega
  obtain ⟨m1, c1, g1⟩ := lpm (List.range q) [] none none (fun m hm => List.mem_range.mp hm) (by rw [List.length_range]; simp; omega)
  obtain ⟨c2, g2⟩ := lp2 (List.range q) ([] ++ (List.range q).flatMap fun m => (List.range q).map (blk m)) m1 c1 (fun c hc => List.mem_range.mp hc) (by rw [List.length_range, List.nil_append]; omega)
  have k1 : sFor (iRg1 (aCons (dVar 1) aNil)) (setN 3) (sFor (iRg1 (aCons (dVar 1) aNil)) (setN 4) (sApp 2 flatElt)) (E [] none none) = _ := (sFor_of (rg 0 _ rfl)).trans g1
  have k2 : sFor (iRg1 (aCons (dVar 1) aNil)) (setN 4) (sApp 2 flatElt2) (E ([] ++ (List.range q).flatMap fun m => (List.range q).map (blk m)) m1 c1) = _ := (sFor_of (rg 0 _ rfl)).trans g2
  show outD (sSeq (sFor (iRg1 (aCons (dVar 1) aNil)) (setN 3) (sFor (iRg1 (aCons (dVar 1) aNil)) (setN 4) (sApp 2 flatElt))) (sSeq (sFor (iRg1 (aCons (dVar 1) aNil)) (setN 4) (sApp 2 flatElt2)) _) (E [] none none)) = _
  rw [sSeq_of k1, sSeq_of k2]
  rw [List.nil_append]
  obtain ⟨b1, b2⟩ := blkB_ok hb
  have lay := layout_of_ok (v := q * q) (bs := flatB q) (by omega) (by omega) b1 b2
  have t3 : bop gMul (dVar 1) (dVar 1) [some (.fz F), some (.fz (.int q)), some (.fz (.lst ((flatB q).map lI))), m1, c2, none, none] = some (.int ((q * q : Nat) : Int)) := (bop_of (x := .int (q : Int)) (y := .int (q : Int)) rfl rfl).trans (by rw [gMul_of (by omega), Int.natCast_mul])
  have fin : cll (aCons (bop gMul (dVar 1) (dVar 1)) (aCons (dVar 2) aNil)) d_layout_of [some (.fz F), some (.fz (.int q)), some (.fz (.lst ((flatB q).map lI))), m1, c2, none, none] = some (.tup [.int ((q * q : Nat) : Int), .tup ((flatB q).map tI)]) := (cll2 t3 rfl).trans lay
  show outD (sRet (cll (aCons (bop gMul (dVar 1) (dVar 1)) (aCons (dVar 2) aNil)) d_layout_of) [some (.fz F), some (.fz (.int q)), some (.fz (.lst ((flatB q).map lI))), m1, c2, none, none]) = _
  rw [sRet_at fin]
  rfl
end
end EM
set_option maxHeartbeats 1000000
namespace EM
open PySem PySem.Spec PyProof.Rows L2
def layD (n : Nat) (bs : List (List Int)) : D := .tup [.int n, .tup (bs.map tI)]
def goodB (n : Nat) (bs : List (List Int)) : Bool := blkB n bs && (layB n (layD n bs) && layB n (layD n (bs.map (compl n))))
theorem tl2 : (trips 2).length = 2 * 2 + 2 + 1 := by decide +kernel
theorem gpa2 : blkB (2 * 2 + 2 + 1) (planeB 2) = true := by decide +kernel
theorem gpb2 : layB (2 * 2 + 2 + 1) (layD (2 * 2 + 2 + 1) (planeB 2)) = true := by decide +kernel
theorem gpc2 : layB (2 * 2 + 2 + 1) (layD (2 * 2 + 2 + 1) ((planeB 2).map (compl (2 * 2 + 2 + 1)))) = true := by decide +kernel
theorem gp2 : goodB (2 * 2 + 2 + 1) (planeB 2) = true := Bool.and_eq_true_iff.mpr ⟨gpa2, Bool.and_eq_true_iff.mpr ⟨gpb2, gpc2⟩⟩
theorem gfa2 : blkB (2 * 2) (flatB 2) = true := by decide +kernel
theorem gfb2 : layB (2 * 2) (layD (2 * 2) (flatB 2)) = true := by decide +kernel
theorem gfc2 : layB (2 * 2) (layD (2 * 2) ((flatB 2).map (compl (2 * 2)))) = true := by decide +kernel
theorem gf2 : goodB (2 * 2) (flatB 2) = true := Bool.and_eq_true_iff.mpr ⟨gfa2, Bool.and_eq_true_iff.mpr ⟨gfb2, gfc2⟩⟩
theorem tl3 : (trips 3).length = 3 * 3 + 3 + 1 := by decide +kernel
theorem gpa3 : blkB (3 * 3 + 3 + 1) (planeB 3) = true := by decide +kernel
theorem gpb3 : layB (3 * 3 + 3 + 1) (layD (3 * 3 + 3 + 1) (planeB 3)) = true := by decide +kernel
theorem gpc3 : layB (3 * 3 + 3 + 1) (layD (3 * 3 + 3 + 1) ((planeB 3).map (compl (3 * 3 + 3 + 1)))) = true := by decide +kernel
theorem gp3 : goodB (3 * 3 + 3 + 1) (planeB 3) = true := Bool.and_eq_true_iff.mpr ⟨gpa3, Bool.and_eq_true_iff.mpr ⟨gpb3, gpc3⟩⟩
theorem gfa3 : blkB (3 * 3) (flatB 3) = true := by decide +kernel
theorem gfb3 : layB (3 * 3) (layD (3 * 3) (flatB 3)) = true := by decide +kernel
theorem gfc3 : layB (3 * 3) (layD (3 * 3) ((flatB 3).map (compl (3 * 3)))) = true := by decide +kernel
theorem gf3 : goodB (3 * 3) (flatB 3) = true := Bool.and_eq_true_iff.mpr ⟨gfa3, Bool.and_eq_true_iff.mpr ⟨gfb3, gfc3⟩⟩
theorem tl4 : (trips 4).length = 4 * 4 + 4 + 1 := by decide +kernel
theorem gpa4 : blkB (4 * 4 + 4 + 1) (planeB 4) = true := by decide +kernel
theorem gpb4 : layB (4 * 4 + 4 + 1) (layD (4 * 4 + 4 + 1) (planeB 4)) = true := by decide +kernel
theorem gpc4 : layB (4 * 4 + 4 + 1) (layD (4 * 4 + 4 + 1) ((planeB 4).map (compl (4 * 4 + 4 + 1)))) = true := by decide +kernel
theorem gp4 : goodB (4 * 4 + 4 + 1) (planeB 4) = true := Bool.and_eq_true_iff.mpr ⟨gpa4, Bool.and_eq_true_iff.mpr ⟨gpb4, gpc4⟩⟩
theorem gfa4 : blkB (4 * 4) (flatB 4) = true := by decide +kernel
theorem gfb4 : layB (4 * 4) (layD (4 * 4) (flatB 4)) = true := by decide +kernel
theorem gfc4 : layB (4 * 4) (layD (4 * 4) ((flatB 4).map (compl (4 * 4)))) = true := by decide +kernel
theorem gf4 : goodB (4 * 4) (flatB 4) = true := Bool.and_eq_true_iff.mpr ⟨gfa4, Bool.and_eq_true_iff.mpr ⟨gfb4, gfc4⟩⟩
theorem tl5 : (trips 5).length = 5 * 5 + 5 + 1 := by decide +kernel
theorem gpa5 : blkB (5 * 5 + 5 + 1) (planeB 5) = true := by decide +kernel
theorem gpb5 : layB (5 * 5 + 5 + 1) (layD (5 * 5 + 5 + 1) (planeB 5)) = true := by decide +kernel
theorem gpc5 : layB (5 * 5 + 5 + 1) (layD (5 * 5 + 5 + 1) ((planeB 5).map (compl (5 * 5 + 5 + 1)))) = true := by decide +kernel
theorem gp5 : goodB (5 * 5 + 5 + 1) (planeB 5) = true := Bool.and_eq_true_iff.mpr ⟨gpa5, Bool.and_eq_true_iff.mpr ⟨gpb5, gpc5⟩⟩
theorem gfa5 : blkB (5 * 5) (flatB 5) = true := by decide +kernel
theorem gfb5 : layB (5 * 5) (layD (5 * 5) (flatB 5)) = true := by decide +kernel
theorem gfc5 : layB (5 * 5) (layD (5 * 5) ((flatB 5).map (compl (5 * 5)))) = true := by decide +kernel
theorem gf5 : goodB (5 * 5) (flatB 5) = true := Bool.and_eq_true_iff.mpr ⟨gfa5, Bool.and_eq_true_iff.mpr ⟨gfb5, gfc5⟩⟩
theorem tl7 : (trips 7).length = 7 * 7 + 7 + 1 := by decide +kernel
theorem gpa7 : blkB (7 * 7 + 7 + 1) (planeB 7) = true := by decide +kernel
theorem gpb7 : layB (7 * 7 + 7 + 1) (layD (7 * 7 + 7 + 1) (planeB 7)) = true := by decide +kernel
theorem gpc7 : layB (7 * 7 + 7 + 1) (layD (7 * 7 + 7 + 1) ((planeB 7).map (compl (7 * 7 + 7 + 1)))) = true := by decide +kernel
theorem gp7 : goodB (7 * 7 + 7 + 1) (planeB 7) = true := Bool.and_eq_true_iff.mpr ⟨gpa7, Bool.and_eq_true_iff.mpr ⟨gpb7, gpc7⟩⟩
theorem gfa7 : blkB (7 * 7) (flatB 7) = true := by decide +kernel
theorem gfb7 : layB (7 * 7) (layD (7 * 7) (flatB 7)) = true := by decide +kernel
theorem gfc7 : layB (7 * 7) (layD (7 * 7) ((flatB 7).map (compl (7 * 7)))) = true := by decide +kernel
theorem gf7 : goodB (7 * 7) (flatB 7) = true := Bool.and_eq_true_iff.mpr ⟨gfa7, Bool.and_eq_true_iff.mpr ⟨gfb7, gfc7⟩⟩
theorem cf2 : d_check_field [.int 2, .kt [.int 0, .int 1]] = some .non := by kernel_rfl
theorem cf3 : d_check_field [.int 3, .kt [.int 0, .int 1]] = some .non := by kernel_rfl
theorem cf4 : d_check_field [.int 2, .kt [.int 1, .int 1, .int 1]] = some .non := by kernel_rfl
theorem cf5 : d_check_field [.int 5, .kt [.int 0, .int 1]] = some .non := by kernel_rfl
theorem cf7 : d_check_field [.int 7, .kt [.int 0, .int 1]] = some .non := by kernel_rfl
def adds (v q : Nat) : List (List (List Int)) := (if v = q * q + q + 1 then [planeB q] else []) ++ (if v = q * q then [flatB q] else [])
def nlBody : Env → Option Res := (sSeq (sSet 4 (cll (aCons (dVar 2) (aCons (dVar 3) aNil)) (dField d_check_field)))
    (sSeq (sSet 5 (mll (dVar 4) aNil d_Field_size))
    (sSeq (sIf (tOfD (bop gEq (dVar 0) (bop gAdd (bop gAdd (bop gMul (dVar 5) (dVar 5)) (dVar 5)) (dC (.int 1))))) (sApp 1 (cll (aCons (dVar 4) aNil) d_plane_of)) sNil)
    (sIf (tOfD (bop gEq (dVar 0) (bop gMul (dVar 5) (dVar 5)))) (sApp 1 (cll (aCons (dVar 4) aNil) d_flat_of)) sNil))))
def nlE (v : Nat) (acc : List (List (List Int))) (a b c d : Option EV) : Env := [some (.fz (.int v)), some (.own (acc.map (layD v))), a, b, c, d, none]
theorem nl_step {v q : Nat} {p : Int} {row : List D} (f : FOk q (.fld (.int p) (.kt row))) (cf : d_check_field [.int p, .kt row] = some .non) (tl : (trips q).length = q * q + q + 1) (gp : goodB (q * q + q + 1) (planeB q) = true) (gf : goodB (q * q) (flatB q) = true) (acc : List (List (List Int))) (a b c d : Option EV) (hl : acc.length ≤ 100) :
    ∃ a' b' c' d', setT [2, 3] (.kt [.int p, .kt row]) (nlE v acc a b c d) = some (nlE v acc (some (.fz (.int p))) (some (.fz (.kt row))) c d) ∧ nlBody (nlE v acc (some (.fz (.int p))) (some (.fz (.kt row))) c d) = some (.nx (nlE v (acc ++ adds v q) a' b' c' d')) := by
  have hq := f.q7
  let F : D := .fld (.int p) (.kt row)
  let E : List (List (List Int)) → Env := fun acc => nlE v acc (some (.fz (.int p))) (some (.fz (.kt row))) (some (.fz F)) (some (.fz (.int q)))
  refine ⟨some (.fz (.int p)), some (.fz (.kt row)), some (.fz F), some (.fz (.int q)), rfl, ?_⟩
  unfold nlBody
  have s1 : sSet 4 (cll (aCons (dVar 2) (aCons (dVar 3) aNil)) (dField d_check_field)) (nlE v acc (some (.fz (.int p))) (some (.fz (.kt row))) c d) = some (.nx (nlE v acc (some (.fz (.int p))) (some (.fz (.kt row))) (some (.fz F)) d)) := by
    refine sSet_of (d := F) ((cll2 rfl rfl).trans ?_)
    show bnd (d_check_field [.int p, .kt row]) _ = _
    rw [cf]
    rfl
  have s2 : sSet 5 (mll (dVar 4) aNil d_Field_size) (nlE v acc (some (.fz (.int p))) (some (.fz (.kt row))) (some (.fz F)) d) = some (.nx (E acc)) := by
    refine sSet_of (d := .int q) ?_
    show d_Field_size [F] = _
    exact f.size
  rw [sSeq_of s1, sSeq_of s2]
  have sq : ∀ acc, bop gMul (dVar 5) (dVar 5) (E acc) = some (.int ((q * q : Nat) : Int)) := fun acc => (bop_of (x := .int (q : Int)) (y := .int (q : Int)) rfl rfl).trans (by rw [gMul_of (by omega), Int.natCast_mul])
  have t1 : tOfD (bop gEq (dVar 0) (bop gAdd (bop gAdd (bop gMul (dVar 5) (dVar 5)) (dVar 5)) (dC (.int 1)))) (E acc) = some (decide (v = q * q + q + 1)) := by
    have a1 : bop gAdd (bop gAdd (bop gMul (dVar 5) (dVar 5)) (dVar 5)) (dC (.int 1)) (E acc) = some (.int ((q * q + q + 1 : Nat) : Int)) := by
      refine (bop_of ((bop_of (y := .int (q : Int)) (sq acc) rfl).trans rfl) rfl).trans ?_
      show some (D.int (((q * q : Nat) : Int) + (q : Int) + 1)) = _
      rw [show ((q * q : Nat) : Int) + (q : Int) + 1 = ((q * q + q + 1 : Nat) : Int) by omega]
    refine tOfD_of ((bop_of (x := .int (v : Int)) rfl a1).trans ((gEq_int _ _).trans ?_))
    congr 2
    rw [Bool.eq_iff_iff, beq_iff_eq, decide_eq_true_eq]
    omega
  have gp' := gp
  have gf' := gf
  unfold goodB at gp' gf'
  rw [Bool.and_eq_true] at gp' gf'
  have st1 : sIf (tOfD (bop gEq (dVar 0) (bop gAdd (bop gAdd (bop gMul (dVar 5) (dVar 5)) (dVar 5)) (dC (.int 1))))) (sApp 1 (cll (aCons (dVar 4) aNil) d_plane_of)) sNil (E acc) = some (.nx (E (acc ++ if v = q * q + q + 1 then [planeB q] else []))) := by
    by_cases hv : v = q * q + q + 1
    · rw [if_pos hv]
      have e1 : cll (aCons (dVar 4) aNil) d_plane_of (E acc) = some (layD v (planeB q)) := by
        refine (cll1 rfl).trans ((plane_eq f tl gp'.1).trans ?_)
        rw [← hv]
        rfl
      refine sIf_t (t1.trans (by rw [decide_eq_true hv])) ((sApp_of (i := 1) (ds := acc.map (layD v)) e1 rfl (by rw [List.length_map]; omega)).trans ?_)
      show some (Res.nx [_, some (.own (acc.map (layD v) ++ [layD v (planeB q)])), _, _, _, _, _]) = some (Res.nx [_, some (.own ((acc ++ [planeB q]).map (layD v))), _, _, _, _, _])
      rw [List.map_append]
      rfl
    · rw [if_neg hv, List.append_nil]
      exact sIf_skip (t1.trans (by rw [decide_eq_false hv]))
  rw [sSeq_of st1]
  generalize hacc : (acc ++ if v = q * q + q + 1 then [planeB q] else []) = acc2
  have hl2 : acc2.length ≤ 101 := by
    rw [← hacc, List.length_append]
    split <;> simp <;> omega
  have t2 : tOfD (bop gEq (dVar 0) (bop gMul (dVar 5) (dVar 5))) (E acc2) = some (decide (v = q * q)) := by
    refine tOfD_of ((bop_of (x := .int (v : Int)) rfl (sq acc2)).trans ((gEq_int _ _).trans ?_))
    congr 2
    rw [Bool.eq_iff_iff, beq_iff_eq, decide_eq_true_eq]
    omega
  have fin : acc ++ adds v q = acc2 ++ if v = q * q then [flatB q] else [] := by
    rw [← hacc, List.append_assoc]
    rfl
  rw [fin]
  by_cases hv : v = q * q
  · rw [if_pos hv]
    have e1 : cll (aCons (dVar 4) aNil) d_flat_of (E acc2) = some (layD v (flatB q)) := by
      refine (cll1 rfl).trans ((flat_eq f gf'.1).trans ?_)
      rw [← hv]
      rfl
    refine sIf_t (t2.trans (by rw [decide_eq_true hv])) ((sApp_of (i := 1) (ds := acc2.map (layD v)) e1 rfl (by rw [List.length_map]; omega)).trans ?_)
    show some (Res.nx [_, some (.own (acc2.map (layD v) ++ [layD v (flatB q)])), _, _, _, _, _]) = some (Res.nx [_, some (.own ((acc2 ++ [flatB q]).map (layD v))), _, _, _, _, _])
    rw [List.map_append]
    rfl
  · rw [if_neg hv, List.append_nil]
    exact sIf_skip (t2.trans (by rw [decide_eq_false hv]))
def L5 (v : Nat) : List (List (List Int)) := adds v 2 ++ adds v 3 ++ adds v 4 ++ adds v 5 ++ adds v 7
theorem adds_len (v q : Nat) : (adds v q).length ≤ 2 := by
  unfold adds
  rw [List.length_append]
  split <;> split <;> simp
theorem adds_good {v q : Nat} (gp : goodB (q * q + q + 1) (planeB q) = true) (gf : goodB (q * q) (flatB q) = true) : ∀ bs ∈ adds v q, goodB v bs = true := by
  intro bs h
  unfold adds at h
  rcases List.mem_append.mp h with h | h
  · split at h
    · rename_i e
      rw [List.mem_singleton] at h
      rw [h, e]
      exact gp
    · cases h
  · split at h
    · rename_i e
      rw [List.mem_singleton] at h
      rw [h, e]
      exact gf
    · cases h
theorem L5_good {v : Nat} : ∀ bs ∈ L5 v, goodB v bs = true := by
  intro bs h
  unfold L5 at h
  simp only [List.mem_append] at h
  rcases h with (((h | h) | h) | h) | h
  · exact adds_good gp2 gf2 bs h
  · exact adds_good gp3 gf3 bs h
  · exact adds_good gp4 gf4 bs h
  · exact adds_good gp5 gf5 bs h
  · exact adds_good gp7 gf7 bs h
theorem named_layouts_eq (v : Nat) (hv : v ≤ 200) : d_named_layouts [.int v] = some (.lst ((L5 v).map (layD v) ++ (L5 v).map fun (bs : List (List Int)) => layD v (bs.map (compl v)))) := by
  unfold d_named_layouts
  refine (runD_at rfl).trans ?_
  unfold g_named_layouts
  show outD (sSeq _ _ [some (.fz (.int v)), none, none, none, none, none, none]) = _
  rw [sSeq_of (e := nlE v [] none none none none) rfl]
  have l2 := adds_len v 2
  have l3 := adds_len v 3
  have l4 := adds_len v 4
  have l5 := adds_len v 5
  have l7 := adds_len v 7
  obtain ⟨a1, b1, c1, d1, q1, r1⟩ := nl_step (v := v) fok2 cf2 tl2 gp2 gf2 [] none none none none (by simp)
  obtain ⟨a2, b2, c2, d2, q2, r2⟩ := nl_step (v := v) fok3 cf3 tl3 gp3 gf3 ([] ++ adds v 2) a1 b1 c1 d1 (by simp; omega)
  obtain ⟨a3, b3, c3, d3, q3, r3⟩ := nl_step (v := v) fok4 cf4 tl4 gp4 gf4 ([] ++ adds v 2 ++ adds v 3) a2 b2 c2 d2 (by simp; omega)
  obtain ⟨a4, b4, c4, d4, q4, r4⟩ := nl_step (v := v) fok5 cf5 tl5 gp5 gf5 ([] ++ adds v 2 ++ adds v 3 ++ adds v 4) a3 b3 c3 d3 (by simp; omega)
  obtain ⟨a5, b5, c5, d5, q5, r5⟩ := nl_step (v := v) fok7 cf7 tl7 gp7 gf7 ([] ++ adds v 2 ++ adds v 3 ++ adds v 4 ++ adds v 5) a4 b4 c4 d4 (by simp; omega)
  have lp : sFor (iAny (dC dFIELDS)) (setT [2, 3]) nlBody (nlE v [] none none none none) = some (.nx (nlE v (L5 v) a5 b5 c5 d5)) := by
    rw [sFor_of (ds := [.kt [.int 2, .kt [.int 0, .int 1]], .kt [.int 3, .kt [.int 0, .int 1]], .kt [.int 2, .kt [.int 1, .int 1, .int 1]], .kt [.int 5, .kt [.int 0, .int 1]], .kt [.int 7, .kt [.int 0, .int 1]]]) rfl]
    rw [forD_cons q1 r1, forD_cons q2 r2, forD_cons q3 r3, forD_cons q4 r4, forD_cons q5 r5, List.nil_append]
    rfl
  show outD (sSeq (sFor (iAny (dC dFIELDS)) (setT [2, 3]) nlBody) _ (nlE v [] none none none none)) = _
  rw [sSeq_of lp]
  let E : Env := [some (.fz (.int v)), some (.fz (.lst ((L5 v).map (layD v)))), a5, b5, c5, d5, none]
  have hL : (L5 v).length ≤ 10 := by
    unfold L5
    simp only [List.length_append]
    omega
  have lc : nLc [6] (iAny (dVar 1)) (setN 6) tYesD (cll (aCons (dVar 6) aNil) d_complement) E = some ((L5 v).map fun (bs : List (List Int)) => layD v (bs.map (compl v))) := by
    refine nLc_all (xs := L5 v) (layD v) _ rfl (by omega) fun bs hbs => ⟨[some (.fz (.int v)), some (.fz (.lst ((L5 v).map (layD v)))), a5, b5, c5, d5, some (.fz (layD v bs))], rfl, ?_⟩
    have g := L5_good bs hbs
    unfold goodB at g
    rw [Bool.and_eq_true] at g
    exact (cll1 rfl).trans (complement_eq (by omega) (by have := (blkB_ok g.1).1; omega))
  have fin : bop gAdd (dVar 1) (fun env => bnd ((nLc [6] (iAny (dVar 1)) (setN 6) tYesD (cll (aCons (dVar 6) aNil) d_complement)) env) fun ds => some (.lst ds)) E = some (.lst ((L5 v).map (layD v) ++ (L5 v).map fun (bs : List (List Int)) => layD v (bs.map (compl v)))) := by
    refine (bop_of (x := .lst ((L5 v).map (layD v))) rfl (lstF lc)).trans ?_
    show (match (none : Option D) with
      | some d => some d
      | none => gCatL (.lst ((L5 v).map (layD v))) (.lst ((L5 v).map fun (bs : List (List Int)) => layD v (bs.map (compl v))))) = _
    show gCatL _ _ = _
    unfold gCatL
    show (if _ then _ else _) = _
    rw [if_pos (by rw [List.length_map, List.length_map]; omega)]
  show outD (sRet _ E) = _
  rw [sRet_at fin]
  rfl
theorem namedB_all (v : Nat) (hv : v ≤ 200) : namedB v = true := by
  unfold namedB
  rw [named_layouts_eq v hv]
  show ((L5 v).map (layD v) ++ (L5 v).map fun (bs : List (List Int)) => layD v (bs.map (compl v))).all (layB v) = true
  rw [List.all_append, Bool.and_eq_true, List.all_map, List.all_map]
  constructor
  · refine List.all_eq_true.mpr fun bs hbs => ?_
    have g := L5_good bs hbs
    unfold goodB at g
    rw [Bool.and_eq_true, Bool.and_eq_true] at g
    exact g.2.1
  · refine List.all_eq_true.mpr fun bs hbs => ?_
    have g := L5_good bs hbs
    unfold goodB at g
    rw [Bool.and_eq_true, Bool.and_eq_true] at g
    exact g.2.2
end EM
set_option maxHeartbeats 1000000
namespace EM
open PySem PySem.Spec PyProof.Rows L2
def isLay (v k l : Nat) (d : D) : Bool := layB v d && (match d with
  | .tup [.int _, .tup ds] => (match tupsOf ds with
    | some (b0 :: bs) => decide (b0.length = k) && decide (cnt2 (b0 :: bs) 0 1 = l) && decide ((b0 :: bs).length ≤ 200)
    | _ => false)
  | _ => false)
def turnB (v k l : Nat) : Bool := match d_named_design [WD v k l []] with
  | some .non => (match d_turned_design [WD v k l []] with
    | some .non => true
    | some d => isLay v k l d
    | none => false)
  | _ => true
def turnC (v k l : Nat) : Bool := decide (2 ≤ v) && decide (2 ≤ k) && decide (k ≤ v) && decide (1 ≤ l) && decide (l * (v - 1) / (k * (k - 1)) ≤ 3) && decide (l * (v - 1) / (k * (k - 1)) * k * (k - 1) = l * (v - 1))
theorem tb_2_2_2 : turnB 2 2 2 = true := by decide +kernel
theorem tb_2_2_4 : turnB 2 2 4 = true := by decide +kernel
theorem tb_2_2_6 : turnB 2 2 6 = true := by decide +kernel
theorem tb_3_2_1 : turnB 3 2 1 = true := by decide +kernel
theorem tb_3_2_2 : turnB 3 2 2 = true := by decide +kernel
theorem tb_3_2_3 : turnB 3 2 3 = true := by decide +kernel
theorem tb_3_3_3 : turnB 3 3 3 = true := by decide +kernel
theorem tb_3_3_6 : turnB 3 3 6 = true := by decide +kernel
theorem tb_3_3_9 : turnB 3 3 9 = true := by decide +kernel
theorem tb_4_2_2 : turnB 4 2 2 = true := by decide +kernel
theorem tb_4_3_2 : turnB 4 3 2 = true := by decide +kernel
theorem tb_4_3_4 : turnB 4 3 4 = true := by decide +kernel
theorem tb_4_3_6 : turnB 4 3 6 = true := by decide +kernel
theorem tb_4_4_4 : turnB 4 4 4 = true := by decide +kernel
theorem tb_4_4_8 : turnB 4 4 8 = true := by decide +kernel
theorem tb_4_4_12 : turnB 4 4 12 = true := by decide +kernel
theorem tb_5_2_1 : turnB 5 2 1 = true := by decide +kernel
theorem tb_5_3_3 : turnB 5 3 3 = true := by decide +kernel
theorem tb_5_4_3 : turnB 5 4 3 = true := by decide +kernel
theorem tb_5_4_6 : turnB 5 4 6 = true := by decide +kernel
theorem tb_5_4_9 : turnB 5 4 9 = true := by decide +kernel
theorem tb_7_2_1 : turnB 7 2 1 = true := by decide +kernel
theorem tb_7_3_1 : turnB 7 3 1 = true := by decide +kernel
theorem tb_7_3_2 : turnB 7 3 2 = true := by decide +kernel
theorem tb_7_3_3 : turnB 7 3 3 = true := by decide +kernel
theorem tb_7_4_2 : turnB 7 4 2 = true := by decide +kernel
theorem tb_7_4_4 : turnB 7 4 4 = true := by decide +kernel
theorem tb_7_4_6 : turnB 7 4 6 = true := by decide +kernel
theorem tb_9_4_3 : turnB 9 4 3 = true := by decide +kernel
theorem tb_10_3_2 : turnB 10 3 2 = true := by decide +kernel
theorem tb_10_4_4 : turnB 10 4 4 = true := by decide +kernel
theorem tb_13_3_1 : turnB 13 3 1 = true := by decide +kernel
theorem tb_13_4_1 : turnB 13 4 1 = true := by decide +kernel
theorem tb_13_4_2 : turnB 13 4 2 = true := by decide +kernel
theorem tb_13_4_3 : turnB 13 4 3 = true := by decide +kernel
def turnL : List (Nat × Nat × Nat) := [(2, 2, 2), (2, 2, 4), (2, 2, 6), (3, 2, 1), (3, 2, 2), (3, 2, 3), (3, 3, 3), (3, 3, 6), (3, 3, 9), (4, 2, 2), (4, 3, 2), (4, 3, 4), (4, 3, 6), (4, 4, 4), (4, 4, 8), (4, 4, 12), (5, 2, 1), (5, 3, 3), (5, 4, 3), (5, 4, 6), (5, 4, 9), (7, 2, 1), (7, 3, 1), (7, 3, 2), (7, 3, 3), (7, 4, 2), (7, 4, 4), (7, 4, 6), (9, 4, 3), (10, 3, 2), (10, 4, 4), (13, 3, 1), (13, 4, 1), (13, 4, 2), (13, 4, 3)]
theorem turn_in : ((List.range 14).all fun v => (List.range 5).all fun k => (List.range 40).all fun l => if turnC v k l then turnL.contains (v, k, l) else true) = true := by decide +kernel
theorem turn_mem : ∀ q ∈ turnL, turnB q.1 q.2.1 q.2.2 = true := by
  intro q h
  unfold turnL at h
  simp only [List.mem_cons, List.not_mem_nil, or_false] at h
  rcases h with rfl | rfl | rfl | rfl | rfl | rfl | rfl | rfl | rfl | rfl | rfl | rfl | rfl | rfl | rfl | rfl | rfl | rfl | rfl | rfl | rfl | rfl | rfl | rfl | rfl | rfl | rfl | rfl | rfl | rfl | rfl | rfl | rfl | rfl | rfl
  · exact tb_2_2_2
  · exact tb_2_2_4
  · exact tb_2_2_6
  · exact tb_3_2_1
  · exact tb_3_2_2
  · exact tb_3_2_3
  · exact tb_3_3_3
  · exact tb_3_3_6
  · exact tb_3_3_9
  · exact tb_4_2_2
  · exact tb_4_3_2
  · exact tb_4_3_4
  · exact tb_4_3_6
  · exact tb_4_4_4
  · exact tb_4_4_8
  · exact tb_4_4_12
  · exact tb_5_2_1
  · exact tb_5_3_3
  · exact tb_5_4_3
  · exact tb_5_4_6
  · exact tb_5_4_9
  · exact tb_7_2_1
  · exact tb_7_3_1
  · exact tb_7_3_2
  · exact tb_7_3_3
  · exact tb_7_4_2
  · exact tb_7_4_4
  · exact tb_7_4_6
  · exact tb_9_4_3
  · exact tb_10_3_2
  · exact tb_10_4_4
  · exact tb_13_3_1
  · exact tb_13_4_1
  · exact tb_13_4_2
  · exact tb_13_4_3
theorem isLay_ok {v k l : Nat} {d : D} (h : isLay v k l d = true) (h60 : v ≤ 60) (hv : 2 ≤ v) : ∃ bs, d = .tup [.int v, .tup (bs.map tI)] ∧ Design v k l [] bs := by
  unfold isLay at h
  rw [Bool.and_eq_true] at h
  obtain ⟨k', lam, bs, rfl, L, hk, hl⟩ := layB_ok h.1
  have h2 := h.2
  obtain ⟨b0, bs', rfl⟩ := List.exists_cons_of_ne_nil L.ne
  simp only [tupsOf_map, Bool.and_eq_true, decide_eq_true_eq] at h2
  obtain ⟨⟨a1, a2⟩, a3⟩ := h2
  have ek : k' = k := hk.symm.trans a1
  subst ek
  refine ⟨b0 :: bs', rfl, h60, L.kv, a3, L.ok, fun a b g1 g2 g3 => ?_, by simp, fun s hs => by cases hs⟩
  rw [L.even a b g1 g2 g3, ← L.even 0 1 (by omega) (by omega) (by omega), a2]
theorem turned_ok {v k l : Nat} (w : WOk v k l) (h60 : v ≤ 60) (hN : d_named_design [WD v k l []] = some .non) : ∃ d, d_turned_design [WD v k l []] = some d ∧ (d = .non ∨ ∃ bs, d = .tup [.int v, .tup (bs.map tI)] ∧ Design v k l [] bs) := by
  obtain ⟨h1, h2, h3, h4, h5, h6⟩ := id w
  let n := l * (v - 1) / (k * (k - 1))
  by_cases c : v ≤ 13 ∧ k ≤ 4 ∧ n ≤ 3 ∧ n * k * (k - 1) = l * (v - 1)
  · obtain ⟨c1, c2, c3, c4⟩ := c
    have hl : l < 40 := by
      have a1 : l * (v - 1) ≤ 3 * (4 * 3) := by
        rw [← c4]
        have : n * k * (k - 1) ≤ 3 * 4 * 3 := Nat.mul_le_mul (Nat.mul_le_mul c3 c2) (by omega)
        omega
      have a2 : l * 1 ≤ l * (v - 1) := Nat.mul_le_mul_left _ (by omega)
      omega
    have z := List.all_eq_true.mp (List.all_eq_true.mp (List.all_eq_true.mp turn_in v (List.mem_range.mpr (by omega))) k (List.mem_range.mpr (by omega))) l (List.mem_range.mpr hl)
    have ct : turnC v k l = true := by
      unfold turnC
      rw [decide_eq_true h1, decide_eq_true h3, decide_eq_true h4, decide_eq_true h5, decide_eq_true (show l * (v - 1) / (k * (k - 1)) ≤ 3 from c3), decide_eq_true (show l * (v - 1) / (k * (k - 1)) * k * (k - 1) = l * (v - 1) from c4)]
      rfl
    rw [if_pos ct] at z
    have z := turn_mem _ (List.contains_iff_mem.mp z)
    unfold turnB at z
    simp only at z
    rw [hN] at z
    simp only at z
    split at z
    · rename_i e
      exact ⟨_, e, .inl rfl⟩
    · rename_i d _ e
      exact ⟨d, e, .inr (isLay_ok z h60 h1)⟩
    · cases z
  · refine ⟨.non, ?_, .inl rfl⟩
    unfold d_turned_design
    rw [show runD 1 7 g_turned_design [WD v k l []] = outD (g_turned_design [some (.fz (WD v k l [])), none, none, none, none, none, none]) from rfl]
    unfold g_turned_design
    let E : Option EV → Env := fun x => [some (.fz (WD v k l [])), x, none, some (.fz (.int v)), some (.fz (.int k)), some (.fz (.int l)), some (.fz (.tup []))]
    have v1 : ∀ x, bop gSub (dVar 3) (dC (.int 1)) (E x) = some (.int ((v - 1 : Nat) : Int)) := fun x => by
      show some (D.int ((v : Int) - 1)) = _
      rw [show (v : Int) - 1 = ((v - 1 : Nat) : Int) by omega]
    have k1 : ∀ x, bop gSub (dVar 4) (dC (.int 1)) (E x) = some (.int ((k - 1 : Nat) : Int)) := fun x => by
      show some (D.int ((k : Int) - 1)) = _
      rw [show (k : Int) - 1 = ((k - 1 : Nat) : Int) by omega]
    have e1 : ∀ x, bop gMul (dVar 5) (bop gSub (dVar 3) (dC (.int 1))) (E x) = some (.int ((l * (v - 1) : Nat) : Int)) := fun x => (bop_of (x := .int l) rfl (v1 x)).trans (by rw [gMul_of (by omega), Int.natCast_mul])
    have e2 : ∀ x, bop gMul (dVar 4) (bop gSub (dVar 4) (dC (.int 1))) (E x) = some (.int ((k * (k - 1) : Nat) : Int)) := fun x => (bop_of (x := .int k) rfl (k1 x)).trans (by rw [gMul_of (by omega), Int.natCast_mul])
    have kk : 0 < k * (k - 1) := Nat.mul_pos (by omega) (by omega)
    have kk2 : k * (k - 1) ≤ 200 * 200 := Nat.mul_le_mul (by omega) (by omega)
    have e3 : bop gDiv (bop gMul (dVar 5) (bop gSub (dVar 3) (dC (.int 1)))) (bop gMul (dVar 4) (bop gSub (dVar 4) (dC (.int 1)))) (E none) = some (.int (n : Nat)) := (bop_of (e1 none) (e2 none)).trans (gDiv_nat (by omega) (by omega))
    rw [sSeq_of (e := E none) rfl, sSeq_of (e := E (some (.fz (.int (n : Nat))))) (sSet_of e3)]
    let x : Option EV := some (.fz (.int (n : Nat)))
    have t1 : tOfD (bop gGt (dVar 3) (dC (.int 13))) (E x) = some (decide ((13 : Int) < (v : Int))) := rfl
    have t2 : tOfD (bop gGt (dVar 4) (dC (.int 4))) (E x) = some (decide ((4 : Int) < (k : Int))) := rfl
    have t3 : tOfD (bop gGt (dVar 1) (dC (.int 3))) (E x) = some (decide ((3 : Int) < ((n : Nat) : Int))) := rfl
    have hn : n ≤ l * (v - 1) := Nat.div_le_self _ _
    have t4 : tOfD (bop gNe (bop gMul (bop gMul (dVar 1) (dVar 4)) (bop gSub (dVar 4) (dC (.int 1)))) (bop gMul (dVar 5) (bop gSub (dVar 3) (dC (.int 1))))) (E x) = some (!(((n * k * (k - 1) : Nat) : Int) == ((l * (v - 1) : Nat) : Int))) := by
      have a1 : bop gMul (dVar 1) (dVar 4) (E x) = some (.int ((n * k : Nat) : Int)) := (bop_of (x := .int (n : Nat)) (y := .int (k : Int)) rfl rfl).trans (by rw [gMul_of (by omega), Int.natCast_mul])
      have a2 : bop gMul (bop gMul (dVar 1) (dVar 4)) (bop gSub (dVar 4) (dC (.int 1))) (E x) = some (.int ((n * k * (k - 1) : Nat) : Int)) := (bop_of a1 (k1 x)).trans (by rw [gMul_of (by omega), Int.natCast_mul (n * k)])
      exact tOfD_of ((bop_of a2 (e1 x)).trans (gNe_int _ _))
    have tt := tOrD_of t1 fun _ => tOrD_of t2 fun _ => tOrD_of t3 fun _ => t4
    have tr : (decide ((13 : Int) < (v : Int)) || (decide ((4 : Int) < (k : Int)) || (decide ((3 : Int) < ((n : Nat) : Int)) || !(((n * k * (k - 1) : Nat) : Int) == ((l * (v - 1) : Nat) : Int))))) = true := by
      rw [Bool.or_eq_true, Bool.or_eq_true, Bool.or_eq_true, decide_eq_true_eq, decide_eq_true_eq, decide_eq_true_eq, Bool.not_eq_true', beq_eq_false_iff_ne]
      by_cases a1 : v ≤ 13
      · by_cases a2 : k ≤ 4
        · by_cases a3 : n ≤ 3
          · refine .inr (.inr (.inr fun z => c ⟨a1, a2, a3, ?_⟩))
            exact Int.ofNat.inj z
          · exact .inr (.inr (.inl (by omega)))
        · exact .inr (.inl (by omega))
      · exact .inl (by omega)
    rw [sSeq_rt (sIf_t (tt.trans (by rw [tr])) (sRet_at (d := .non) rfl))]
    rfl
end EM
set_option maxHeartbeats 1000000
namespace EM
open PySem PySem.Spec PyProof.Rows L2
theorem fm_congr {α β : Type} {f g : α → List β} : ∀ xs : List α, (∀ x ∈ xs, f x = g x) → xs.flatMap f = xs.flatMap g
  | [], _ => rfl
  | x :: xs, h => by
    rw [List.flatMap_cons, List.flatMap_cons, h x (List.mem_cons_self ..), fm_congr xs fun y hy => h y (List.mem_cons_of_mem _ hy)]
/-! sets by lengthening at the end -/
def okEnd (m : List Int) (p : Int) : Bool := m.isEmpty || decide (m.getLastD 0 < p)
def longer (ps : List Int) (ms : List (List Int)) : List (List Int) := ms.flatMap fun m => (ps.filter (okEnd m)).map fun p => m ++ [p]
theorem okEnd_cons (x p : Int) (m : List Int) (h : m ≠ []) : okEnd (x :: m) p = okEnd m p := by
  unfold okEnd
  cases m with
  | nil => exact absurd rfl h
  | cons y m => rfl
theorem S_longer : ∀ (ps : List Int) (n : Nat), ps.Pairwise (· < ·) → longer ps (S ps n) = S ps (n + 1)
  | [], 0, _ => rfl
  | [], n + 1, _ => rfl
  | p :: ps, 0, h => by
    obtain ⟨h1, h2⟩ := List.pairwise_cons.mp h
    have ih := S_longer ps 0 h2
    rw [S_zero] at ih ⊢
    have e : longer (p :: ps) [[]] = [[p]] ++ longer ps [[]] := by
      unfold longer
      simp [okEnd]
    rw [e, ih]
    show [[p]] ++ S ps 1 = (S ps 0).map (p :: ·) ++ S ps 1
    rw [S_zero]
    rfl
  | p :: ps, n + 1, h => by
    obtain ⟨h1, h2⟩ := List.pairwise_cons.mp h
    have ih1 := S_longer ps n h2
    have ih2 := S_longer ps (n + 1) h2
    have split : longer (p :: ps) (S (p :: ps) (n + 1)) = longer (p :: ps) ((S ps n).map (p :: ·)) ++ longer (p :: ps) (S ps (n + 1)) := by
      unfold longer
      rw [← List.flatMap_append]
      rfl
    have e1 : longer (p :: ps) ((S ps n).map (p :: ·)) = (longer ps (S ps n)).map (p :: ·) := by
      unfold longer
      rw [List.flatMap_map, List.map_flatMap]
      refine fm_congr _ fun m hm => ?_
      obtain ⟨g1, g2⟩ := S_sub hm
      have ef : (p :: ps).filter (okEnd (p :: m)) = ps.filter (okEnd m) := by
        have np : okEnd (p :: m) p = false := by
          cases m with
          | nil => simp [okEnd]
          | cons y m =>
            rw [okEnd_cons p p (y :: m) (by simp)]
            have hl : (y :: m).getLastD 0 ∈ ps := g1.subset (List.getLast_mem (List.cons_ne_nil y m))
            have := h1 _ hl
            show (false || decide _) = false
            rw [Bool.false_or, decide_eq_false (by omega)]
        rw [List.filter_cons_of_neg (by rw [np]; exact Bool.false_ne_true)]
        apply List.filter_congr
        intro x hx
        cases m with
        | nil =>
          have := h1 x hx
          simp [okEnd, this]
        | cons y m => exact okEnd_cons p x (y :: m) (by simp)
      rw [ef, List.map_map]
      rfl
    have e2 : longer (p :: ps) (S ps (n + 1)) = longer ps (S ps (n + 1)) := by
      unfold longer
      refine fm_congr _ fun m hm => ?_
      obtain ⟨g1, g2⟩ := S_sub hm
      have np : okEnd m p = false := by
        cases m with
        | nil => cases g2
        | cons y m =>
          have hl : (y :: m).getLastD 0 ∈ ps := g1.subset (List.getLast_mem (List.cons_ne_nil y m))
          have := h1 _ hl
          show (false || decide _) = false
          rw [Bool.false_or, decide_eq_false (by omega)]
      rw [List.filter_cons_of_neg (by rw [np]; exact Bool.false_ne_true)]
    rw [split, e1, e2, ih1, ih2]
    rfl
end EM
set_option maxHeartbeats 1000000
namespace EM
open PySem PySem.Spec PyProof.Rows L2
theorem gAdd_end (m : List Int) (p : Int) (h : m.length < 1000) : gAdd (tI m) (.tup [.int p]) = some (tI (m ++ [p])) := by
  have : gCatT (.tup (m.map D.int)) (.tup [.int p]) = some (.tup (m.map D.int ++ [.int p])) := by
    unfold gCatT
    simp only [List.length_map, List.length_cons, List.length_nil]
    rw [if_pos (by omega)]
  show orD (iop0 fun i j => i + j) (orD gCatT gCatL) (.tup (m.map D.int)) (.tup [.int p]) = _
  unfold orD
  simp only [iop0]
  rw [this]
  show some (D.tup (m.map D.int ++ [D.int p])) = some (D.tup ((m ++ [p]).map D.int))
  rw [List.map_append]
  rfl
theorem gIx_last (y : Int) (m : List Int) : gIx (tI (y :: m)) (.int (-1)) = some (.int ((y :: m).getLastD 0)) := by
  show bnd (some ((y :: m).map D.int)) (fun ds => L2.atI ds (-1)) = _
  show L2.atI ((y :: m).map D.int) (-1) = _
  unfold L2.atI L2.ixN
  have hl : ((y :: m).map D.int).length = m.length + 1 := by simp
  rw [hl, if_neg (by decide), if_pos (by omega)]
  have e : (-1 + ((m.length + 1 : Nat) : Int)).toNat = m.length := by omega
  show ((y :: m).map D.int)[(-1 + ((m.length + 1 : Nat) : Int)).toNat]? = _
  rw [e, List.getElem?_map]
  have : (y :: m)[m.length]? = some ((y :: m).getLastD 0) := by
    show (y :: m)[m.length]? = some ((y :: m).getLast (List.cons_ne_nil y m))
    rw [List.getLast_eq_getElem]
    simp
  rw [this]
  rfl
theorem tEnd {fa fb : Env → Option D} {e : Env} {m : List Int} {p : Int} (h1 : fa e = some (tI m)) (h2 : fb e = some (.int p)) : tOrD (tOfD (bop gEq fa (dTup aNil))) (tOfD (bop gLt (bop gIx fa (uop gNeg (dC (.int 1)))) fb)) e = some (okEnd m p) := by
  have t1 : tOfD (bop gEq fa (dTup aNil)) e = some m.isEmpty := by
    refine tOfD_of ((bop_of h1 (y := .tup []) rfl).trans ((gEq_eqD (eqD_nil (gd_tI m))).trans ?_))
    cases m <;> rfl
  cases m with
  | nil => exact tOrD_of (b := true) (c := false) t1 fun z => by cases z
  | cons y m =>
    refine tOrD_of t1 fun _ => tOfD_of ?_
    refine (bop_of ((bop_of h1 (y := .int (-1)) rfl).trans (gIx_last y m)) h2).trans ?_
    rfl
def spElt : Env → Option D := fun env => bnd ((nLc [6] (iAny (dVar 0)) (setN 6) (tOrD (tOfD (bop gEq (dVar 5) (dTup aNil))) (tOfD (bop gLt (bop gIx (dVar 5) (uop gNeg (dC (.int 1)))) (dVar 6)))) (bop gAdd (dVar 5) (dTup (aCons (dVar 6) aNil)))) env) fun ds => some (.lst ds)
theorem sets_papers_eq (ps : List Int) (n : Nat) (hp : ps.Pairwise (· < ·)) (hl : ps.length ≤ 100) (hn : n ≤ 100) (hS : ∀ i, (S ps i).length ≤ 1000) : d_sets_of_papers [.lst (ps.map D.int), .int n] = some (.lst ((S ps n).map tI)) := by
  unfold d_sets_of_papers
  refine (runD_at rfl).trans ?_
  unfold g_sets_of_papers
  let E : List (List Int) → Option EV → Option EV → Option EV → Env := fun ms t lo so => [some (.fz (.lst (ps.map D.int))), some (.fz (.int n)), some (.fz (.lst (ms.map tI))), t, lo, so, none]
  show outD (sSeq _ _ [some (.fz (.lst (ps.map D.int))), some (.fz (.int n)), none, none, none, none, none]) = _
  rw [sSeq_of (e := E [[]] none none none) rfl]
  have inner : ∀ (i : Nat) (ms acc : List (List Int)) (ms0 : List (List Int)) (t so : Option EV), (∀ m ∈ ms, m.length < 1000) → (acc ++ longer ps ms).length ≤ 100000 → ∃ so', forD (setN 5) (sExt 4 spElt) (ms.map tI) (E ms0 t (some (.own (acc.map tI))) so) = some (.nx (E ms0 t (some (.own ((acc ++ longer ps ms).map tI))) so')) := by
    intro i ms
    induction ms with
    | nil =>
      intro acc ms0 t so _ _
      refine ⟨so, ?_⟩
      show some (Res.nx (E ms0 t (some (.own (acc.map tI))) so)) = some (Res.nx (E ms0 t (some (.own ((acc ++ []).map tI))) so))
      rw [List.append_nil]
    | cons m ms ih =>
      intro acc ms0 t so hm hlen
      have el : longer ps (m :: ms) = ((ps.filter (okEnd m)).map fun p => m ++ [p]) ++ longer ps ms := rfl
      rw [el, ← List.append_assoc] at hlen
      obtain ⟨so', g⟩ := ih (acc ++ (ps.filter (okEnd m)).map fun p => m ++ [p]) ms0 t (some (.fz (tI m))) (fun x hx => hm x (List.mem_cons_of_mem _ hx)) hlen
      refine ⟨so', ?_⟩
      let e1 := E ms0 t (some (.own (acc.map tI))) (some (.fz (tI m)))
      have lc : nLc [6] (iAny (dVar 0)) (setN 6) (tOrD (tOfD (bop gEq (dVar 5) (dTup aNil))) (tOfD (bop gLt (bop gIx (dVar 5) (uop gNeg (dC (.int 1)))) (dVar 6)))) (bop gAdd (dVar 5) (dTup (aCons (dVar 6) aNil))) e1 = some ((ps.filter (okEnd m)).map fun p => tI (m ++ [p])) :=
        nLc_of D.int (okEnd m) _ rfl (by omega) fun p _ => ⟨[some (.fz (.lst (ps.map D.int))), some (.fz (.int n)), some (.fz (.lst (ms0.map tI))), t, some (.own (acc.map tI)), some (.fz (tI m)), some (.fz (.int p))], rfl, tEnd rfl rfl, fun _ => (bop_of rfl rfl).trans (gAdd_end m p (hm m (List.mem_cons_self ..)))⟩
      have v1 : spElt e1 = some (.lst ((ps.filter (okEnd m)).map fun p => tI (m ++ [p]))) := by
        show bnd _ _ = _
        rw [lc]
        rfl
      have ex := sExt_of (i := 4) (ds := acc.map tI) v1 rfl (by
        rw [List.length_map, List.length_map]
        rw [List.length_append, List.length_append, List.length_map] at hlen
        omega)
      have ee : e1.set 4 (some (.own (acc.map tI ++ (ps.filter (okEnd m)).map fun p => tI (m ++ [p])))) = E ms0 t (some (.own ((acc ++ (ps.filter (okEnd m)).map fun p => m ++ [p]).map tI))) (some (.fz (tI m))) := by
        rw [List.map_append, List.map_map]
        rfl
      rw [ee] at ex
      rw [List.map_cons, el, ← List.append_assoc]
      exact (forD_cons (e1 := e1) rfl ex).trans g
  have outer : ∀ (d i : Nat) (t lo so : Option EV), i + d = n → ∃ t' lo' so', forD (setN 3) (sSeq (sSetN 4 (nLst aNil)) (sSeq (sFor (iAny (dVar 2)) (setN 5) (sExt 4 spElt)) (sFrz 4 (sSet 2 (dVar 4))))) ((List.range d).map fun (x : Nat) => D.int (((i + x : Nat) : Int))) (E (S ps i) t lo so) = some (.nx (E (S ps n) t' lo' so')) := by
    intro d
    induction d with
    | zero =>
      intro i t lo so h
      have : i = n := by omega
      subst this
      exact ⟨t, lo, so, rfl⟩
    | succ d ih =>
      intro i t lo so h
      have hlo : longer ps (S ps i) = S ps (i + 1) := S_longer ps i hp
      obtain ⟨so1, g1⟩ := inner 0 (S ps i) [] (S ps i) (some (.fz (.int ((i + 0 : Nat) : Int)))) so (fun m hm => by rw [(S_sub hm).2]; omega) (by rw [List.nil_append, hlo]; have := hS (i + 1); omega)
      rw [List.nil_append, hlo] at g1
      obtain ⟨t', lo', so', g2⟩ := ih (i + 1) (some (.fz (.int ((i + 0 : Nat) : Int)))) (some (.fz (.lst ((S ps (i + 1)).map tI)))) so1 (by omega)
      refine ⟨t', lo', so', ?_⟩
      rw [List.range_succ_eq_map, List.map_cons, List.map_map]
      have em : (List.range d).map ((fun (x : Nat) => D.int (((i + x : Nat) : Int))) ∘ Nat.succ) = (List.range d).map fun (x : Nat) => D.int (((i + 1 + x : Nat) : Int)) := by
        apply List.map_congr_left
        intro x _
        show D.int ((i + (x + 1) : Nat) : Int) = _
        rw [show i + (x + 1) = i + 1 + x by omega]
      rw [em]
      refine (forD_cons (e1 := E (S ps i) (some (.fz (.int ((i + 0 : Nat) : Int)))) lo so) rfl ?_).trans g2
      rw [sSeq_of (e := E (S ps i) (some (.fz (.int ((i + 0 : Nat) : Int)))) (some (.own [])) so) rfl]
      have g1' : sFor (iAny (dVar 2)) (setN 5) (sExt 4 spElt) (E (S ps i) (some (.fz (.int ((i + 0 : Nat) : Int)))) (some (.own [])) so) = some (.nx (E (S ps i) (some (.fz (.int ((i + 0 : Nat) : Int)))) (some (.own ((S ps (i + 1)).map tI))) so1)) := (sFor_of (ds := (S ps i).map tI) rfl).trans g1
      rw [sSeq_of g1']
      rfl
  obtain ⟨t', lo', so', g⟩ := outer n 0 none none none (by omega)
  have ri := iRg1_of (fa := aCons (dVar 1) aNil) (env := E [[]] none none none) (j := (n : Int)) rfl (by omega) (by omega)
  rw [Int.toNat_natCast] at ri
  have em : (List.range n).map (fun (x : Nat) => D.int (((0 + x : Nat) : Int))) = (List.range n).map fun (x : Nat) => D.int (x : Int) := by
    apply List.map_congr_left
    intro x _
    rw [Nat.zero_add]
  rw [em, S_zero] at g
  show outD (sSeq (sFor (iRg1 (aCons (dVar 1) aNil)) (setN 3) (sSeq (sSetN 4 (nLst aNil)) (sSeq (sFor (iAny (dVar 2)) (setN 5) (sExt 4 spElt)) (sFrz 4 (sSet 2 (dVar 4)))))) _ (E [[]] none none none)) = _
  rw [sSeq_of ((sFor_of ri).trans g)]
  rfl
section
variable {v k l : Nat} {bs : List (List Int)}
theorem over_paper_ok (w : WOk v k l) (hb : bs.length ≤ 1000) : ∃ d, d_over_paper [WD v k l bs] = some d ∧ ((d = .non ∧ ∀ a b : Int, 0 ≤ a → a < b → b < (v : Int) → cnt2 bs a b ≤ l) ∨ paperOk v k l bs d) := by
  rw [over_paper_eq v k l bs (by have := w.v200; omega) (by omega)]
  cases e : (pairsN v).find? (overQ l bs) with
  | none =>
    refine ⟨_, rfl, .inl ⟨rfl, fun a b g1 g2 g3 => ?_⟩⟩
    have z := List.find?_eq_none.mp e (a, b) (mem_pairsN.mpr ⟨g1, g2, g3⟩)
    unfold overQ at z
    rw [decide_eq_true_eq] at z
    simp only at z
    omega
  | some q =>
    have hq := mem_pairsN.mp (List.mem_of_find?_eq_some e)
    have ho := List.find?_some e
    refine ⟨_, rfl, .inr ⟨_, rfl, by simp, gd_tup fun d hd => ?_, paper_over ?_⟩⟩
    · simp only [List.mem_cons, List.not_mem_nil, or_false] at hd
      rcases hd with rfl | rfl | rfl
      · simp [gd, w_over]
      · simp [gd]
      · simp [gd]
    · rw [over_taken_eq v k l q.1 q.2 bs (by omega) hq.1 hq.2.1 hq.2.2, ho]
end
end EM
set_option maxHeartbeats 1000000
namespace EM
open PySem PySem.Spec PyProof.Rows L2
/-! the pairs of a block -/
def pr (m : List Int) : Int × Int := (m.getD 0 0, m.getD 1 0)
def prs (blk : List Int) : List (Int × Int) := (S blk 2).map pr
theorem prs_tI (blk : List Int) : (S blk 2).map tI = (prs blk).map pD := by
  unfold prs
  rw [List.map_map]
  apply List.map_congr_left
  intro m hm
  have := (S_sub hm).2
  match m, this with
  | [a, b], _ => rfl
theorem mem_prs {blk : List Int} {q : Int × Int} (h : q ∈ prs blk) (hi : incB blk = true) : q.1 ∈ blk ∧ q.2 ∈ blk ∧ q.1 < q.2 := by
  unfold prs at h
  obtain ⟨m, hm, rfl⟩ := List.mem_map.mp h
  obtain ⟨h1, h2⟩ := S_sub hm
  match m, h2, h1 with
  | [a, b], _, h1 =>
    have hp := (incB_ok hi).sublist h1
    exact ⟨h1.subset (by simp [pr]), h1.subset (by simp [pr]), (List.pairwise_cons.mp hp).1 b (by simp)⟩
theorem count_prs {blk : List Int} (hi : incB blk = true) {a b : Int} (hab : a < b) : (prs blk).count (a, b) = if memI a blk && memI b blk then 1 else 0 := by
  have key : ∀ ms : List (List Int), (∀ m ∈ ms, m.length = 2 ∧ incB m = true) → (ms.map pr).count (a, b) = cnt2 ms a b := by
    intro ms
    induction ms with
    | nil => exact fun _ => rfl
    | cons m ms ih =>
      intro h
      have h0 := h m (List.mem_cons_self ..)
      rw [List.map_cons, List.count_cons, ih fun x hx => h x (List.mem_cons_of_mem _ hx)]
      unfold cnt2
      rw [List.filter_cons]
      obtain ⟨hl, hinc⟩ := h0
      match m, hl, hinc with
      | [x, y], _, hinc =>
        have hxy : x < y := (List.pairwise_cons.mp (incB_ok hinc)).1 y (by simp)
        by_cases c : x = a ∧ y = b
        · obtain ⟨rfl, rfl⟩ := c
          have t : (memI x [x, y] && memI y [x, y]) = true := by simp [memI]
          rw [if_pos t, List.length_cons]
          simp [pr]
        · have t : ¬ (memI a [x, y] && memI b [x, y]) = true := by
            rw [Bool.and_eq_true, memI_mem, memI_mem]
            simp only [List.mem_cons, List.not_mem_nil, or_false]
            rintro ⟨z1, z2⟩
            apply c
            rcases z1 with z1 | z1 <;> rcases z2 with z2 | z2 <;> omega
          rw [if_neg t]
          have : ¬ (x, y) = (a, b) := fun z => c ⟨congrArg Prod.fst z, congrArg Prod.snd z⟩
          simp [pr, this]
  unfold prs
  rw [key (S blk 2) fun m hm => ⟨(S_sub hm).2, incB_of ((incB_ok hi).sublist (S_sub hm).1)⟩]
  by_cases c : memI a blk = true ∧ memI b blk = true
  · rw [c.1, c.2, cnt2_S blk 0 a b (inc_nodup (incB_ok hi)) (memI_mem.mp c.1) (memI_mem.mp c.2) (by omega), ch_zero]
    rfl
  · have z : (memI a blk && memI b blk) = false := by
      cases e1 : memI a blk <;> cases e2 : memI b blk <;> simp_all
    rw [z]
    by_cases c1 : memI a blk = true
    · have c2 : b ∉ blk := fun z => c ⟨c1, memI_mem.mpr z⟩
      rw [cnt2_comm, cnt2_out c2]
      rfl
    · have c2 : a ∉ blk := fun z => c1 (memI_mem.mpr z)
      rw [cnt2_out c2]
      rfl
/-! adding to pairs -/
def addC (c : Int) (m : Mp) (q : Int × Int) : Mp := mput m q (mg m q + c)
theorem mg_adds (c : Int) (p : Int × Int) : ∀ (qs : List (Int × Int)) (m : Mp), mg (qs.foldl (addC c) m) p = mg m p + c * (qs.count p : Nat)
  | [], m => by simp
  | q :: qs, m => by
    rw [List.foldl_cons, mg_adds c p qs, List.count_cons]
    unfold addC
    rw [mg_mput]
    by_cases h : p = q
    · subst h
      rw [if_pos rfl]
      simp only [beq_self_eq_true, if_true]
      rw [Int.natCast_add, Int.mul_add]
      omega
    · have : (q == p) = false := beq_eq_false_iff_ne.mpr fun z => h z.symm
      rw [if_neg h, this]
      simp
theorem mhas_mput (m : Mp) (p q : Int × Int) (v : Int) : mhas (mput m q v) p = (mhas m p || decide (p = q)) := by
  rw [← mget_mhas, mget_mput, ← mget_mhas]
  by_cases h : p = q
  · rw [if_pos h, decide_eq_true h, Bool.or_true]
    rfl
  · rw [if_neg h, decide_eq_false h, Bool.or_false]
theorem len_mput {m : Mp} {q : Int × Int} {v : Int} (h : mhas m q = true) : (mput m q v).length = m.length := by
  unfold mput
  rw [if_pos h, ← List.length_map (f := (·.1)), keys_mset, List.length_map]
theorem len_adds (c : Int) : ∀ (qs : List (Int × Int)) (m : Mp), (∀ q ∈ qs, mhas m q = true) → (qs.foldl (addC c) m).length = m.length ∧ ∀ p, mhas (qs.foldl (addC c) m) p = mhas m p
  | [], m, _ => ⟨rfl, fun _ => rfl⟩
  | q :: qs, m, h => by
    have h0 := h q (List.mem_cons_self ..)
    have hp : ∀ p, mhas (addC c m q) p = mhas m p := fun p => by
      unfold addC
      rw [mhas_mput]
      by_cases e : p = q
      · subst e
        rw [h0]
        rfl
      · rw [decide_eq_false e, Bool.or_false]
    obtain ⟨g1, g2⟩ := len_adds c qs (addC c m q) fun x hx => by rw [hp]; exact h x (List.mem_cons_of_mem _ hx)
    exact ⟨by rw [List.foldl_cons, g1]; exact len_mput h0, fun p => by rw [List.foldl_cons, g2, hp]⟩
theorem mget_of {m : Mp} {q : Int × Int} (h : mhas m q = true) : mget m q = some (mg m q) := by
  rw [← mget_mhas] at h
  obtain ⟨c, e⟩ := Option.isSome_iff_exists.mp h
  unfold mg
  rw [e]
  rfl
/-- what the Search holds -/
structure J (v k l : Nat) (T : SS) (bs : List (List Int)) : Prop where
  w : T.width = k
  s : T.spots = v
  m : T.most = l
  has : ∀ q ∈ pairsN v, mhas T.often q = true
  eq : ∀ q ∈ pairsN v, mg T.often q = (cnt2 bs q.1 q.2 : Nat)
  len : T.often.length ≤ 1000
section
variable {v k l : Nat} {T : SS} {bs : List (List Int)}
theorem often_at {fa : Env → Option D} {e : Env} {q : Int × Int} (j : J v k l T bs) (hq : q ∈ pairsN v) (hs : slfAt e = some T) (h : fa e = some (pD q)) : dOften fa e = some (.int (cnt2 bs q.1 q.2 : Nat)) := by
  unfold dOften
  rw [h]
  show bnd (slfAt e) _ = _
  rw [hs]
  show bnd (mget T.often q) _ = _
  rw [mget_of (j.has q hq), j.eq q hq]
  rfl
theorem lacking_eq (j : J v k l T bs) (hv : v ≤ 300) : d_Search_lacking T [] = some (match (pairsN v).find? (fun q => decide ((cnt2 bs q.1 q.2 : Nat) < l)) with
    | some q => pD q
    | none => .non) := by
  unfold d_Search_lacking
  rw [show runSr 1 2 g_Search_lacking T [] = outD (g_Search_lacking [some (.slf .read T), none]) from rfl]
  unfold g_Search_lacking
  have ff := for_find (set := setN 1) (body := sIf (tOfD (bop gLt (dOften (dVar 1)) (dSelf (fun S => S.most)))) (sRet (dVar 1)) sNil) pD (fun e => ∃ x : Option EV, e = [some (.slf .read T), x]) (fun q => decide ((cnt2 bs q.1 q.2 : Nat) < l)) pD (pairsN v) [some (.slf .read T), none]
    (fun e q hq hI => by
      obtain ⟨x, rfl⟩ := hI
      refine ⟨[some (.slf .read T), some (.fz (pD q))], [some (.slf .read T), some (.fz (pD q))], rfl, ?_⟩
      have t : tOfD (bop gLt (dOften (dVar 1)) (dSelf (fun S => S.most))) [some (.slf .read T), some (.fz (pD q))] = some (decide ((cnt2 bs q.1 q.2 : Nat) < l)) := by
        refine tOfD_of ((bop_of (often_at j hq rfl rfl) (y := .int l) (by rw [← j.m]; rfl)).trans ?_)
        show some (D.bl (decide (((cnt2 bs q.1 q.2 : Nat) : Int) < (l : Int)))) = _
        congr 2
        rw [Bool.eq_iff_iff, decide_eq_true_eq, decide_eq_true_eq]
        omega
      rw [sIf_of t]
      by_cases c : cnt2 bs q.1 q.2 < l
      · rw [decide_eq_true c, if_pos rfl, if_pos rfl]
        rfl
      · rw [decide_eq_false c, if_neg Bool.false_ne_true, if_neg Bool.false_ne_true]
        exact ⟨rfl, _, rfl⟩) ⟨none, rfl⟩
  have hi : iAny (cll (aCons (dSelf (fun S => S.spots)) aNil) d_pairs_of) [some (.slf .read T), none] = some ((pairsN v).map pD) := by
    unfold iAny
    rw [(cll1 (x := .int v) (by rw [← j.s]; rfl)).trans (pairs_of_eq v hv)]
    rfl
  cases e : (pairsN v).find? (fun q => decide ((cnt2 bs q.1 q.2 : Nat) < l)) with
  | some q =>
    rw [e] at ff
    obtain ⟨e', h1⟩ := ff
    rw [sSeq_rt ((sFor_of hi).trans h1)]
    rfl
  | none =>
    rw [e] at ff
    obtain ⟨e', h1, x, rfl⟩ := ff
    rw [sSeq_of ((sFor_of hi).trans h1)]
    rfl
theorem prs_in {blk : List Int} (h : BOk v k blk) {q : Int × Int} (hq : q ∈ prs blk) : q ∈ pairsN v := by
  obtain ⟨h1, h2, h3⟩ := mem_prs hq h.inc
  exact mem_pairsN.mpr ⟨(h.inn _ h1).1, h3, (h.inn _ h2).2⟩
theorem len_prs {blk : List Int} (h : BOk v k blk) (hk : k ≤ 9) : (prs blk).length ≤ 100 := by
  unfold prs
  rw [List.length_map, S_len, h.len]
  have a := ch_two (v := k) (k := 2) (by omega)
  by_cases c : 2 ≤ k
  · have z := a c
    rw [show ch (k - 2) (2 - 2) = 1 from ch_zero _] at z
    have : k * (k - 1) ≤ 9 * 9 := Nat.mul_le_mul hk (by omega)
    omega
  · rw [ch_lt (by omega)]
    omega
theorem sets_prs {blk : List Int} (h : BOk v k blk) (hk : k ≤ 9) : d_sets_of_building 10 [.lst (blk.map D.int), .int 2] = some (.lst ((prs blk).map pD)) := by
  have hl := len_prs h hk
  unfold prs at hl
  rw [List.length_map] at hl
  have z := sets_eq 10 blk 2 (by omega) (by omega) (by rw [h.len]; omega) (by omega)
  rw [prs_tI] at z
  exact z
theorem fits_eq {blk : List Int} (j : J v k l T bs) (h : BOk v k blk) (hk : k ≤ 9) : d_Search_fits T [tI blk] = some (.bl ((prs blk).all fun q => decide ((cnt2 bs q.1 q.2 : Nat) < l))) := by
  unfold d_Search_fits
  rw [show runSr 2 3 g_Search_fits T [tI blk] = outD (g_Search_fits [some (.slf .read T), some (.fz (tI blk)), none]) from rfl]
  unfold g_Search_fits
  let e : Env := [some (.slf .read T), some (.fz (tI blk)), none]
  have hi : iAny (cll (aCons (fun env => bnd ((clN (aCons (dVar 1) aNil) gList) env) fun ds => some (.lst ds)) (aCons (dC (.int 2)) aNil)) (d_sets_of_building 10)) e = some ((prs blk).map pD) := by
    unfold iAny
    rw [(cll2 (x := .lst (blk.map D.int)) (y := .int 2) rfl rfl).trans (sets_prs h hk)]
    rfl
  have lc := nLc_all (vs := [2]) (set := setN 2) (elt := bop gLt (dOften (dVar 2)) (dSelf (fun S => S.most))) pD (fun q => .bl (decide ((cnt2 bs q.1 q.2 : Nat) < l))) hi (by have := len_prs h hk; omega) fun q hq => ⟨[some (.slf .read T), some (.fz (tI blk)), some (.fz (pD q))], rfl, by
    refine (bop_of (often_at j (prs_in h hq) rfl rfl) (y := .int l) (by rw [← j.m]; rfl)).trans ?_
    show some (D.bl (decide (((cnt2 bs q.1 q.2 : Nat) : Int) < (l : Int)))) = _
    congr 2
    rw [Bool.eq_iff_iff, decide_eq_true_eq, decide_eq_true_eq]
    omega⟩
  have fin : cll (aCons (fun env => bnd ((nLc [2] (iAny (cll (aCons (fun env => bnd ((clN (aCons (dVar 1) aNil) gList) env) fun ds => some (.lst ds)) (aCons (dC (.int 2)) aNil)) (d_sets_of_building 10))) (setN 2) tYesD (bop gLt (dOften (dVar 2)) (dSelf (fun S => S.most)))) env) fun ds => some (.lst ds)) aNil) gAll e = some (.bl ((prs blk).all fun q => decide ((cnt2 bs q.1 q.2 : Nat) < l))) := by
    rw [cll1 (lstF lc), show (prs blk).map (fun q => D.bl (decide ((cnt2 bs q.1 q.2 : Nat) < l))) = ((prs blk).map fun q => decide ((cnt2 bs q.1 q.2 : Nat) < l)).map D.bl by rw [List.map_map]; rfl, gAll_of, List.all_map]
    rfl
  show outD (sRet _ e) = _
  rw [sRet_at fin]
  rfl
/-- put -/
theorem put_eq {blk : List Int} (j : J v k l T bs) (h : BOk v k blk) (hk : k ≤ 9) (c : Int) : d_Search_put T [tI blk, .int c] = some ({ T with often := (prs blk).foldl (addC c) T.often }, .non) := by
  unfold d_Search_put
  rw [show runS 3 4 g_Search_put T [tI blk, .int c] = outS (g_Search_put [some (.slf .lent T), some (.fz (tI blk)), some (.fz (.int c)), none]) from rfl]
  unfold g_Search_put
  have hi : iAny (cll (aCons (fun env => bnd ((clN (aCons (dVar 1) aNil) gList) env) fun ds => some (.lst ds)) (aCons (dC (.int 2)) aNil)) (d_sets_of_building 10)) [some (.slf .lent T), some (.fz (tI blk)), some (.fz (.int c)), none] = some ((prs blk).map pD) := by
    unfold iAny
    rw [(cll2 (x := .lst (blk.map D.int)) (y := .int 2) rfl rfl).trans (sets_prs h hk)]
    rfl
  have lp : ∀ (qs : List (Int × Int)) (m : Mp) (x : Option D), (∀ q ∈ qs, mhas m q = true) → m.length ≤ 1000 → ∃ x', forD (setN 3) (sPutO (dVar 3) (bop gAdd (dOften (dVar 3)) (dVar 2))) (qs.map pD) [some (.slf .lent { T with often := m }), some (.fz (tI blk)), some (.fz (.int c)), oz x] = some (.nx [some (.slf .lent { T with often := qs.foldl (addC c) m }), some (.fz (tI blk)), some (.fz (.int c)), oz x']) := by
    intro qs
    induction qs with
    | nil => exact fun m x _ _ => ⟨x, rfl⟩
    | cons q qs ih =>
      intro m x hq hm
      have h0 := hq q (List.mem_cons_self ..)
      have la := len_adds c [q] m fun y hy => by rw [List.mem_singleton] at hy; rw [hy]; exact h0
      obtain ⟨x', g⟩ := ih (addC c m q) (some (pD q)) (fun y hy => by rw [show addC c m q = [q].foldl (addC c) m from rfl, la.2]; exact hq y (List.mem_cons_of_mem _ hy)) (by rw [show addC c m q = [q].foldl (addC c) m from rfl, la.1]; exact hm)
      refine ⟨x', (forD_cons (e1 := [some (.slf .lent { T with often := m }), some (.fz (tI blk)), some (.fz (.int c)), some (.fz (pD q))]) rfl ?_).trans g⟩
      let e1 : Env := [some (.slf .lent { T with often := m }), some (.fz (tI blk)), some (.fz (.int c)), some (.fz (pD q))]
      have o : dOften (dVar 3) e1 = some (.int (mg m q)) := by
        show bnd (mget m q) _ = _
        rw [mget_of h0]
        rfl
      have ad : bop gAdd (dOften (dVar 3)) (dVar 2) e1 = some (.int (mg m q + c)) := (bop_of o rfl).trans rfl
      unfold sPutO
      rw [ad]
      show (if decide (m.length < 100000) && lone e1 then _ else none) = _
      rw [decide_eq_true (by omega), show lone e1 = true from rfl, Bool.and_self, if_pos rfl]
      rfl
  obtain ⟨x', g⟩ := lp (prs blk) T.often none (fun q hq => j.has q (prs_in h hq)) j.len
  rw [(sFor_of hi).trans g]
  rfl
theorem J.put {blk : List Int} (j : J v k l T bs) (h : BOk v k blk) : J v k l { T with often := (prs blk).foldl (addC 1) T.often } (bs ++ [blk]) := by
  obtain ⟨g1, g2⟩ := len_adds 1 (prs blk) T.often fun q hq => j.has q (prs_in h hq)
  refine ⟨j.w, j.s, j.m, fun q hq => by rw [g2]; exact j.has q hq, fun q hq => ?_, Nat.le_trans (Nat.le_of_eq g1) j.len⟩
  have hl := (mem_pairsN.mp hq).2.1
  show mg ((prs blk).foldl (addC 1) T.often) q = _
  rw [mg_adds, j.eq q hq, cnt2_app, show q = (q.1, q.2) from rfl, count_prs h.inc hl]
  have : cnt2 [blk] q.1 q.2 = if memI q.1 blk && memI q.2 blk then 1 else 0 := by
    unfold cnt2
    rw [List.filter_cons]
    split <;> rfl
  rw [this]
  split <;> simp
theorem J.back {blk : List Int} (j : J v k l T (bs ++ [blk])) (h : BOk v k blk) : J v k l { T with often := (prs blk).foldl (addC (-1)) T.often } bs := by
  obtain ⟨g1, g2⟩ := len_adds (-1) (prs blk) T.often fun q hq => j.has q (prs_in h hq)
  refine ⟨j.w, j.s, j.m, fun q hq => by rw [g2]; exact j.has q hq, fun q hq => ?_, Nat.le_trans (Nat.le_of_eq g1) j.len⟩
  have hl := (mem_pairsN.mp hq).2.1
  show mg ((prs blk).foldl (addC (-1)) T.often) q = _
  rw [mg_adds, j.eq q hq, cnt2_app, show q = (q.1, q.2) from rfl, count_prs h.inc hl]
  have : cnt2 [blk] q.1 q.2 = if memI q.1 blk && memI q.2 blk then 1 else 0 := by
    unfold cnt2
    rw [List.filter_cons]
    split <;> rfl
  rw [this]
  split <;> simp <;> omega
theorem J.left {n : Int} (j : J v k l T bs) : J v k l { T with left := n } bs := ⟨j.w, j.s, j.m, j.has, j.eq, j.len⟩
end
end EM
set_option maxHeartbeats 1000000
namespace EM
open PySem PySem.Spec PyProof.Rows L2
/-! the pairs as the papers walk them -/
def rowP (blk : List Int) (k : Nat) : List (Int × Int) := (List.range k).map fun (j : Nat) => (blk.getD j 0, blk.getD k 0)
def P2 (blk : List Int) : List (Int × Int) := (List.range blk.length).flatMap (rowP blk)
theorem fm_perm {α β : Type} (f : α → β) (g : α → List β) : ∀ xs : List α, (xs.flatMap fun x => f x :: g x).Perm (xs.map f ++ xs.flatMap g)
  | [] => .refl _
  | x :: xs => by
    rw [List.flatMap_cons, List.map_cons, List.flatMap_cons]
    show (f x :: (g x ++ xs.flatMap fun x => f x :: g x)).Perm (f x :: (xs.map f ++ (g x ++ xs.flatMap g)))
    refine List.Perm.cons _ ?_
    refine ((fm_perm f g xs).append_left (g x)).trans ?_
    rw [← List.append_assoc, ← List.append_assoc]
    exact List.perm_append_comm.append_right _
theorem P2_cons (p : Int) (ps : List Int) : (P2 (p :: ps)).Perm (ps.map (fun y => (p, y)) ++ P2 ps) := by
  have e : P2 (p :: ps) = (List.range ps.length).flatMap fun (k : Nat) => (p, ps.getD k 0) :: rowP ps k := by
    unfold P2
    rw [List.length_cons, List.range_succ_eq_map, List.flatMap_cons, List.flatMap_map]
    show [] ++ _ = _
    rw [List.nil_append]
    refine fm_congr _ fun k hk => ?_
    unfold rowP
    rw [List.range_succ_eq_map, List.map_cons, List.map_map]
    rfl
  rw [e]
  refine (fm_perm _ _ _).trans ?_
  have em : (List.range ps.length).map (fun (k : Nat) => (p, ps.getD k 0)) = ps.map fun y => (p, y) := by
    apply List.ext_getElem
    · simp
    · intro i h1 h2
      simp only [List.length_map, List.length_range] at h1
      simp [List.getD, h1]
  rw [em]
  exact .refl _
theorem P2_perm : ∀ blk : List Int, (P2 blk).Perm (prs blk)
  | [] => .refl _
  | p :: ps => by
    refine (P2_cons p ps).trans ?_
    have e : prs (p :: ps) = ps.map (fun y => (p, y)) ++ prs ps := by
      have s1 : ∀ ps : List Int, S ps 1 = ps.map fun y => [y] := by
        intro ps
        induction ps with
        | nil => rfl
        | cons y ps ih =>
          show (S ps 0).map (y :: ·) ++ S ps 1 = _
          rw [S_zero, ih]
          rfl
      unfold prs
      show ((S ps 1).map (p :: ·) ++ S ps 2).map pr = _
      rw [List.map_append, s1, List.map_map, List.map_map]
      rfl
    rw [e]
    exact (P2_perm ps).append_left _
theorem len_P2 (blk : List Int) : (P2 blk).length ≤ blk.length * blk.length := by
  have := len_flat_le (n := blk.length) (rowP blk) (List.range blk.length) fun k hk => by
    unfold rowP
    rw [List.length_map, List.length_range]
    exact Nat.le_of_lt (List.mem_range.mp hk)
  rw [List.length_range] at this
  exact this
theorem gIx_tI {m : List Int} {j : Nat} (h : j < m.length) : gIx (tI m) (.int j) = some (.int (m.getD j 0)) := by
  have e : m[j]? = some (m.getD j 0) := by simp [List.getD, h]
  exact gIx_atT e
def piElt : Env → Option D := fun env => bnd ((nLc [3] (iRg1 (aCons (dVar 2) aNil)) (setN 3) tYesD (dTup (aCons (bop gIx (dVar 0) (dVar 3)) (aCons (bop gIx (dVar 0) (dVar 2)) aNil)))) env) fun ds => some (.lst ds)
theorem pairs_in_eq (blk : List Int) (hl : blk.length ≤ 100) : d_pairs_in [tI blk] = some (.lst ((P2 blk).map pD)) := by
  unfold d_pairs_in
  refine (runD_at rfl).trans ?_
  unfold g_pairs_in
  have tot : (P2 blk).length ≤ 100000 := Nat.le_trans (len_P2 blk) (Nat.le_trans (Nat.mul_le_mul hl hl) (by decide))
  obtain ⟨e', h1, ⟨acc, j, rfl⟩, h3⟩ := for_ext (set := setN 2) (i := 1) (f := piElt) (fun (i : Nat) => D.int (i : Int)) (fun k => (rowP blk k).map pD) (fun e => ∃ (acc : List (Int × Int)) (j : Option EV), e = [some (.fz (tI blk)), some (.own (acc.map pD)), j, none]) (List.range blk.length) [] [some (.fz (tI blk)), some (.own []), none, none] ⟨[], none, rfl⟩ rfl
    (by
      rw [List.nil_append, ← List.map_flatMap, List.length_map]
      exact tot)
    (fun k hk e acc0 hI h0 => by
      obtain ⟨acc, j, rfl⟩ := hI
      cases h0
      have hk' := List.mem_range.mp hk
      let e1 : Env := [some (.fz (tI blk)), some (.own (acc.map pD)), some (.fz (.int (k : Int))), none]
      have ri := iRg1_of (fa := aCons (dVar 2) aNil) (env := e1) (j := (k : Int)) rfl (by omega) (by omega)
      rw [Int.toNat_natCast] at ri
      have lc : nLc [3] (iRg1 (aCons (dVar 2) aNil)) (setN 3) tYesD (dTup (aCons (bop gIx (dVar 0) (dVar 3)) (aCons (bop gIx (dVar 0) (dVar 2)) aNil))) e1 = some ((rowP blk k).map pD) := by
        rw [nLc_all (fun (i : Nat) => D.int (i : Int)) (fun (i : Nat) => pD (blk.getD i 0, blk.getD k 0)) ri (by rw [List.length_range]; omega) fun i hi => ?_]
        · unfold rowP
          rw [List.map_map]
          rfl
        · have hi' := List.mem_range.mp hi
          let e2 : Env := [some (.fz (tI blk)), some (.own (acc.map pD)), some (.fz (.int (k : Int))), some (.fz (.int (i : Int)))]
          refine ⟨e2, rfl, ?_⟩
          unfold dTup
          rw [aCons2 (env := e2) ((bop_of rfl rfl).trans (gIx_tI (by omega))) ((bop_of rfl rfl).trans (gIx_tI hk'))]
          rfl
      refine ⟨e1, rfl, ?_, rfl, ⟨acc ++ rowP blk k, some (.fz (.int (k : Int))), ?_⟩, rfl⟩
      · show bnd _ _ = _
        rw [lc]
        rfl
      · rw [List.map_append]
        rfl)
  have hacc : acc.map pD = (P2 blk).map pD := by
    have z : acc.map pD = [] ++ (List.range blk.length).flatMap (fun k => (rowP blk k).map pD) := Option.some.inj h3
    rw [z, List.nil_append, ← List.map_flatMap]
    rfl
  have ri := iRg1_of (fa := aCons (cll (aCons (dVar 0) aNil) gLen) aNil) (env := [some (.fz (tI blk)), some (.own []), none, none]) (j := ((blk.map D.int).length : Nat)) rfl (by omega) (by rw [List.length_map]; omega)
  rw [Int.toNat_natCast, List.length_map] at ri
  have g := (sFor_of (set := setN 2) (body := sExt 1 piElt) ri).trans h1
  rw [hacc] at g
  show outD (sSeq (sSetN 1 (nLst aNil)) (sSeq (sFor (iRg1 (aCons (cll (aCons (dVar 0) aNil) gLen) aNil)) (setN 2) (sExt 1 piElt)) _) [some (.fz (tI blk)), none, none, none]) = _
  rw [sSeq_of (e := [some (.fz (tI blk)), some (.own []), none, none]) rfl, sSeq_of g]
  rfl
theorem dGet_of {i : Nat} {fa : Env → Option D} {e : Env} {q : Int × Int} {m : Mp} (h : fa e = some (pD q)) (h2 : dctAt i e = some m) : dGetOr i fa (dC (.int 0)) e = some (.int (mg m q)) := by
  unfold dGetOr
  rw [h]
  rw [bnd_some', show pairOf (pD q) = some q from rfl, bnd_some', h2]
  rfl
/-- fits, of the papers -/
theorem pfits_eq (m : Mp) (blk : List Int) (l : Int) (hl : blk.length ≤ 100) : d_fits m [tI blk, .int l] = some (.bl ((P2 blk).all fun q => decide (mg m q < l))) := by
  unfold d_fits
  rw [show runR 3 4 0 g_fits m [tI blk, .int l] = outD (g_fits [some (.dct .read m), some (.fz (tI blk)), some (.fz (.int l)), none]) from rfl]
  unfold g_fits
  let e : Env := [some (.dct .read m), some (.fz (tI blk)), some (.fz (.int l)), none]
  have hi : iAny (cll (aCons (dVar 1) aNil) d_pairs_in) e = some ((P2 blk).map pD) := by
    unfold iAny
    rw [(cll1 rfl).trans (pairs_in_eq blk hl)]
    rfl
  have tot : (P2 blk).length ≤ 100000 := Nat.le_trans (len_P2 blk) (Nat.le_trans (Nat.mul_le_mul hl hl) (by decide))
  have lc : nLc [3] (iAny (cll (aCons (dVar 1) aNil) d_pairs_in)) (setN 3) tYesD (bop gLt (dGetOr 0 (dVar 3) (dC (.int 0))) (dVar 2)) e = some ((P2 blk).map fun q => D.bl (decide (mg m q < l))) := by
    refine nLc_all pD _ hi tot fun q hq => ?_
    let e1 : Env := [some (.dct .read m), some (.fz (tI blk)), some (.fz (.int l)), some (.fz (pD q))]
    have o : dGetOr 0 (dVar 3) (dC (.int 0)) e1 = some (.int (mg m q)) := dGet_of rfl rfl
    have o2 : dVar 2 e1 = some (.int l) := rfl
    exact ⟨e1, rfl, bop_of o o2⟩
  have fin : cll (aCons (fun env => bnd ((nLc [3] (iAny (cll (aCons (dVar 1) aNil) d_pairs_in)) (setN 3) tYesD (bop gLt (dGetOr 0 (dVar 3) (dC (.int 0))) (dVar 2))) env) fun ds => some (.lst ds)) aNil) gAll e = some (.bl ((P2 blk).all fun q => decide (mg m q < l))) := by
    have l4 : ∀ fa : Env → Option D, fa e = some (.lst ((P2 blk).map fun q => D.bl (decide (mg m q < l)))) → cll (aCons fa aNil) gAll e = some (.bl ((P2 blk).all fun q => decide (mg m q < l))) := fun fa h => by
      rw [cll1 h, show (P2 blk).map (fun q => D.bl (decide (mg m q < l))) = ((P2 blk).map fun q => decide (mg m q < l)).map D.bl by rw [List.map_map]; rfl, gAll_of, List.all_map]
      rfl
    refine l4 _ ?_
    show bnd _ _ = _
    rw [lc]
    rfl
  show outD (sRet _ e) = _
  rw [sRet_at fin]
  rfl
/-- count_block -/
theorem count_block_eq {v : Nat} (blk : List Int) (c : Int) (hv : v ≤ 60) (hl : blk.length ≤ 100) (hb : ∀ q ∈ P2 blk, 0 ≤ q.1 ∧ q.1 < (v : Int) ∧ 0 ≤ q.2 ∧ q.2 < (v : Int)) (m : Mp) (d : DOk v m) : d_count_block m [tI blk, .int c] = some ((P2 blk).foldl (addC c) m, .non) ∧ DOk v ((P2 blk).foldl (addC c) m) := by
  unfold d_count_block
  have r0 : runM 3 4 0 g_count_block m [tI blk, .int c] = outM 0 (g_count_block [some (.dct .lent m), some (.fz (tI blk)), some (.fz (.int c)), none]) := by
    unfold runM
    rw [if_pos ⟨rfl, Nat.zero_le _⟩]
    rfl
  rw [r0]
  unfold g_count_block
  have hi : iAny (cll (aCons (dVar 1) aNil) d_pairs_in) [some (.dct .lent m), some (.fz (tI blk)), some (.fz (.int c)), none] = some ((P2 blk).map pD) := by
    unfold iAny
    rw [(cll1 rfl).trans (pairs_in_eq blk hl)]
    rfl
  have lp : ∀ (qs : List (Int × Int)) (m : Mp) (x : Option D), DOk v m → (∀ q ∈ qs, 0 ≤ q.1 ∧ q.1 < (v : Int) ∧ 0 ≤ q.2 ∧ q.2 < (v : Int)) → ∃ x', forD (setN 3) (sPutD 0 (dVar 3) (bop gAdd (dGetOr 0 (dVar 3) (dC (.int 0))) (dVar 2))) (qs.map pD) [some (.dct .lent m), some (.fz (tI blk)), some (.fz (.int c)), oz x] = some (.nx [some (.dct .lent (qs.foldl (addC c) m)), some (.fz (tI blk)), some (.fz (.int c)), oz x']) ∧ DOk v (qs.foldl (addC c) m) := by
    intro qs
    induction qs with
    | nil => exact fun m x d _ => ⟨x, rfl, d⟩
    | cons q qs ih =>
      intro m x d hq
      obtain ⟨a1, a2, a3, a4⟩ := hq q (List.mem_cons_self ..)
      obtain ⟨x', g, d'⟩ := ih (addC c m q) (some (pD q)) (d.put _ a1 a2 a3 a4) fun y hy => hq y (List.mem_cons_of_mem _ hy)
      refine ⟨x', (forD_cons (e1 := [some (.dct .lent m), some (.fz (tI blk)), some (.fz (.int c)), some (.fz (pD q))]) rfl ?_).trans g, d'⟩
      let e1 : Env := [some (.dct .lent m), some (.fz (tI blk)), some (.fz (.int c)), some (.fz (pD q))]
      have o : dGetOr 0 (dVar 3) (dC (.int 0)) e1 = some (.int (mg m q)) := dGet_of rfl rfl
      have o2 : dVar 2 e1 = some (.int c) := rfl
      have ad : bop gAdd (dGetOr 0 (dVar 3) (dC (.int 0))) (dVar 2) e1 = some (.int (mg m q + c)) := bop_of o o2
      have hm : m.length < 100000 := Nat.lt_of_le_of_lt d.len (Nat.lt_of_le_of_lt (Nat.mul_le_mul hv hv) (by decide))
      unfold sPutD
      rw [ad]
      show (if decide (m.length < 100000) && noSlf e1 then _ else none) = _
      rw [decide_eq_true hm, show noSlf e1 = true from rfl, Bool.and_self, if_pos rfl]
      rfl
  obtain ⟨x', g, d'⟩ := lp (P2 blk) m none d hb
  refine ⟨?_, d'⟩
  rw [(sFor_of hi).trans g]
  rfl
end EM
set_option maxHeartbeats 1000000
namespace EM
open PySem PySem.Spec PyProof.Rows L2
/-! the sons of a node -/
def othersL (v : Nat) (q : Int × Int) : List Int := (rangeI v).filter fun p => !memI p [q.1, q.2]
def foundL (v k : Nat) (q : Int × Int) : List (List Int) := (S (othersL v q) (k - 2)).map fun r => sortI ([q.1, q.2] ++ r)
def fitB (l : Nat) (bs : List (List Int)) (blk : List Int) : Bool := (prs blk).all fun q => decide (cnt2 bs q.1 q.2 < l)
def sonsP (v k l : Nat) (bs : List (List Int)) (q : Int × Int) : List (List Int) := (sortC (foundL v k q)).filter (fitB l bs)
theorem sortI_perm_eq {x y : List Int} (h : x.Perm y) : sortI x = sortI y := sortI_uniq ((sortI_perm x).trans h) (sortI_sorted x)
theorem inc_sortI {x : List Int} (h : x.Nodup) : incB (sortI x) = true := by
  refine incB_of ?_
  have hn : (sortI x).Nodup := (sortI_perm x).nodup_iff.mpr h
  have hs := sortI_sorted x
  generalize sortI x = y at hn hs
  induction y with
  | nil => exact .nil
  | cons a y ih =>
    obtain ⟨a1, a2⟩ := List.nodup_cons.mp hn
    obtain ⟨b1, b2⟩ := List.pairwise_cons.mp hs
    refine List.pairwise_cons.mpr ⟨fun z hz => ?_, ih a2 b2⟩
    have := b1 z hz
    have hne : a ≠ z := fun e => a1 (e ▸ hz)
    omega
theorem others_inc (v : Nat) (q : Int × Int) : (othersL v q).Pairwise (· < ·) := (rangeI_inc v).sublist List.filter_sublist
theorem mem_others {v : Nat} {q : Int × Int} {x : Int} : x ∈ othersL v q ↔ (0 ≤ x ∧ x < (v : Int)) ∧ x ≠ q.1 ∧ x ≠ q.2 := by
  unfold othersL
  rw [List.mem_filter, mem_rangeI]
  simp [memI]
theorem len_others (v : Nat) (q : Int × Int) (hq : q ∈ pairsN v) : (othersL v q).length + 2 = v := by
  obtain ⟨h1, h2, h3⟩ := mem_pairsN.mp hq
  have hp : (q.1 :: q.2 :: othersL v q).Perm (rangeI v) := by
    refine (List.perm_ext_iff_of_nodup ?_ (inc_nodup (rangeI_inc v))).mpr fun x => ?_
    · refine List.nodup_cons.mpr ⟨?_, List.nodup_cons.mpr ⟨?_, inc_nodup (others_inc v q)⟩⟩
      · intro z
        rcases List.mem_cons.mp z with z | z
        · omega
        · exact (mem_others.mp z).2.1 rfl
      · exact fun z => (mem_others.mp z).2.2 rfl
    · rw [List.mem_cons, List.mem_cons, mem_others, mem_rangeI]
      constructor
      · rintro (h | h | h)
        · omega
        · omega
        · exact h.1
      · intro h
        by_cases e1 : x = q.1
        · exact .inl e1
        · by_cases e2 : x = q.2
          · exact .inr (.inl e2)
          · exact .inr (.inr ⟨h, e1, e2⟩)
  have := hp.length_eq
  rw [len_rangeI] at this
  simpa using this
theorem found_bok {v k : Nat} {q : Int × Int} (hq : q ∈ pairsN v) (hk : 2 ≤ k) {blk : List Int} (h : blk ∈ foundL v k q) : BOk v k blk := by
  obtain ⟨h1, h2, h3⟩ := mem_pairsN.mp hq
  unfold foundL at h
  obtain ⟨r, hr, rfl⟩ := List.mem_map.mp h
  obtain ⟨g1, g2⟩ := S_sub hr
  have nd : ([q.1, q.2] ++ r).Nodup := by
    show (q.1 :: q.2 :: r).Nodup
    have rn : r.Nodup := (inc_nodup (others_inc v q)).sublist g1
    refine List.nodup_cons.mpr ⟨?_, List.nodup_cons.mpr ⟨?_, rn⟩⟩
    · intro z
      rcases List.mem_cons.mp z with z | z
      · omega
      · exact (mem_others.mp (g1.subset z)).2.1 rfl
    · exact fun z => (mem_others.mp (g1.subset z)).2.2 rfl
  refine ⟨?_, inc_sortI nd, fun x hx => ?_⟩
  · rw [(sortI_perm _).length_eq, List.length_append, g2]
    simp
    omega
  · have := (sortI_perm _).mem_iff.mp hx
    rcases List.mem_append.mp this with z | z
    · simp only [List.mem_cons, List.not_mem_nil, or_false] at z
      rcases z with rfl | rfl <;> omega
    · exact (mem_others.mp (g1.subset z)).1
theorem ch_small : ((List.range 8).all fun n => (List.range 10).all fun j => decide (ch n j ≤ 35)) = true := by decide +kernel
theorem S_small {ps : List Int} (h : ps.length ≤ 7) (j : Nat) : (S ps j).length ≤ 35 := by
  rw [S_len]
  by_cases hj : j < 10
  · have := List.all_eq_true.mp (List.all_eq_true.mp ch_small ps.length (List.mem_range.mpr (by omega))) j (List.mem_range.mpr hj)
    exact of_decide_eq_true this
  · rw [ch_lt (by omega)]
    omega
theorem gAdd_tI (a b : List Int) (h : a.length + b.length ≤ 1000) : gAdd (tI a) (tI b) = some (tI (a ++ b)) := by
  have : gCatT (.tup (a.map D.int)) (.tup (b.map D.int)) = some (.tup (a.map D.int ++ b.map D.int)) := by
    unfold gCatT
    simp only [List.length_map]
    rw [if_pos h]
  show orD (iop0 fun i j => i + j) (orD gCatT gCatL) (.tup (a.map D.int)) (.tup (b.map D.int)) = _
  unfold orD
  simp only [iop0]
  rw [this]
  show some (D.tup (a.map D.int ++ b.map D.int)) = some (D.tup ((a ++ b).map D.int))
  rw [List.map_append]
theorem gSortedI_tI (m : List Int) (h : m.length < 64) : gSortedI [tI m] = some ((sortI m).map D.int) := by
  show bnd (intsOf (m.map D.int)) _ = _
  rw [intsOf_map]
  show (if m.length < 64 then _ else _) = _
  rw [if_pos h]
theorem gSortedT_tI {v k : Nat} {ms : List (List Int)} (h : ∀ m ∈ ms, BOk v k m) (hk : 1 ≤ k) (hv : v ≤ 100) (hl : ms.length < 64) : gSortedT [.lst (ms.map tI)] = some ((sortC ms).map tI) := by
  show bnd (tupsOf (ms.map tI)) _ = _
  rw [tupsOf_map]
  show (if decide (ms.length < 64) && (decide (1 ≤ (ms.headD [0]).length) && ms.all fun m => (m.length == (ms.headD [0]).length) && bdB m) then _ else _) = _
  have hh : (ms.headD [0]).length = k ∨ (ms = [] ∧ (ms.headD [0]).length = 1) := by
    cases ms with
    | nil => exact .inr ⟨rfl, rfl⟩
    | cons m ms => exact .inl (h m (List.mem_cons_self ..)).len
  have h1 : 1 ≤ (ms.headD [0]).length := by rcases hh with z | z <;> omega
  have h2 : (ms.all fun m => (m.length == (ms.headD [0]).length) && bdB m) = true := by
    refine List.all_eq_true.mpr fun m hm => ?_
    have b := h m hm
    rcases hh with z | z
    · rw [b.len, z, beq_self_eq_true, Bool.true_and]
      refine List.all_eq_true.mpr fun x hx => ?_
      obtain ⟨x1, x2⟩ := b.inn x hx
      rw [decide_eq_true x1, decide_eq_true (by omega)]
      rfl
    · rw [z.1] at hm
      cases hm
  rw [decide_eq_true hl, decide_eq_true h1, h2]
  rfl
theorem sons_bok {v k l : Nat} {bs : List (List Int)} {q : Int × Int} (hq : q ∈ pairsN v) (hk : 2 ≤ k) {blk : List Int} (h : blk ∈ sonsP v k l bs q) : BOk v k blk := by
  unfold sonsP at h
  exact found_bok hq hk ((sortC_perm _).mem_iff.mp (List.mem_filter.mp h).1)
theorem len_found {v k : Nat} {q : Int × Int} (hq : q ∈ pairsN v) (hv : v ≤ 9) : (foundL v k q).length ≤ 35 := by
  unfold foundL
  rw [List.length_map]
  exact S_small (by have := len_others v q hq; omega) _
theorem len_sons {v k l : Nat} {bs : List (List Int)} {q : Int × Int} (hq : q ∈ pairsN v) (hv : v ≤ 9) : (sonsP v k l bs q).length ≤ 35 := by
  unfold sonsP
  refine Nat.le_trans (List.length_filter_le _ _) ?_
  rw [(sortC_perm _).length_eq]
  exact len_found hq hv
section
variable {v k l : Nat} {T : SS} {bs : List (List Int)}
theorem sons_of_eq (j : J v k l T bs) (hv : v ≤ 9) (hk2 : 2 ≤ k) (hk : k ≤ v) {q : Int × Int} (hq : q ∈ pairsN v) : d_Search_sons_of T [pD q] = some (.lst ((sonsP v k l bs q).map tI)) := by
  obtain ⟨h1, h2, h3⟩ := mem_pairsN.mp hq
  have lo := len_others v q hq
  unfold d_Search_sons_of
  rw [show runSr 2 7 g_Search_sons_of T [pD q] = outD (g_Search_sons_of [some (.slf .read T), some (.fz (pD q)), none, none, none, none, none]) from rfl]
  unfold g_Search_sons_of
  let e0 : Env := [some (.slf .read T), some (.fz (pD q)), none, none, none, none, none]
  have ri := iRg1_of (fa := aCons (dSelf (fun S => S.spots)) aNil) (env := e0) (j := (v : Int)) (aCons1 (x := .int (v : Int)) (by rw [← j.s]; rfl)) (by omega) (by omega)
  rw [Int.toNat_natCast] at ri
  have l1 : nLc [4] (iRg1 (aCons (dSelf (fun S => S.spots)) aNil)) (setN 4) (tOfD (bop (gInN true) (dVar 4) (dVar 1))) (dVar 4) e0 = some ((othersL v q).map D.int) := by
    rw [nLc_of (fun (i : Nat) => D.int (i : Int)) (fun (i : Nat) => !memI (i : Int) [q.1, q.2]) (fun (i : Nat) => D.int (i : Int)) ri (by rw [List.length_range]; omega) fun i _ => ⟨_, rfl, tOfD_of ((bop_of (x := .int (i : Int)) (y := tI [q.1, q.2]) rfl rfl).trans (gNotIn_tI _ _)), fun _ => rfl⟩]
    unfold othersL rangeI
    rw [List.filter_map, List.map_map]
    rfl
  let e1 : Env := [some (.slf .read T), some (.fz (pD q)), some (.fz (.lst ((othersL v q).map D.int))), none, none, none, none]
  have w2 : bop gSub (dSelf (fun S => S.width)) (dC (.int 2)) e1 = some (.int ((k - 2 : Nat) : Int)) := by
    refine (bop_of (x := .int (k : Int)) (y := .int 2) (by rw [← j.w]; rfl) rfl).trans ?_
    show some (D.int ((k : Int) - 2)) = _
    rw [show (k : Int) - 2 = ((k - 2 : Nat) : Int) by omega]
  have it2 : iAny (cll (aCons (dVar 2) (aCons (bop gSub (dSelf (fun S => S.width)) (dC (.int 2))) aNil)) (d_sets_of_building 10)) e1 = some ((S (othersL v q) (k - 2)).map tI) := by
    unfold iAny
    rw [(cll2 (x := .lst ((othersL v q).map D.int)) rfl w2).trans (sets_eq 10 _ _ (by omega) (by omega) (by omega) (by have := S_small (ps := othersL v q) (by omega) (k - 2); omega))]
    rfl
  have l2 : nLc [5] (iAny (cll (aCons (dVar 2) (aCons (bop gSub (dSelf (fun S => S.width)) (dC (.int 2))) aNil)) (d_sets_of_building 10))) (setN 5) tYesD (cll (aCons (fun env => bnd ((clN (aCons (bop gAdd (dVar 1) (dVar 5)) aNil) gSortedI) env) fun ds => some (.lst ds)) aNil) gTuple) e1 = some ((foundL v k q).map tI) := by
    rw [nLc_all tI (fun r => tI (sortI ([q.1, q.2] ++ r))) it2 (by have := S_small (ps := othersL v q) (by omega) (k - 2); omega) fun r hr => ?_]
    · unfold foundL
      rw [List.map_map]
      rfl
    · have hl := (S_sub hr).2
      let e2 : Env := [some (.slf .read T), some (.fz (pD q)), some (.fz (.lst ((othersL v q).map D.int))), none, none, some (.fz (tI r)), none]
      refine ⟨e2, rfl, ?_⟩
      have ad : bop gAdd (dVar 1) (dVar 5) e2 = some (tI ([q.1, q.2] ++ r)) := (bop_of (x := tI [q.1, q.2]) rfl rfl).trans (gAdd_tI _ _ (by simp; omega))
      have so : clN (aCons (bop gAdd (dVar 1) (dVar 5)) aNil) gSortedI e2 = some ((sortI ([q.1, q.2] ++ r)).map D.int) := by
        unfold clN
        rw [aCons1 ad]
        exact gSortedI_tI _ (by simp; omega)
      have l4 : ∀ fa : Env → Option D, fa e2 = some (.lst ((sortI ([q.1, q.2] ++ r)).map D.int)) → cll (aCons fa aNil) gTuple e2 = some (tI (sortI ([q.1, q.2] ++ r))) := fun fa h => (cll1 h).trans rfl
      refine l4 _ ?_
      show bnd _ _ = _
      rw [so]
      rfl
  let e3 : Env := [some (.slf .read T), some (.fz (pD q)), some (.fz (.lst ((othersL v q).map D.int))), some (.fz (.lst ((foundL v k q).map tI))), none, none, none]
  have st : (fun env => bnd ((clN (aCons (dVar 3) aNil) gSortedT) env) fun ds => some (D.lst ds)) e3 = some (.lst ((sortC (foundL v k q)).map tI)) := by
    show bnd (gSortedT [.lst ((foundL v k q).map tI)]) _ = _
    rw [gSortedT_tI (v := v) (k := k) (fun m hm => found_bok hq hk2 hm) (by omega) (by omega) (by have := len_found (k := k) hq hv; omega)]
    rfl
  have it3 : iAny (fun env => bnd ((clN (aCons (dVar 3) aNil) gSortedT) env) fun ds => some (.lst ds)) e3 = some ((sortC (foundL v k q)).map tI) := by
    unfold iAny
    rw [st]
    rfl
  have l3 : nLc [6] (iAny (fun env => bnd ((clN (aCons (dVar 3) aNil) gSortedT) env) fun ds => some (.lst ds))) (setN 6) (tOfD (sll (aCons (dVar 6) aNil) d_Search_fits)) (dVar 6) e3 = some ((sonsP v k l bs q).map tI) := by
    refine nLc_of tI (fitB l bs) tI it3 (by rw [(sortC_perm _).length_eq]; have := len_found (k := k) hq hv; omega) fun blk hb => ⟨[some (.slf .read T), some (.fz (pD q)), some (.fz (.lst ((othersL v q).map D.int))), some (.fz (.lst ((foundL v k q).map tI))), none, none, some (.fz (tI blk))], rfl, ?_, fun _ => rfl⟩
    refine tOfD_of ?_
    show d_Search_fits T [tI blk] = _
    exact fits_eq j (found_bok hq hk2 ((sortC_perm _).mem_iff.mp hb)) (by omega)
  show outD (sSeq _ _ e0) = _
  have s1 : sSet 2 (fun env => bnd ((nLc [4] (iRg1 (aCons (dSelf (fun S => S.spots)) aNil)) (setN 4) (tOfD (bop (gInN true) (dVar 4) (dVar 1))) (dVar 4)) env) fun ds => some (.lst ds)) e0 = some (.nx e1) := sSet_of (lstF l1)
  have s2 : sSet 3 (fun env => bnd ((nLc [5] (iAny (cll (aCons (dVar 2) (aCons (bop gSub (dSelf (fun S => S.width)) (dC (.int 2))) aNil)) (d_sets_of_building 10))) (setN 5) tYesD (cll (aCons (fun env => bnd ((clN (aCons (bop gAdd (dVar 1) (dVar 5)) aNil) gSortedI) env) fun ds => some (.lst ds)) aNil) gTuple)) env) fun ds => some (.lst ds)) e1 = some (.nx e3) := sSet_of (lstF l2)
  rw [sSeq_of s1, sSeq_of s2, sRet_at (lstF l3)]
  rfl
end
end EM
set_option maxHeartbeats 1000000
namespace EM
open PySem PySem.Spec PyProof.Rows L2
theorem cllM_of {i : Nat} {fa : Env → Option (List D)} {g : Mp → List D → Option D} {e : Env} {m : Mp} {ds : List D} (h : dctAt i e = some m) (h2 : fa e = some ds) : cllM i fa g e = g m ds := by
  unfold cllM
  rw [h, bnd_some', h2]
  rfl
/-- the counts of the papers -/
def Cnt (v : Nat) (m : Mp) (bs : List (List Int)) : Prop := ∀ q ∈ pairsN v, mg m q = (cnt2 bs q.1 q.2 : Nat)
theorem mem_P2 {v k : Nat} {blk : List Int} (h : BOk v k blk) {q : Int × Int} (hq : q ∈ P2 blk) : q ∈ pairsN v := prs_in h ((P2_perm blk).mem_iff.mp hq)
theorem fitB_P2 {v k l : Nat} {m : Mp} {bs : List (List Int)} {blk : List Int} (c : Cnt v m bs) (h : BOk v k blk) : ((P2 blk).all fun q => decide (mg m q < (l : Int))) = fitB l bs blk := by
  unfold fitB
  rw [Bool.eq_iff_iff, List.all_eq_true, List.all_eq_true]
  constructor
  · intro z q hq
    have := z q ((P2_perm blk).mem_iff.mpr hq)
    rw [decide_eq_true_eq, c q (prs_in h hq)] at this
    rw [decide_eq_true_eq]
    omega
  · intro z q hq
    have := z q ((P2_perm blk).mem_iff.mp hq)
    rw [decide_eq_true_eq] at this
    rw [decide_eq_true_eq, c q (mem_P2 h hq)]
    omega
theorem sons_due_eq {v k l : Nat} {m : Mp} {bs st : List (List Int)} (c : Cnt v m bs) (hv : v ≤ 9) (hk2 : 2 ≤ k) (hk : k ≤ v) {q : Int × Int} (hq : q ∈ pairsN v) : d_sons_due m [WD v k l st, .int q.1, .int q.2] = some (.lst ((sonsP v k l bs q).map tI)) := by
  obtain ⟨h1, h2, h3⟩ := mem_pairsN.mp hq
  have lo := len_others v q hq
  let W := WD v k l st
  unfold d_sons_due
  rw [show runR 4 9 1 g_sons_due m [W, .int q.1, .int q.2] = outD (g_sons_due [some (.fz W), some (.dct .read m), some (.fz (.int q.1)), some (.fz (.int q.2)), none, none, none, none, none]) from rfl]
  unfold g_sons_due
  let e0 : Env := [some (.fz W), some (.dct .read m), some (.fz (.int q.1)), some (.fz (.int q.2)), none, none, none, none, none]
  have ri := iRg1_of (fa := aCons (bop gIx (dVar 0) (dC (.int 0))) aNil) (env := e0) (j := (v : Int)) rfl (by omega) (by omega)
  rw [Int.toNat_natCast] at ri
  have l1 : nLc [6] (iRg1 (aCons (bop gIx (dVar 0) (dC (.int 0))) aNil)) (setN 6) (tAndD (tOfD (bop gNe (dVar 6) (dVar 2))) (tOfD (bop gNe (dVar 6) (dVar 3)))) (dVar 6) e0 = some ((othersL v q).map D.int) := by
    rw [nLc_of (fun (i : Nat) => D.int (i : Int)) (fun (i : Nat) => !memI (i : Int) [q.1, q.2]) (fun (i : Nat) => D.int (i : Int)) ri (by rw [List.length_range]; omega) fun i _ => ⟨[some (.fz W), some (.dct .read m), some (.fz (.int q.1)), some (.fz (.int q.2)), none, none, some (.fz (.int (i : Int))), none, none], rfl, by
      rw [tAndD_of (tOfD_of ((bop_of (x := .int (i : Int)) (y := .int q.1) rfl rfl).trans (gNe_int _ _))) fun _ => tOfD_of ((bop_of (x := .int (i : Int)) (y := .int q.2) rfl rfl).trans (gNe_int _ _))]
      simp [memI], fun _ => rfl⟩]
    unfold othersL rangeI
    rw [List.filter_map, List.map_map]
    rfl
  let e1 : Env := [some (.fz W), some (.dct .read m), some (.fz (.int q.1)), some (.fz (.int q.2)), some (.fz (.lst ((othersL v q).map D.int))), none, none, none, none]
  have w2 : bop gSub (bop gIx (dVar 0) (dC (.int 1))) (dC (.int 2)) e1 = some (.int ((k - 2 : Nat) : Int)) := by
    refine (bop_of (x := .int (k : Int)) (y := .int 2) rfl rfl).trans ?_
    show some (D.int ((k : Int) - 2)) = _
    rw [show (k : Int) - 2 = ((k - 2 : Nat) : Int) by omega]
  have sm := fun j => S_small (ps := othersL v q) (by omega) j
  have it2 : iAny (cll (aCons (dVar 4) (aCons (bop gSub (bop gIx (dVar 0) (dC (.int 1))) (dC (.int 2))) aNil)) d_sets_of_papers) e1 = some ((S (othersL v q) (k - 2)).map tI) := by
    unfold iAny
    rw [(cll2 (x := .lst ((othersL v q).map D.int)) rfl w2).trans (sets_papers_eq _ _ (others_inc v q) (by omega) (by omega) (fun i => by have := sm i; omega))]
    rfl
  have l2 : nLc [7] (iAny (cll (aCons (dVar 4) (aCons (bop gSub (bop gIx (dVar 0) (dC (.int 1))) (dC (.int 2))) aNil)) d_sets_of_papers)) (setN 7) tYesD (cll (aCons (fun env => bnd ((clN (aCons (bop gAdd (dVar 7) (dTup (aCons (dVar 2) (aCons (dVar 3) aNil)))) aNil) gSortedI) env) fun ds => some (.lst ds)) aNil) gTuple) e1 = some ((foundL v k q).map tI) := by
    rw [nLc_all tI (fun r => tI (sortI ([q.1, q.2] ++ r))) it2 (by have := sm (k - 2); omega) fun r hr => ?_]
    · unfold foundL
      rw [List.map_map]
      rfl
    · have hl := (S_sub hr).2
      let e2 : Env := [some (.fz W), some (.dct .read m), some (.fz (.int q.1)), some (.fz (.int q.2)), some (.fz (.lst ((othersL v q).map D.int))), none, none, some (.fz (tI r)), none]
      refine ⟨e2, rfl, ?_⟩
      have ad : bop gAdd (dVar 7) (dTup (aCons (dVar 2) (aCons (dVar 3) aNil))) e2 = some (tI (r ++ [q.1, q.2])) := (bop_of (x := tI r) (y := tI [q.1, q.2]) rfl rfl).trans (gAdd_tI _ _ (by simp; omega))
      have so : clN (aCons (bop gAdd (dVar 7) (dTup (aCons (dVar 2) (aCons (dVar 3) aNil)))) aNil) gSortedI e2 = some ((sortI ([q.1, q.2] ++ r)).map D.int) := by
        unfold clN
        rw [aCons1 ad]
        rw [sortI_perm_eq (y := r ++ [q.1, q.2]) List.perm_append_comm]
        exact gSortedI_tI _ (by simp; omega)
      have l4 : ∀ fa : Env → Option D, fa e2 = some (.lst ((sortI ([q.1, q.2] ++ r)).map D.int)) → cll (aCons fa aNil) gTuple e2 = some (tI (sortI ([q.1, q.2] ++ r))) := fun fa h => (cll1 h).trans rfl
      refine l4 _ ?_
      show bnd _ _ = _
      rw [so]
      rfl
  let e3 : Env := [some (.fz W), some (.dct .read m), some (.fz (.int q.1)), some (.fz (.int q.2)), some (.fz (.lst ((othersL v q).map D.int))), some (.fz (.lst ((foundL v k q).map tI))), none, none, none]
  have st3 : (fun env => bnd ((clN (aCons (dVar 5) aNil) gSortedT) env) fun ds => some (D.lst ds)) e3 = some (.lst ((sortC (foundL v k q)).map tI)) := by
    show bnd (gSortedT [.lst ((foundL v k q).map tI)]) _ = _
    rw [gSortedT_tI (v := v) (k := k) (fun m hm => found_bok hq hk2 hm) (by omega) (by omega) (by have := len_found (k := k) hq hv; omega)]
    rfl
  have it3 : iAny (fun env => bnd ((clN (aCons (dVar 5) aNil) gSortedT) env) fun ds => some (.lst ds)) e3 = some ((sortC (foundL v k q)).map tI) := by
    unfold iAny
    rw [st3]
    rfl
  have l3 : nLc [8] (iAny (fun env => bnd ((clN (aCons (dVar 5) aNil) gSortedT) env) fun ds => some (.lst ds))) (setN 8) (tOfD (cllM 1 (aCons (dVar 8) (aCons (bop gIx (dVar 0) (dC (.int 2))) aNil)) d_fits)) (dVar 8) e3 = some ((sonsP v k l bs q).map tI) := by
    refine nLc_of tI (fitB l bs) tI it3 (by rw [(sortC_perm _).length_eq]; have := len_found (k := k) hq hv; omega) fun blk hb => ⟨[some (.fz W), some (.dct .read m), some (.fz (.int q.1)), some (.fz (.int q.2)), some (.fz (.lst ((othersL v q).map D.int))), some (.fz (.lst ((foundL v k q).map tI))), none, none, some (.fz (tI blk))], rfl, ?_, fun _ => rfl⟩
    have hbk := found_bok hq hk2 ((sortC_perm _).mem_iff.mp hb)
    refine tOfD_of ((cllM_of (m := m) (ds := [tI blk, .int (l : Int)]) rfl (aCons2 rfl rfl)).trans ?_)
    rw [pfits_eq m blk l (by rw [hbk.len]; omega), fitB_P2 c hbk]
  show outD (sSeq _ _ e0) = _
  have s1 : sSet 4 (fun env => bnd ((nLc [6] (iRg1 (aCons (bop gIx (dVar 0) (dC (.int 0))) aNil)) (setN 6) (tAndD (tOfD (bop gNe (dVar 6) (dVar 2))) (tOfD (bop gNe (dVar 6) (dVar 3)))) (dVar 6)) env) fun ds => some (.lst ds)) e0 = some (.nx e1) := sSet_of (lstF l1)
  have s2 : sSet 5 (fun env => bnd ((nLc [7] (iAny (cll (aCons (dVar 4) (aCons (bop gSub (bop gIx (dVar 0) (dC (.int 1))) (dC (.int 2))) aNil)) d_sets_of_papers)) (setN 7) tYesD (cll (aCons (fun env => bnd ((clN (aCons (bop gAdd (dVar 7) (dTup (aCons (dVar 2) (aCons (dVar 3) aNil)))) aNil) gSortedI) env) fun ds => some (.lst ds)) aNil) gTuple)) env) fun ds => some (.lst ds)) e1 = some (.nx e3) := sSet_of (lstF l2)
  rw [sSeq_of s1, sSeq_of s2, sRet_at (lstF l3)]
  rfl
/-- counting a block -/
theorem Cnt.count {v k : Nat} {m : Mp} {bs : List (List Int)} {blk : List Int} (c : Cnt v m bs) (h : BOk v k blk) : Cnt v ((P2 blk).foldl (addC 1) m) (bs ++ [blk]) := by
  intro q hq
  have hl := (mem_pairsN.mp hq).2.1
  rw [mg_adds, c q hq, cnt2_app, (P2_perm blk).count_eq, show q = (q.1, q.2) from rfl, count_prs h.inc hl]
  have : cnt2 [blk] q.1 q.2 = if memI q.1 blk && memI q.2 blk then 1 else 0 := by
    unfold cnt2
    rw [List.filter_cons]
    split <;> rfl
  rw [this]
  split <;> simp
theorem Cnt.back {v k : Nat} {m : Mp} {bs : List (List Int)} {blk : List Int} (c : Cnt v m (bs ++ [blk])) (h : BOk v k blk) : Cnt v ((P2 blk).foldl (addC (-1)) m) bs := by
  intro q hq
  have hl := (mem_pairsN.mp hq).2.1
  rw [mg_adds, c q hq, cnt2_app, (P2_perm blk).count_eq, show q = (q.1, q.2) from rfl, count_prs h.inc hl]
  have : cnt2 [blk] q.1 q.2 = if memI q.1 blk && memI q.2 blk then 1 else 0 := by
    unfold cnt2
    rw [List.filter_cons]
    split <;> rfl
  rw [this]
  split <;> simp <;> omega
theorem P2_rng {v k : Nat} {blk : List Int} (h : BOk v k blk) : ∀ q ∈ P2 blk, 0 ≤ q.1 ∧ q.1 < (v : Int) ∧ 0 ≤ q.2 ∧ q.2 < (v : Int) := fun q hq => by
  obtain ⟨a, b, c⟩ := mem_pairsN.mp (mem_P2 h hq)
  omega
end EM
set_option maxHeartbeats 1000000
namespace EM
open PySem PySem.Spec PyProof.Rows L2
/-! trees -/
def sonD (s : List Int × D) : D := .tup [tI s.1, s.2]
def nodeD (q : Int × Int) (sons : List (List Int × D)) : D := .tup [.int q.1, .int q.2, .tup (sons.map sonD)]
def sonsOk (P : List (List Int) → D → Nat → Prop) (bs : List (List Int)) : List (List Int × D) → Nat → Prop
  | [], s => s = 0
  | x :: r, s => ∃ n1 n2, P (bs ++ [x.1]) x.2 n1 ∧ sonsOk P bs r n2 ∧ s = n1 + n2
def TreeOk (v k l : Nat) : Nat → List (List Int) → D → Nat → Prop
  | 0 => fun _ _ _ => False
  | n + 1 => fun bs d sz => ∃ q sons s, q ∈ pairsN v ∧ cnt2 bs q.1 q.2 < l ∧ d = nodeD q sons ∧ sons.map (·.1) = sonsP v k l bs q ∧ sonsOk (TreeOk v k l n) bs sons s ∧ sz = s + 1
theorem are_whole_tI (m : List Int) (h : m.length ≤ 100000) : d_are_whole [tI m] = some (.bl true) := by
  unfold d_are_whole
  refine (runD_at rfl).trans ?_
  unfold g_are_whole
  let e : Env := [some (.fz (tI m)), none]
  have lc : nLc [1] (iAny (dVar 0)) (setN 1) tYesD (cll (aCons (dVar 1) aNil) d_is_whole_papers) e = some (m.map fun _ => D.bl true) :=
    nLc_all D.int (fun _ => .bl true) rfl h fun x _ => ⟨[some (.fz (tI m)), some (.fz (.int x))], rfl, (cll1 rfl).trans rfl⟩
  have l4 : ∀ fa : Env → Option D, fa e = some (.lst (m.map fun _ => D.bl true)) → cll (aCons fa aNil) gAll e = some (.bl true) := fun fa hh => by
    rw [cll1 hh, show m.map (fun _ => D.bl true) = (m.map fun _ => true).map D.bl by rw [List.map_map]; rfl, gAll_of]
    simp
  show outD (sRet _ e) = _
  rw [sRet_at (d := .bl true) (l4 _ (by
    show bnd _ _ = _
    rw [lc]
    rfl))]
  rfl
theorem is_son_ok (s : List Int × D) (h : s.1.length ≤ 100000) : d_is_son [sonD s] = some (.bl true) := by
  unfold d_is_son
  refine (runD_at rfl).trans ?_
  unfold g_is_son
  let e : Env := [some (.fz (sonD s))]
  show outD (sRet _ e) = _
  have a4 : cll (aCons (bop gIx (dVar 0) (dC (.int 0))) aNil) d_are_whole e = some (.bl true) := (cll1 (x := tI s.1) rfl).trans (are_whole_tI s.1 h)
  rw [sRet_at (d := .bl true) (dAndV_true rfl (dAndV_true rfl (dAndV_true rfl a4)))]
  rfl
theorem is_node_ok {v k l : Nat} {st : List (List Int)} {q : Int × Int} {sons : List (List Int × D)} (hq : q ∈ pairsN v) (hs : ∀ s ∈ sons, s.1.length ≤ 100000) (hl : sons.length ≤ 1000) : d_is_node [WD v k l st, nodeD q sons] = some (.bl true) := by
  obtain ⟨h1, h2, h3⟩ := mem_pairsN.mp hq
  unfold d_is_node
  refine (runD_at rfl).trans ?_
  unfold g_is_node
  let e : Env := [some (.fz (WD v k l st)), some (.fz (nodeD q sons)), none]
  have aw : tOfD (cll (aCons (dSl (dVar 1) oNone (oSome (dC (.int 2)))) aNil) d_are_whole) e = some true := by
    refine tOfD_of ((cll1 (x := tI [q.1, q.2]) ?_).trans (are_whole_tI _ (by simp)))
    rfl
  show outD (sSeq _ _ e) = _
  rw [sSeq_of (sIf_skip (tOrD_of (b := false) rfl fun _ => tOrD_of (b := false) rfl fun _ => tOrD_of (tNotD_of aw) fun _ => (rfl : _ = some false)))]
  have ch3 : dChain3 gLe gLt gLt (dC (.int 0)) (bop gIx (dVar 1) (dC (.int 0))) (bop gIx (dVar 1) (dC (.int 1))) (bop gIx (dVar 0) (dC (.int 0))) e = some (.bl true) := by
    show (match some (D.bl (decide (0 ≤ q.1))) with
      | some (.bl true) => bnd (some (D.int q.2)) fun z => (match some (D.bl (decide (q.1 < q.2))) with
        | some (.bl true) => bnd (some (D.int v)) fun w => gLt (.int q.2) w
        | some (.bl false) => some (.bl false)
        | _ => none)
      | some (.bl false) => some (.bl false)
      | _ => none) = _
    rw [decide_eq_true h1, decide_eq_true h2]
    show some (D.bl (decide (q.2 < (v : Int)))) = _
    rw [decide_eq_true h3]
  have lc : nLc [2] (iAny (bop gIx (dVar 1) (dC (.int 2)))) (setN 2) tYesD (cll (aCons (dVar 2) aNil) d_is_son) e = some (sons.map fun _ => D.bl true) :=
    nLc_all sonD (fun _ => .bl true) rfl (by omega) fun x hx => ⟨[some (.fz (WD v k l st)), some (.fz (nodeD q sons)), some (.fz (sonD x))], rfl, (cll1 rfl).trans (is_son_ok x (hs x hx))⟩
  have l4 : ∀ fa : Env → Option D, fa e = some (.lst (sons.map fun _ => D.bl true)) → cll (aCons fa aNil) gAll e = some (.bl true) := fun fa hh => by
    rw [cll1 hh, show sons.map (fun _ => D.bl true) = (sons.map fun _ => true).map D.bl by rw [List.map_map]; rfl, gAll_of]
    simp
  rw [sRet_at (d := .bl true) (dAndV_true ch3 (l4 _ (by
    show bnd _ _ = _
    rw [lc]
    rfl)))]
  rfl
theorem pyAll_tIs : ∀ ms : List (List Int), pyAll (ms.map tI) = some (ms.map fun m => PyData.tuple (m.map PyData.int))
  | [] => by simp [pyAll]
  | m :: ms => by simp [pyAll, tI, pyOf, pyAll_ints m, pyAll_tIs ms]
theorem dep_tIs : ∀ ms : List (List Int), PyData.depthAll (ms.map fun m => PyData.tuple (m.map PyData.int)) ≤ 1
  | [] => by simp [PyData.depthAll]
  | m :: ms => by
    have := dep_tIs ms
    simp only [List.map_cons, PyData.depthAll, PyData.depth, dep_ints]
    omega
theorem eqD_tIs (ms : List (List Int)) : eqD (.lst (ms.map tI)) (.lst (ms.map tI)) = some true := by
  refine eqD_refl ?_ fun p hp => ?_
  · have : gdAll (ms.map tI) = true := gdAll_mem fun d hd => by
      obtain ⟨m, _, rfl⟩ := List.mem_map.mp hd
      exact gd_tI m
    simpa [gd] using this
  · simp only [pyOf, pyAll_tIs, bnd_some', Option.some.injEq] at hp
    subst hp
    have := dep_tIs ms
    simp only [PyData.depth]
    omega
theorem node_taken_ok {v k l : Nat} {m : Mp} {bs st : List (List Int)} {q : Int × Int} {sons : List (List Int × D)} (c : Cnt v m bs) (hv : v ≤ 9) (hk2 : 2 ≤ k) (hk : k ≤ v) (hq : q ∈ pairsN v) (hc : cnt2 bs q.1 q.2 < l) (hs : sons.map (·.1) = sonsP v k l bs q) : d_node_taken m [WD v k l st, nodeD q sons] = some (.bl true) := by
  have hlen : sons.length ≤ 35 := by
    rw [← List.length_map (f := (·.1)), hs]
    exact len_sons hq hv
  have hbl : ∀ s ∈ sons, s.1.length ≤ 100000 := fun s h => by
    have : s.1 ∈ sonsP v k l bs q := by
      rw [← hs]
      exact List.mem_map_of_mem h
    rw [(sons_bok hq hk2 this).len]
    omega
  unfold d_node_taken
  rw [show runR 3 4 1 g_node_taken m [WD v k l st, nodeD q sons] = outD (g_node_taken [some (.fz (WD v k l st)), some (.dct .read m), some (.fz (nodeD q sons)), none]) from rfl]
  unfold g_node_taken
  let e : Env := [some (.fz (WD v k l st)), some (.dct .read m), some (.fz (nodeD q sons)), none]
  have t1 : tNotD (tOfD (cll (aCons (dVar 0) (aCons (dVar 2) aNil)) d_is_node)) e = some false := tNotD_of (b := true) (tOfD_of ((cll2 rfl rfl).trans (is_node_ok hq hbl (by omega))))
  have t2 : tOfD (bop gGe (dGetOr 1 (dTup (aCons (bop gIx (dVar 2) (dC (.int 0))) (aCons (bop gIx (dVar 2) (dC (.int 1))) aNil))) (dC (.int 0))) (bop gIx (dVar 0) (dC (.int 2)))) e = some false := by
    have o : dGetOr 1 (dTup (aCons (bop gIx (dVar 2) (dC (.int 0))) (aCons (bop gIx (dVar 2) (dC (.int 1))) aNil))) (dC (.int 0)) e = some (.int (mg m q)) := dGet_of (q := q) rfl rfl
    refine tOfD_of ((bop_of o (y := .int (l : Int)) rfl).trans ?_)
    show some (D.bl (decide ((l : Int) ≤ mg m q))) = _
    rw [c q hq, decide_eq_false (by omega)]
  show outD (sSeq _ _ e) = _
  rw [sSeq_of (sIf_skip (tOrD_of t1 fun _ => t2))]
  have lc : nLc [3] (iAny (bop gIx (dVar 2) (dC (.int 2)))) (setN 3) tYesD (bop gIx (dVar 3) (dC (.int 0))) e = some ((sonsP v k l bs q).map tI) := by
    rw [nLc_all sonD (fun s => tI s.1) rfl (by omega) fun x _ => ⟨[some (.fz (WD v k l st)), some (.dct .read m), some (.fz (nodeD q sons)), some (.fz (sonD x))], rfl, rfl⟩, ← hs, List.map_map]
    rfl
  have due : cllM 1 (aCons (dVar 0) (aCons (bop gIx (dVar 2) (dC (.int 0))) (aCons (bop gIx (dVar 2) (dC (.int 1))) aNil))) d_sons_due e = some (.lst ((sonsP v k l bs q).map tI)) := (cllM_of (m := m) (ds := [WD v k l st, .int q.1, .int q.2]) rfl (aCons3 rfl rfl rfl)).trans (sons_due_eq c hv hk2 hk hq)
  rw [sRet_at (d := .bl true) ((bop_of (lstF lc) due).trans (gEq_eqD (eqD_tIs _)))]
  rfl
end EM
set_option maxHeartbeats 1000000
namespace EM
open PySem PySem.Spec PyProof.Rows L2
def tPush : Env → Option Res := sApp 4 (dTup (aCons (dC (.int 1)) (aCons (bop gIx (dVar 5) (dC (.int 0))) (aCons (bop gIx (dVar 5) (dC (.int 1))) aNil))))
def tBody : Env → Option Res := (sSeq (sPopT 4 [6, 3, 7])
    (sSeq (sCallM 2 (aCons (dVar 3) (aCons (dVar 6) aNil)) d_count_block)
    (sSeq (sIf (tOfD (bop gLt (dVar 6) (dC (.int 0)))) sCt sNil)
    (sSeq (sIf (tNotD (tOfD (cllM 2 (aCons (dVar 0) (aCons (dVar 7) aNil)) d_node_taken))) (sRet (dC (.bl false))) sNil)
    (sSeq (sApp 4 (dTup (aCons (uop gNeg (dC (.int 1))) (aCons (dVar 3) (aCons (dVar 7) aNil)))))
    (sFor (iAny (dRevT (bop gIx (dVar 7) (dC (.int 2))))) (setN 5) tPush))))))
def tTest : Env → Option Bool := tOfD (bop gGt (dLenOwn 4) (dC (.int 0)))
def tE (W tree : D) (m : Mp) (work : List D) (blk son more node : Option D) : Env := [some (.fz W), some (.fz tree), some (.dct .own m), oz blk, some (.own work), oz son, oz more, oz node]
def entry (c : Int) (blk : List Int) (d : D) : D := .tup [.int c, tI blk, d]
theorem tE_slf {W tree : D} {m : Mp} {work : List D} {blk son more node : Option D} : noSlf (tE W tree m work blk son more node) = true := by
  cases blk <;> cases son <;> cases more <;> cases node <;> rfl
theorem while_ct {t : Env → Option Bool} {b : Env → Option Res} {n : Nat} {e e2 : Env} (h : t e = some true) (h2 : b e = some (.ct e2)) : whileD t b (n + 1) e = whileD t b n e2 := by
  show bnd (t e) _ = _
  rw [h]
  show bnd (b e) _ = _
  rw [h2]
  rfl
theorem while_nx {t : Env → Option Bool} {b : Env → Option Res} {n : Nat} {e e2 : Env} (h : t e = some true) (h2 : b e = some (.nx e2)) : whileD t b (n + 1) e = whileD t b n e2 := by
  show bnd (t e) _ = _
  rw [h]
  show bnd (b e) _ = _
  rw [h2]
  rfl
section
variable {W tree : D} {m m' : Mp} {work : List D} {b0 s0 c0 d0 : Option D}
theorem test_true (x : D) : tTest (tE W tree m (work ++ [x]) b0 s0 c0 d0) = some true := by
  refine tOfD_of ?_
  show some (D.bl (decide ((0 : Int) < ((work ++ [x]).length : Nat)))) = _
  rw [List.length_append, decide_eq_true (by simp)]
theorem pop_eq (c : Int) (blk : List Int) (d : D) : sPopT 4 [6, 3, 7] (tE W tree m (work ++ [entry c blk d]) b0 s0 c0 d0) = some (.nx (tE W tree m work (some (tI blk)) s0 (some (.int c)) (some d))) := by
  unfold sPopT
  show bnd (some (work ++ [entry c blk d])) _ = _
  rw [bnd_some']
  have e : (work ++ [entry c blk d])[(work ++ [entry c blk d]).length - 1]? = some (entry c blk d) := by simp
  rw [e, bnd_some', List.dropLast_concat]
  rfl
theorem call_eq {c : Int} {blk : List Int} {d : D} (h : d_count_block m [tI blk, .int c] = some (m', .non)) : sCallM 2 (aCons (dVar 3) (aCons (dVar 6) aNil)) d_count_block (tE W tree m work (some (tI blk)) s0 (some (.int c)) (some d)) = some (.nx (tE W tree m' work (some (tI blk)) s0 (some (.int c)) (some d))) := by
  unfold sCallM
  rw [show dctW 2 (tE W tree m work (some (tI blk)) s0 (some (.int c)) (some d)) = some (.own, m) from rfl]
  show bnd (aCons (dVar 3) (aCons (dVar 6) aNil) (tE W tree m work (some (tI blk)) s0 (some (.int c)) (some d))) _ = _
  rw [aCons2 (x := tI blk) (y := .int c) rfl rfl, bnd_some', h, bnd_some', tE_slf]
  rfl
theorem step_back {blk : List Int} {d : D} {n : Nat} (h : d_count_block m [tI blk, .int (-1)] = some (m', .non)) : whileD tTest tBody (n + 1) (tE W tree m (work ++ [entry (-1) blk d]) b0 s0 c0 d0) = whileD tTest tBody n (tE W tree m' work (some (tI blk)) s0 (some (.int (-1))) (some d)) := by
  refine while_ct (test_true _) ?_
  unfold tBody
  rw [sSeq_of (pop_eq (-1) blk d), sSeq_of (call_eq h)]
  rfl
theorem step_node {v k l : Nat} {st : List (List Int)} {blk : List Int} {q : Int × Int} {sons : List (List Int × D)} {n : Nat} (hW : W = WD v k l st) (h : d_count_block m [tI blk, .int 1] = some (m', .non)) (hn : d_node_taken m' [WD v k l st, nodeD q sons] = some (.bl true)) (hl : work.length + sons.length + 2 ≤ 100000) :
    ∃ s', whileD tTest tBody (n + 1) (tE W tree m (work ++ [entry 1 blk (nodeD q sons)]) b0 s0 c0 d0) = whileD tTest tBody n (tE W tree m' ((work ++ [entry (-1) blk (nodeD q sons)]) ++ (sons.reverse.map fun s => entry 1 s.1 s.2)) (some (tI blk)) s' (some (.int 1)) (some (nodeD q sons))) := by
  subst hW
  let N := nodeD q sons
  let e1 := tE (WD v k l st) tree m' work (some (tI blk)) s0 (some (.int 1)) (some N)
  have t : tNotD (tOfD (cllM 2 (aCons (dVar 0) (aCons (dVar 7) aNil)) d_node_taken)) e1 = some false := tNotD_of (b := true) (tOfD_of ((cllM_of (m := m') (ds := [WD v k l st, N]) rfl (aCons2 rfl rfl)).trans hn))
  let e2 := tE (WD v k l st) tree m' (work ++ [entry (-1) blk N]) (some (tI blk)) s0 (some (.int 1)) (some N)
  have ap : sApp 4 (dTup (aCons (uop gNeg (dC (.int 1))) (aCons (dVar 3) (aCons (dVar 7) aNil)))) e1 = some (.nx e2) := sApp_of (i := 4) (ds := work) (d := entry (-1) blk N) rfl rfl (by omega)
  obtain ⟨e', g1, ⟨s', wk, rfl⟩, g3⟩ := for_app (set := setN 5) (i := 4) (f := dTup (aCons (dC (.int 1)) (aCons (bop gIx (dVar 5) (dC (.int 0))) (aCons (bop gIx (dVar 5) (dC (.int 1))) aNil)))) sonD (fun s => entry 1 s.1 s.2) (fun e => ∃ (s' : Option D) (wk : List D), e = tE (WD v k l st) tree m' wk (some (tI blk)) s' (some (.int 1)) (some N)) sons.reverse (work ++ [entry (-1) blk N]) e2 ⟨s0, _, rfl⟩ rfl
    (by rw [List.length_append, List.length_reverse]; simp; omega)
    (fun s _ e acc hI h0 => by
      obtain ⟨s', wk, rfl⟩ := hI
      have h0' : wk = acc := Option.some.inj h0
      subst h0'
      exact ⟨tE (WD v k l st) tree m' wk (some (tI blk)) (some (sonD s)) (some (.int 1)) (some N), rfl, rfl, rfl, ⟨some (sonD s), _, rfl⟩, rfl⟩)
  have hwk : wk = (work ++ [entry (-1) blk N]) ++ sons.reverse.map fun s => entry 1 s.1 s.2 := Option.some.inj g3
  subst hwk
  refine ⟨s', while_nx (test_true _) ?_⟩
  unfold tBody
  rw [sSeq_of (pop_eq 1 blk N), sSeq_of (call_eq h), sSeq_of (e := e1) (sIf_skip rfl), sSeq_of (sIf_skip t), sSeq_of ap]
  have it : iAny (dRevT (bop gIx (dVar 7) (dC (.int 2)))) e2 = some (sons.reverse.map sonD) := by
    show some ((sons.map sonD).reverse) = _
    rw [List.map_reverse]
  exact (sFor_of it).trans g1
end
/-- the walk through a tree -/
theorem walk_tree {v k l : Nat} {st : List (List Int)} {tree : D} (hv : v ≤ 9) (hk2 : 2 ≤ k) (hk : k ≤ v) : ∀ (n : Nat) (bs bs0 : List (List Int)) (d : D) (sz : Nat), TreeOk v k l n bs d sz → ∀ (blk : List Int) (m : Mp) (work : List D) (f : Nat) (b0 s0 c0 d0 : Option D), Cnt v m bs0 → DOk v m →
    (∀ m, Cnt v m bs0 → Cnt v ((P2 blk).foldl (addC 1) m) bs) → (∀ m, Cnt v m bs → Cnt v ((P2 blk).foldl (addC (-1)) m) bs0) → blk.length ≤ 100 → (∀ q ∈ P2 blk, 0 ≤ q.1 ∧ q.1 < (v : Int) ∧ 0 ≤ q.2 ∧ q.2 < (v : Int)) → work.length + 40 * n ≤ 90000 →
    ∃ m' b1 s1 c1 d1, whileD tTest tBody (2 * sz + f) (tE (WD v k l st) tree m (work ++ [entry 1 blk d]) b0 s0 c0 d0) = whileD tTest tBody f (tE (WD v k l st) tree m' work b1 s1 c1 d1) ∧ Cnt v m' bs0 ∧ DOk v m'
  | 0, _, _, _, _, h => h.elim
  | n + 1, bs, bs0, d, sz, h => by
    obtain ⟨q, sons, s, hq, hc, rfl, hs, hso, rfl⟩ := h
    intro blk m work f b0 s0 c0 d0 cm dm hup hdn hbl hr hw
    obtain ⟨cb, d1⟩ := count_block_eq (v := v) blk 1 (by omega) hbl hr m dm
    have c1 := hup m cm
    have hlen : sons.length ≤ 35 := by
      rw [← List.length_map (f := (·.1)), hs]
      exact len_sons hq hv
    obtain ⟨s', g1⟩ := step_node (W := WD v k l st) (tree := tree) (work := work) (b0 := b0) (s0 := s0) (c0 := c0) (d0 := d0) (n := 2 * s + (1 + f)) rfl cb (node_taken_ok (st := st) c1 hv hk2 hk hq hc hs) (by omega)
    -- the sons
    have IH := walk_tree (v := v) (k := k) (l := l) (st := st) (tree := tree) hv hk2 hk n
    have lp : ∀ (ss : List (List Int × D)) (z : Nat) (wk : List D) (m : Mp) (f : Nat) (b0 s0 c0 d0 : Option D), sonsOk (TreeOk v k l n) bs ss z → (∀ x ∈ ss, x.1 ∈ sonsP v k l bs q) → Cnt v m bs → DOk v m → wk.length + ss.length + 40 * n ≤ 90000 →
        ∃ m' b1 s1 c1 d1, whileD tTest tBody (2 * z + f) (tE (WD v k l st) tree m (wk ++ (ss.reverse.map fun s => entry 1 s.1 s.2)) b0 s0 c0 d0) = whileD tTest tBody f (tE (WD v k l st) tree m' wk b1 s1 c1 d1) ∧ Cnt v m' bs ∧ DOk v m' := by
      intro ss
      induction ss with
      | nil =>
        intro z wk m f b0 s0 c0 d0 hz _ cm dm _
        have hz : z = 0 := hz
        subst hz
        refine ⟨m, b0, s0, c0, d0, ?_, cm, dm⟩
        rw [Nat.mul_zero, Nat.zero_add]
        show whileD _ _ f (tE _ _ m (wk ++ []) b0 s0 c0 d0) = _
        rw [List.append_nil]
      | cons x ss ih =>
        intro z wk m f b0 s0 c0 d0 hz hx cm dm hwl
        obtain ⟨n1, n2, t1, t2, rfl⟩ := hz
        rw [List.length_cons] at hwl
        have hbx := sons_bok hq hk2 (hx x (List.mem_cons_self ..))
        rw [List.reverse_cons, List.map_append, ← List.append_assoc]
        obtain ⟨m1, b1, s1, c1, d1, r1, cm1, dm1⟩ := IH (bs ++ [x.1]) bs x.2 n1 t1 x.1 m (wk ++ (ss.reverse.map fun s => entry 1 s.1 s.2)) (2 * n2 + f) b0 s0 c0 d0 cm dm (fun m hm => hm.count hbx) (fun m hm => hm.back hbx) (by rw [hbx.len]; omega) (P2_rng hbx) (by rw [List.length_append, List.length_map, List.length_reverse]; omega)
        obtain ⟨m2, b2, s2, c2, d2, r2, cm2, dm2⟩ := ih n2 wk m1 f b1 s1 c1 d1 t2 (fun y hy => hx y (List.mem_cons_of_mem _ hy)) cm1 dm1 (by omega)
        refine ⟨m2, b2, s2, c2, d2, ?_, cm2, dm2⟩
        rw [show 2 * (n1 + n2) + f = 2 * n1 + (2 * n2 + f) by omega]
        exact r1.trans r2
    obtain ⟨m2, b2, s2, c2, d2, r2, cm2, dm2⟩ := lp sons s (work ++ [entry (-1) blk (nodeD q sons)]) _ (1 + f) _ s' _ _ hso (fun x hx => by rw [← hs]; exact List.mem_map_of_mem hx) c1 d1 (by rw [List.length_append]; simp; omega)
    obtain ⟨cb2, d2'⟩ := count_block_eq (v := v) blk (-1) (by omega) hbl hr m2 dm2
    refine ⟨_, some (tI blk), s2, some (.int (-1)), some (nodeD q sons), ?_, hdn m2 cm2, d2'⟩
    rw [show 2 * (s + 1) + f = (2 * s + (1 + f)) + 1 by omega]
    refine g1.trans (r2.trans ?_)
    rw [show 1 + f = f + 1 by omega]
    exact step_back cb2
end EM
set_option maxHeartbeats 1000000
namespace EM
open PySem PySem.Spec PyProof.Rows L2
theorem cntNil (v : Nat) : Cnt v [] [] := fun _ _ => rfl
theorem tree_taken_ok {v k l : Nat} {st : List (List Int)} {tree : D} {n sz : Nat} (hv : v ≤ 9) (hk2 : 2 ≤ k) (hk : k ≤ v) (hst : ∀ m ∈ st, BOk v k m) (hn : n ≤ 2000) (hsz : 2 * sz + 1 ≤ 100000) (h : TreeOk v k l n st tree sz) : d_tree_taken [WD v k l st, tree] = some (.bl true) := by
  unfold d_tree_taken
  rw [show runD 2 8 g_tree_taken [WD v k l st, tree] = outD (g_tree_taken [some (.fz (WD v k l st)), some (.fz tree), none, none, none, none, none, none]) from rfl]
  unfold g_tree_taken
  let E : Mp → Option D → Env := fun m b => [some (.fz (WD v k l st)), some (.fz tree), some (.dct .own m), oz b, none, none, none, none]
  have E_slf : ∀ m b, noSlf (E m b) = true := fun m b => by cases b <;> rfl
  rw [sSeq_of (e := E [] none) rfl]
  have lp : ∀ (ss done : List (List Int)) (m : Mp) (b : Option D), (∀ x ∈ ss, BOk v k x) → Cnt v m done → DOk v m → ∃ m' b', forD (setN 3) (sCallM 2 (aCons (dVar 3) (aCons (dC (.int 1)) aNil)) d_count_block) (ss.map tI) (E m b) = some (.nx (E m' b')) ∧ Cnt v m' (done ++ ss) ∧ DOk v m' := by
    intro ss
    induction ss with
    | nil =>
      intro done m b _ c d
      exact ⟨m, b, rfl, by rw [List.append_nil]; exact c, d⟩
    | cons x ss ih =>
      intro done m b hx c d
      have bx := hx x (List.mem_cons_self ..)
      obtain ⟨cb, d1⟩ := count_block_eq (v := v) x 1 (by omega) (by rw [bx.len]; omega) (P2_rng bx) m d
      obtain ⟨m', b', g, c', d'⟩ := ih (done ++ [x]) _ (some (tI x)) (fun y hy => hx y (List.mem_cons_of_mem _ hy)) (c.count bx) d1
      refine ⟨m', b', ?_, by rw [List.append_assoc] at c'; exact c', d'⟩
      have st1 : sCallM 2 (aCons (dVar 3) (aCons (dC (.int 1)) aNil)) d_count_block (E m (some (tI x))) = some (.nx (E ((P2 x).foldl (addC 1) m) (some (tI x)))) := by
        unfold sCallM
        rw [show dctW 2 (E m (some (tI x))) = some (.own, m) from rfl]
        show bnd (aCons (dVar 3) (aCons (dC (.int 1)) aNil) (E m (some (tI x)))) _ = _
        rw [aCons2 (x := tI x) (y := .int 1) rfl rfl, bnd_some', cb, bnd_some', E_slf]
        rfl
      rw [List.map_cons]
      exact (forD_cons (e1 := E m (some (tI x))) rfl st1).trans g
  obtain ⟨m1, b1, g1, c1, d1⟩ := lp st [] [] none hst (cntNil v) (DOk.nil v)
  rw [List.nil_append] at c1
  rw [sSeq_of ((sFor_of (ds := st.map tI) rfl).trans g1)]
  let e4 := tE (WD v k l st) tree m1 [entry 1 [] tree] b1 none none none
  have s4 : sSetN 4 (nLst (aCons (dTup (aCons (dC (.int 1)) (aCons (dTup aNil) (aCons (dVar 1) aNil)))) aNil)) (E m1 b1) = some (.nx e4) := rfl
  rw [sSeq_of s4]
  obtain ⟨f, hf⟩ : ∃ f, 100000 = 2 * sz + (f + 1) := ⟨100000 - 2 * sz - 1, by omega⟩
  obtain ⟨m2, b2, s2, c2, d2, g2, _, _⟩ := walk_tree (st := st) (tree := tree) hv hk2 hk n st st tree sz h [] m1 [] (f + 1) b1 none none none c1 d1 (fun m hm => hm) (fun m hm => hm) (by simp) (fun q hq => by cases hq) (by simp; omega)
  have wh : sWhile big tTest tBody e4 = some (.nx (tE (WD v k l st) tree m2 [] b2 s2 c2 d2)) := by
    show whileD tTest tBody 100000 e4 = _
    rw [hf]
    refine g2.trans ?_
    show bnd (tTest (tE (WD v k l st) tree m2 [] b2 s2 c2 d2)) _ = _
    rw [show tTest (tE (WD v k l st) tree m2 [] b2 s2 c2 d2) = some false from rfl]
    rfl
  show outD (sSeq (sWhile big tTest tBody) _ e4) = _
  rw [sSeq_of wh]
  rfl
end EM
set_option maxHeartbeats 1000000
namespace EM
open PySem PySem.Spec PyProof.Rows L2
/-! how many blocks there can be -/
def sumQ (f : Int × Int → Nat) (qs : List (Int × Int)) : Nat := (qs.map f).sum
theorem sumQ_add (f g : Int × Int → Nat) : ∀ qs : List (Int × Int), sumQ (fun q => f q + g q) qs = sumQ f qs + sumQ g qs
  | [] => rfl
  | q :: qs => by
    have ih := sumQ_add f g qs
    unfold sumQ at ih ⊢
    simp only [List.map_cons, List.sum_cons]
    omega
theorem sumQ_le {f : Int × Int → Nat} {n : Nat} : ∀ qs : List (Int × Int), (∀ q ∈ qs, f q ≤ n) → sumQ f qs ≤ qs.length * n
  | [], _ => by simp [sumQ]
  | q :: qs, h => by
    have ih := sumQ_le qs fun x hx => h x (List.mem_cons_of_mem _ hx)
    have := h q (List.mem_cons_self ..)
    unfold sumQ at ih ⊢
    simp only [List.map_cons, List.sum_cons, List.length_cons, Nat.add_mul]
    omega
theorem sumQ_eq {f : Int × Int → Nat} {n : Nat} : ∀ qs : List (Int × Int), (∀ q ∈ qs, f q = n) → sumQ f qs = qs.length * n
  | [], _ => by simp [sumQ]
  | q :: qs, h => by
    have ih := sumQ_eq qs fun x hx => h x (List.mem_cons_of_mem _ hx)
    have := h q (List.mem_cons_self ..)
    unfold sumQ at ih ⊢
    simp only [List.map_cons, List.sum_cons, List.length_cons, Nat.add_mul]
    omega
theorem sumQ_zero (p : Int × Int) : ∀ qs : List (Int × Int), p ∉ qs → sumQ (fun q => if p = q then 1 else 0) qs = 0
  | [], _ => rfl
  | q :: qs, h => by
    have ih := sumQ_zero p qs fun z => h (List.mem_cons_of_mem _ z)
    have : ¬ p = q := fun z => h (z ▸ List.mem_cons_self ..)
    unfold sumQ at ih ⊢
    simp only [List.map_cons, List.sum_cons, if_neg this]
    omega
theorem sumQ_one (p : Int × Int) : ∀ qs : List (Int × Int), qs.Nodup → p ∈ qs → sumQ (fun q => if p = q then 1 else 0) qs = 1
  | [], _, h => by cases h
  | q :: qs, hn, h => by
    obtain ⟨n1, n2⟩ := List.nodup_cons.mp hn
    by_cases e : p = q
    · have ih := sumQ_zero p qs (by rw [e]; exact n1)
      unfold sumQ at ih ⊢
      simp only [List.map_cons, List.sum_cons, if_pos e]
      omega
    · have ih := sumQ_one p qs n2 ((List.mem_cons.mp h).resolve_left e)
      unfold sumQ at ih ⊢
      simp only [List.map_cons, List.sum_cons, if_neg e]
      omega
theorem sumQ_count {qs : List (Int × Int)} (hn : qs.Nodup) : ∀ P : List (Int × Int), (∀ p ∈ P, p ∈ qs) → sumQ (fun q => P.count q) qs = P.length
  | [], _ => by
    have := sumQ_eq (f := fun q => ([] : List (Int × Int)).count q) (n := 0) qs fun q _ => rfl
    rw [this]
    rfl
  | p :: P, h => by
    have ih := sumQ_count hn P fun x hx => h x (List.mem_cons_of_mem _ hx)
    have e : (fun q => (p :: P).count q) = fun q => P.count q + if p = q then 1 else 0 := by
      funext q
      rw [List.count_cons]
      congr 1
      by_cases z : p = q <;> simp [z]
    rw [e, sumQ_add, ih, sumQ_one p qs hn (h p (List.mem_cons_self ..)), List.length_cons]
theorem pairs_small : ((List.range 10).all fun v => decide ((pairsN v).Nodup) && decide ((pairsN v).length * 2 = v * (v - 1))) = true := by decide +kernel
theorem pairs_nd {v : Nat} (hv : v ≤ 9) : (pairsN v).Nodup ∧ (pairsN v).length * 2 = v * (v - 1) := by
  have z := List.all_eq_true.mp pairs_small v (List.mem_range.mpr (by omega))
  rw [Bool.and_eq_true, decide_eq_true_eq, decide_eq_true_eq] at z
  exact z
theorem sum_cnt {v k : Nat} (hv : v ≤ 9) : ∀ bs : List (List Int), (∀ m ∈ bs, BOk v k m) → sumQ (fun q => cnt2 bs q.1 q.2) (pairsN v) = bs.length * ch k 2
  | [], _ => by
    have := sumQ_eq (f := fun q => cnt2 [] q.1 q.2) (n := 0) (pairsN v) fun q _ => rfl
    rw [this]
    simp
  | m :: bs, h => by
    have hm := h m (List.mem_cons_self ..)
    have ih := sum_cnt hv bs fun x hx => h x (List.mem_cons_of_mem _ hx)
    have e : sumQ (fun q => cnt2 (m :: bs) q.1 q.2) (pairsN v) = sumQ (fun q => (prs m).count q + cnt2 bs q.1 q.2) (pairsN v) := by
      unfold sumQ
      congr 1
      apply List.map_congr_left
      intro q hq
      have hl := (mem_pairsN.mp hq).2.1
      rw [show (prs m).count q = (prs m).count (q.1, q.2) from rfl, count_prs hm.inc hl, show m :: bs = [m] ++ bs from rfl, cnt2_app]
      congr 1
      unfold cnt2
      rw [List.filter_cons]
      split <;> rfl
    have hp : (prs m).length = ch k 2 := by
      unfold prs
      rw [List.length_map, S_len, hm.len]
    rw [e, sumQ_add, sumQ_count (pairs_nd hv).1 (prs m) (fun p hp => prs_in hm hp), ih, hp, List.length_cons, Nat.add_mul]
    omega
/-- no more blocks than the numbers tell -/
theorem few_blocks {v k l r b : Nat} {bs : List (List Int)} (w : WOk v k l) (hv : v ≤ 9) (hs : shN v k l = some (r, b)) (hb : ∀ m ∈ bs, BOk v k m) (hc : ∀ q ∈ pairsN v, cnt2 bs q.1 q.2 ≤ l) : bs.length ≤ b := by
  have a := sum_cnt hv bs hb
  have u := sumQ_le (n := l) (pairsN v) hc
  have e := shN_eq w hs
  have p := (pairs_nd hv).2
  have c := ch_two (v := k) (k := 2) (by omega) w.k2
  rw [show ch (k - 2) (2 - 2) = 1 from ch_zero _] at c
  have pos : 0 < k * (k - 1) := Nat.mul_pos (by have := w.k2; omega) (by have := w.k2; omega)
  have h1 : bs.length * (k * (k - 1)) ≤ b * (k * (k - 1)) := by
    have h2 : bs.length * ch k 2 * 2 ≤ (pairsN v).length * l * 2 := by
      rw [← a]
      exact Nat.mul_le_mul_right 2 u
    have h3 : bs.length * (k * (k - 1)) = bs.length * ch k 2 * 2 := by
      rw [Nat.mul_assoc, show ch k 2 * 2 = ch k 2 * (2 * (2 - 1)) from rfl, c, Nat.mul_one]
    have h4 : (pairsN v).length * l * 2 = l * (v * (v - 1)) := by
      rw [← p, Nat.mul_comm _ l, Nat.mul_assoc]
    rw [h3, e, ← h4]
    exact h2
  exact Nat.le_of_mul_le_mul_right h1 pos
end EM
set_option maxHeartbeats 1000000
namespace EM
open PySem PySem.Spec PyProof.Rows L2
def gE (T : SS) (bs : List (List Int)) (q : Option D) (sons : Option EV) (blk made node : Option D) : Env := [some (.slf .lent T), some (.fz (.tup (bs.map tI))), oz q, sons, oz blk, oz made, oz node]
def bsD (bs : List (List Int)) : D := .tup (bs.map tI)
/-- what going may end with -/
def Out (v k l n : Nat) (bs : List (List Int)) (T T' : SS) (d : D) : Prop :=
  (∃ bs', d = .tup [bsD (bs ++ bs'), .non] ∧ (∀ m ∈ bs ++ bs', BOk v k m) ∧ ∀ q ∈ pairsN v, cnt2 (bs ++ bs') q.1 q.2 = l) ∨
  (∃ node sz, d = .tup [.non, node] ∧ TreeOk v k l n bs node sz ∧ (sz : Int) ≤ T.left - T'.left) ∨ d = .tup [.non, .non]
def more (T : SS) (e : Int) : SS := { T with left := T.left + e }
theorem gAdd_bs (bs : List (List Int)) (x : List Int) (h : bs.length < 1000) : gAdd (bsD bs) (.tup [tI x]) = some (bsD (bs ++ [x])) := by
  have : gCatT (.tup (bs.map tI)) (.tup [tI x]) = some (.tup (bs.map tI ++ [tI x])) := by
    unfold gCatT
    simp only [List.length_map, List.length_cons, List.length_nil]
    rw [if_pos (by omega)]
  show orD (iop0 fun i j => i + j) (orD gCatT gCatL) (.tup (bs.map tI)) (.tup [tI x]) = _
  unfold orD
  simp only [iop0]
  rw [this]
  show some (D.tup (bs.map tI ++ [tI x])) = some (D.tup ((bs ++ [x]).map tI))
  rw [List.map_append]
  rfl
theorem tree_notNon {v k l n : Nat} {bs : List (List Int)} {d : D} {sz : Nat} (h : TreeOk v k l n bs d sz) : isNon d = false := by
  cases n with
  | zero => exact h.elim
  | succ n =>
    obtain ⟨q, sons, s, _, _, rfl, _⟩ := h
    rfl
def putT (T : SS) (c : Int) (blk : List Int) : SS := { T with often := (prs blk).foldl (addC c) T.often }
/-- a call that changes the Search, as a statement -/
theorem sllW_of {fa : Env → Option (List D)} {g : SS → List D → Option (SS × D)} {T T' : SS} {r : List (Option EV)} {ds : List D} {d : D} (h1 : fa (some (.slf .lent T) :: r) = some ds) (h2 : g T ds = some (T', d)) (h3 : r.all loneE = true) : sllW fa g (some (.slf .lent T) :: r) = some (some (.slf .lent T') :: r, d) := by
  unfold sllW
  rw [show slfW (some (.slf .lent T) :: r) = some T from rfl, bnd_some', h1, bnd_some', h2, bnd_some']
  show (if r.all loneE = true then _ else _) = _
  rw [if_pos h3]
  rfl
def gBody (self_ : SS → List D → Option (SS × D)) : Env → Option Res := (sSeq (sCallS (aCons (dVar 4) (aCons (dC (.int 1)) aNil)) d_Search_put)
    (sSeq (sAsgS [5, 6] (aCons (bop gAdd (dVar 1) (dTup (aCons (dVar 4) aNil))) aNil) self_)
    (sSeq (sCallS (aCons (dVar 4) (aCons (bop gSub (dC (.int 0)) (dC (.int 1))) aNil)) d_Search_put)
    (sSeq (sIf (tOrD (tOfD (bop gNotN (dVar 5) (dC .non))) (tOfD (bop gIsN (dVar 6) (dC .non)))) (sRet (dTup (aCons (dVar 5) (aCons (dC .non) aNil)))) sNil)
    (sApp 3 (dTup (aCons (dVar 4) (aCons (dVar 6) aNil))))))))
theorem gE_lone {bs : List (List Int)} {q : Option D} {acc : List D} {blk made node : Option D} : [some (.fz (.tup (bs.map tI))), oz q, some (.own acc), oz blk, oz made, oz node].all loneE = true := by
  cases q <;> cases blk <;> cases made <;> cases node <;> rfl
theorem one_son {self_ : SS → List D → Option (SS × D)} {T T1 T2 T3 : SS} {bs : List (List Int)} {blk : List Int} {q m0 n0 : Option D} {acc : List D} {md nd : D} (h1 : d_Search_put T [tI blk, .int 1] = some (T1, .non)) (h2 : self_ T1 [bsD (bs ++ [blk])] = some (T2, .tup [md, nd])) (h3 : d_Search_put T2 [tI blk, .int (-1)] = some (T3, .non)) (hb : bs.length < 1000) (ha : acc.length < 100000) :
    gBody self_ (gE T bs q (some (.own acc)) (some (tI blk)) m0 n0) = if (!isNon md || isNon nd) = true then some (.rt (gE T3 bs q (some (.own acc)) (some (tI blk)) (some md) (some nd)) (.tup [md, .non])) else some (.nx (gE T3 bs q (some (.own (acc ++ [.tup [tI blk, nd]]))) (some (tI blk)) (some md) (some nd))) := by
  unfold gBody
  have s1 : sCallS (aCons (dVar 4) (aCons (dC (.int 1)) aNil)) d_Search_put (gE T bs q (some (.own acc)) (some (tI blk)) m0 n0) = some (.nx (gE T1 bs q (some (.own acc)) (some (tI blk)) m0 n0)) := by
    unfold sCallS gE
    rw [sllW_of (aCons2 (x := tI blk) (y := .int 1) rfl rfl) h1 gE_lone]
    rfl
  have s2 : sAsgS [5, 6] (aCons (bop gAdd (dVar 1) (dTup (aCons (dVar 4) aNil))) aNil) self_ (gE T1 bs q (some (.own acc)) (some (tI blk)) m0 n0) = some (.nx (gE T2 bs q (some (.own acc)) (some (tI blk)) (some md) (some nd))) := by
    unfold sAsgS gE
    rw [sllW_of (aCons1 ((bop_of (x := bsD bs) (y := .tup [tI blk]) rfl rfl).trans (gAdd_bs bs blk hb))) h2 gE_lone]
    rfl
  have s3 : sCallS (aCons (dVar 4) (aCons (bop gSub (dC (.int 0)) (dC (.int 1))) aNil)) d_Search_put (gE T2 bs q (some (.own acc)) (some (tI blk)) (some md) (some nd)) = some (.nx (gE T3 bs q (some (.own acc)) (some (tI blk)) (some md) (some nd))) := by
    unfold sCallS gE
    rw [sllW_of (aCons2 (x := tI blk) (y := .int (-1)) rfl rfl) h3 gE_lone]
    rfl
  rw [sSeq_of s1, sSeq_of s2, sSeq_of s3]
  let e := gE T3 bs q (some (.own acc)) (some (tI blk)) (some md) (some nd)
  have t1 : tOfD (bop gNotN (dVar 5) (dC .non)) e = some (!isNon md) := rfl
  have t2 : tOfD (bop gIsN (dVar 6) (dC .non)) e = some (isNon nd) := rfl
  have tt := tOrD_of t1 fun _ => t2
  by_cases c : (!isNon md || isNon nd) = true
  · rw [if_pos c, sSeq_rt (sIf_t (tt.trans (by rw [c])) (sRet_at (d := .tup [md, .non]) rfl))]
  · rw [if_neg c, sSeq_of (sIf_skip (tt.trans (by rw [Bool.not_eq_true] at c; rw [c])))]
    exact sApp_of (i := 3) (ds := acc) (d := .tup [tI blk, nd]) rfl rfl ha
end EM
set_option maxHeartbeats 1000000
namespace EM
open PySem PySem.Spec PyProof.Rows L2
def Goes (v k l n : Nat) (self_ : SS → List D → Option (SS × D)) : Prop := ∀ (bs : List (List Int)) (T : SS), (202 ≤ n + bs.length ∧ n + bs.length ≤ 600) → J v k l T bs → (∀ m ∈ bs, BOk v k m) → (∀ q ∈ pairsN v, cnt2 bs q.1 q.2 ≤ l) → 0 ≤ T.left →
  ∃ T' d, self_ T [bsD bs] = some (T', d) ∧ J v k l T' bs ∧ 0 ≤ T'.left ∧ T'.left ≤ T.left ∧ Out v k l n bs T T' d ∧ (d ≠ .tup [.non, .non] → ∀ e, 0 ≤ e → self_ (more T e) [bsD bs] = some (more T' e, d))
theorem J.more {v k l : Nat} {T : SS} {bs : List (List Int)} (j : J v k l T bs) (e : Int) : J v k l (more T e) bs := ⟨j.w, j.s, j.m, j.has, j.eq, j.len⟩
theorem fit_le {v k l : Nat} {bs : List (List Int)} {blk : List Int} (hb : BOk v k blk) (hf : fitB l bs blk = true) (hc : ∀ q ∈ pairsN v, cnt2 bs q.1 q.2 ≤ l) : ∀ q ∈ pairsN v, cnt2 (bs ++ [blk]) q.1 q.2 ≤ l := by
  intro q hq
  have hl := (mem_pairsN.mp hq).2.1
  rw [cnt2_app]
  have e : cnt2 [blk] q.1 q.2 = (prs blk).count q := by
    rw [show (prs blk).count q = (prs blk).count (q.1, q.2) from rfl, count_prs hb.inc hl]
    unfold cnt2
    rw [List.filter_cons]
    split <;> rfl
  by_cases hm : q ∈ prs blk
  · have z := List.all_eq_true.mp hf q hm
    rw [decide_eq_true_eq] at z
    have : cnt2 [blk] q.1 q.2 ≤ 1 := by
      unfold cnt2
      exact Nat.le_trans (List.length_filter_le _ _) (by simp)
    omega
  · rw [e, List.count_eq_zero.mpr hm]
    exact hc q hq
/-- the loop over the sons -/
theorem loop_sons {v k l n r b : Nat} {self_ : SS → List D → Option (SS × D)} (w : WOk v k l) (hv : v ≤ 9) (hs : shN v k l = some (r, b)) (hb200 : b ≤ 200) (G : Goes v k l n self_) {bs : List (List Int)} {q : Int × Int} (hq : q ∈ pairsN v) (hn : 202 ≤ n + 1 + bs.length ∧ n + 1 + bs.length ≤ 600) (hbs : ∀ m ∈ bs, BOk v k m) (hc : ∀ q ∈ pairsN v, cnt2 bs q.1 q.2 ≤ l) : ∀ (ss : List (List Int)) (T : SS) (acc : List D) (b0 m0 n0 : Option D), (∀ x ∈ ss, x ∈ sonsP v k l bs q) → acc.length + ss.length ≤ 1000 → J v k l T bs → 0 ≤ T.left →
    ∃ T', J v k l T' bs ∧ 0 ≤ T'.left ∧ T'.left ≤ T.left ∧
      ((∃ md acc' b1 m1 n1, (∀ e, 0 ≤ e → (md ≠ .non ∨ e = 0) → forD (setN 4) (gBody self_) (ss.map tI) (gE (more T e) bs (some (pD q)) (some (.own acc)) b0 m0 n0) = some (.rt (gE (more T' e) bs (some (pD q)) (some (.own acc')) b1 m1 n1) (.tup [md, .non]))) ∧
        (md = .non ∨ ∃ bs', md = bsD (bs ++ bs') ∧ (∀ m ∈ bs ++ bs', BOk v k m) ∧ ∀ q ∈ pairsN v, cnt2 (bs ++ bs') q.1 q.2 = l)) ∨
       (∃ sons sz b1 m1 n1, sons.map (·.1) = ss ∧ sonsOk (TreeOk v k l n) bs sons sz ∧ (sz : Int) ≤ T.left - T'.left ∧ ∀ e, 0 ≤ e → forD (setN 4) (gBody self_) (ss.map tI) (gE (more T e) bs (some (pD q)) (some (.own acc)) b0 m0 n0) = some (.nx (gE (more T' e) bs (some (pD q)) (some (.own (acc ++ sons.map sonD))) b1 m1 n1)))) := by
  intro ss
  induction ss with
  | nil =>
    intro T acc b0 m0 n0 _ _ j h0
    refine ⟨T, j, h0, Int.le_refl _, .inr ⟨[], 0, b0, m0, n0, rfl, rfl, by simp, fun e _ => ?_⟩⟩
    rw [List.map_nil, List.map_nil, List.append_nil]
    rfl
  | cons x ss ih =>
    intro T acc b0 m0 n0 hx hlen j h0
    rw [List.length_cons] at hlen
    have hxs := hx x (List.mem_cons_self ..)
    have hbx := sons_bok hq w.k2 hxs
    have hfx : fitB l bs x = true := by
      unfold sonsP at hxs
      exact (List.mem_filter.mp hxs).2
    have kle : k ≤ 9 := Nat.le_trans w.kv hv
    have j1 : J v k l (putT T 1 x) (bs ++ [x]) := j.put hbx
    have hbs1 : ∀ m ∈ bs ++ [x], BOk v k m := fun m hm => by
      rcases List.mem_append.mp hm with h | h
      · exact hbs m h
      · rw [List.mem_singleton] at h
        rw [h]
        exact hbx
    have hc1 := fit_le hbx hfx hc
    obtain ⟨T2, d, g1, j2, p0, ple, out, gm⟩ := G (bs ++ [x]) (putT T 1 x) (by rw [List.length_append]; simp; omega) j1 hbs1 hc1 h0
    have j3 : J v k l (putT T2 (-1) x) bs := j2.back hbx
    have put1 : ∀ e, d_Search_put (more T e) [tI x, .int 1] = some (more (putT T 1 x) e, .non) := fun e => put_eq (j.more e) hbx kle 1
    have put2 : ∀ e, d_Search_put (more T2 e) [tI x, .int (-1)] = some (more (putT T2 (-1) x) e, .non) := fun e => put_eq (j2.more e) hbx kle (-1)
    have more0 : ∀ S : SS, more S 0 = S := fun S => by
      unfold more
      rw [Int.add_zero]
    have hbl : bs.length < 1000 := by omega
    have turn : ∀ (md nd : D) (e : Int), 0 ≤ e → d = .tup [md, nd] → (d ≠ .tup [.non, .non] ∨ e = 0) → gBody self_ (gE (more T e) bs (some (pD q)) (some (.own acc)) (some (tI x)) m0 n0) = if (!isNon md || isNon nd) = true then some (.rt (gE (more (putT T2 (-1) x) e) bs (some (pD q)) (some (.own acc)) (some (tI x)) (some md) (some nd)) (.tup [md, .non])) else some (.nx (gE (more (putT T2 (-1) x) e) bs (some (pD q)) (some (.own (acc ++ [.tup [tI x, nd]]))) (some (tI x)) (some md) (some nd))) := by
      intro md nd e he hd hne
      have call : self_ (more (putT T 1 x) e) [bsD (bs ++ [x])] = some (more T2 e, .tup [md, nd]) := by
        rcases hne with hne | hne
        · rw [← hd]
          exact gm hne e he
        · rw [hne, more0, more0, ← hd]
          exact g1
      exact one_son (put1 e) call (put2 e) hbl (by omega)
    have fcons : ∀ (e : Int) (e2 : Env), gBody self_ (gE (more T e) bs (some (pD q)) (some (.own acc)) (some (tI x)) m0 n0) = some (.nx e2) → forD (setN 4) (gBody self_) ((x :: ss).map tI) (gE (more T e) bs (some (pD q)) (some (.own acc)) b0 m0 n0) = forD (setN 4) (gBody self_) (ss.map tI) e2 := fun e e2 h => by
      rw [List.map_cons]
      exact forD_cons (e1 := gE (more T e) bs (some (pD q)) (some (.own acc)) (some (tI x)) m0 n0) rfl h
    have frt : ∀ (e : Int) (e2 : Env) (y : D), gBody self_ (gE (more T e) bs (some (pD q)) (some (.own acc)) (some (tI x)) m0 n0) = some (.rt e2 y) → forD (setN 4) (gBody self_) ((x :: ss).map tI) (gE (more T e) bs (some (pD q)) (some (.own acc)) b0 m0 n0) = some (.rt e2 y) := fun e e2 y h => by
      rw [List.map_cons]
      show bnd (gBody self_ (gE (more T e) bs (some (pD q)) (some (.own acc)) (some (tI x)) m0 n0)) _ = _
      rw [h]
      rfl
    rcases out with ⟨bs', rfl, hok, hev⟩ | ⟨node, sz, rfl, ht, hsz⟩ | rfl
    · -- a design
      refine ⟨putT T2 (-1) x, j3, p0, ple, .inl ⟨bsD (bs ++ [x] ++ bs'), acc, some (tI x), some (bsD (bs ++ [x] ++ bs')), some .non, fun e he _ => frt e _ _ ((turn _ _ e he rfl (.inl (by intro z; cases z))).trans (if_pos rfl)), .inr ⟨[x] ++ bs', by rw [List.append_assoc], fun m hm => hok m (by rw [List.append_assoc]; exact hm), fun q hq => by rw [← List.append_assoc]; exact hev q hq⟩⟩⟩
    · -- a tree
      have nn := tree_notNon ht
      have tn : ∀ e, 0 ≤ e → gBody self_ (gE (more T e) bs (some (pD q)) (some (.own acc)) (some (tI x)) m0 n0) = some (.nx (gE (more (putT T2 (-1) x) e) bs (some (pD q)) (some (.own (acc ++ [.tup [tI x, node]]))) (some (tI x)) (some .non) (some node))) := fun e he => (turn _ _ e he rfl (.inl (by
        intro z
        have z1 : node = .non := by
          injection z with z
          injection z with _ z
          injection z with z _
        rw [z1] at nn
        cases nn))).trans (by
          rw [if_neg]
          rw [nn]
          exact Bool.false_ne_true)
      obtain ⟨T3, j4, p1, ple2, rest⟩ := ih (putT T2 (-1) x) (acc ++ [.tup [tI x, node]]) (some (tI x)) (some .non) (some node) (fun y hy => hx y (List.mem_cons_of_mem _ hy)) (by rw [List.length_append]; simp; omega) j3 p0
      have ple3 : T3.left ≤ T.left := Int.le_trans ple2 ple
      refine ⟨T3, j4, p1, ple3, ?_⟩
      rcases rest with ⟨md, acc', b1, m1, n1, hr, hmd⟩ | ⟨sons, sz2, b1, m1, n1, h1, h2, h3, h4⟩
      · exact .inl ⟨md, acc', b1, m1, n1, fun e he hz => (fcons e _ (tn e he)).trans (hr e he hz), hmd⟩
      · refine .inr ⟨(x, node) :: sons, sz + sz2, b1, m1, n1, by rw [List.map_cons, h1], ⟨sz, sz2, ht, h2, rfl⟩, ?_, fun e he => (fcons e _ (tn e he)).trans ((h4 e he).trans ?_)⟩
        · have q1 : (sz : Int) ≤ T.left - T2.left := hsz
          have q2 : (sz2 : Int) ≤ T2.left - T3.left := h3
          omega
        · rw [List.append_assoc]
          rfl
    · -- too far
      refine ⟨putT T2 (-1) x, j3, p0, ple, .inl ⟨.non, acc, some (tI x), some .non, some .non, fun e he hz => frt e _ _ ((turn _ _ e he rfl (.inr (hz.resolve_left fun z => z rfl))).trans (if_pos rfl)), .inl rfl⟩⟩
end EM
set_option maxHeartbeats 1000000
namespace EM
open PySem PySem.Spec PyProof.Rows L2
theorem going_all {v k l r b : Nat} (w : WOk v k l) (hv : v ≤ 9) (hs : shN v k l = some (r, b)) (hb200 : b ≤ 200) : ∀ n, Goes v k l n (d_Search_going n)
  | 0 => fun bs T hn j hbs hc h0 => by
    have := few_blocks w hv hs hbs hc
    omega
  | n + 1 => fun bs T hn j hbs hc h0 => by
    have G := going_all w hv hs hb200 n
    have hbl : bs.length ≤ 200 := Nat.le_trans (few_blocks w hv hs hbs hc) hb200
    have un : ∀ S : SS, d_Search_going (n + 1) S [bsD bs] = outS (g_Search_going (d_Search_going n) (gE S bs none none none none none)) := fun S => rfl
    have lk : ∀ e, d_Search_lacking (more T e) [] = some (match (pairsN v).find? (fun q => decide ((cnt2 bs q.1 q.2 : Nat) < l)) with
      | some q => pD q
      | none => .non) := fun e => lacking_eq (j.more e) (by omega)
    have more0 : more T 0 = T := by
      unfold more
      rw [Int.add_zero]
    cases hf : (pairsN v).find? (fun q => decide ((cnt2 bs q.1 q.2 : Nat) < l)) with
    | none =>
      have res : ∀ e, d_Search_going (n + 1) (more T e) [bsD bs] = some (more T e, .tup [bsD bs, .non]) := fun e => by
        rw [un]
        unfold g_Search_going
        have s1 : sSet 2 (sll aNil d_Search_lacking) (gE (more T e) bs none none none none none) = some (.nx (gE (more T e) bs (some .non) none none none none)) := by
          refine sSet_of ?_
          show d_Search_lacking (more T e) [] = _
          rw [lk e, hf]
        rw [sSeq_of s1, sSeq_rt (e := gE (more T e) bs (some .non) none none none none) (d := .tup [bsD bs, .non]) (sIf_t rfl rfl)]
        rfl
      refine ⟨T, _, by have := res 0; rw [more0] at this; exact this, j, h0, Int.le_refl _, .inl ⟨[], by rw [List.append_nil], by rw [List.append_nil]; exact hbs, fun q hq => ?_⟩, fun _ e _ => res e⟩
      rw [List.append_nil]
      have z := List.find?_eq_none.mp hf q hq
      rw [decide_eq_true_eq] at z
      have := hc q hq
      omega
    | some q =>
      have hq := List.mem_of_find?_eq_some hf
      have hql := List.find?_some hf
      rw [decide_eq_true_eq] at hql
      have pre : ∀ e, sSet 2 (sll aNil d_Search_lacking) (gE (more T e) bs none none none none none) = some (.nx (gE (more T e) bs (some (pD q)) none none none none)) := fun e => by
        refine sSet_of ?_
        show d_Search_lacking (more T e) [] = _
        rw [lk e, hf]
      have tz : ∀ e, tOfD (bop gEq (dSelf (fun S => S.left)) (dC (.int 0))) (gE (more T e) bs (some (pD q)) none none none none) = some (T.left + e == 0) := fun e => tOfD_of ((bop_of (x := .int (T.left + e)) rfl rfl).trans (gEq_int _ _))
      by_cases hz : T.left = 0
      · refine ⟨T, .tup [.non, .non], ?_, j, h0, Int.le_refl _, .inr (.inr rfl), fun z => absurd rfl z⟩
        have p := pre 0
        have t := tz 0
        rw [more0] at p t
        rw [hz] at t
        rw [un]
        unfold g_Search_going
        rw [sSeq_of p, sSeq_of (e := gE T bs (some (pD q)) none none none none) (sIf_skip rfl), sSeq_rt (e := gE T bs (some (pD q)) none none none none) (d := .tup [.non, .non]) (sIf_t t rfl)]
        rfl
      · let T1 : SS := { T with left := T.left - 1 }
        have j1 : J v k l T1 bs := ⟨j.w, j.s, j.m, j.has, j.eq, j.len⟩
        obtain ⟨T', j', p0, ple, out⟩ := loop_sons w hv hs hb200 G hq (by omega) hbs hc (sonsP v k l bs q) T1 [] none none none (fun _ h => h) (by have := len_sons (k := k) (l := l) (bs := bs) hq hv; simp; omega) j1 (show 0 ≤ T.left - 1 by omega)
        have ple' : T'.left ≤ T.left := Int.le_trans ple (show T.left - 1 ≤ T.left by omega)
        let tail : Env → Option Res := sFrz 3 (sRet (dTup (aCons (dC .non) (aCons (bop gAdd (dVar 2) (dTup (aCons (cll (aCons (dVar 3) aNil) gTuple) aNil))) aNil))))
        let E : Int → Env := fun e => gE (more T1 e) bs (some (pD q)) (some (.own [])) none none none
        have st5 : ∀ e, 0 ≤ e → d_Search_going (n + 1) (more T e) [bsD bs] = outS (sSeq (sFor (iAny (sll (aCons (dVar 2) aNil) d_Search_sons_of)) (setN 4) (gBody (d_Search_going n))) tail (E e)) := fun e he => by
          rw [un]
          unfold g_Search_going
          have t := tz e
          rw [beq_eq_false_iff_ne.mpr (show T.left + e ≠ 0 by omega)] at t
          have sl : sLeft (bop gSub (dSelf (fun S => S.left)) (dC (.int 1))) (gE (more T e) bs (some (pD q)) none none none none) = some (.nx (gE (more T1 e) bs (some (pD q)) none none none none)) := by
            have em : ({ more T e with left := T.left + e - 1 } : SS) = more T1 e := by
              show ({ T with left := T.left + e - 1 } : SS) = { T with left := T.left - 1 + e }
              rw [show T.left + e - 1 = T.left - 1 + e by omega]
            rw [← em]
            rfl
          rw [sSeq_of (pre e), sSeq_of (e := gE (more T e) bs (some (pD q)) none none none none) (sIf_skip rfl), sSeq_of (e := gE (more T e) bs (some (pD q)) none none none none) (sIf_skip t), sSeq_of sl, sSeq_of (e := E e) rfl]
          rfl
        have it : ∀ e, iAny (sll (aCons (dVar 2) aNil) d_Search_sons_of) (E e) = some ((sonsP v k l bs q).map tI) := fun e => by
          unfold iAny
          have z : sll (aCons (dVar 2) aNil) d_Search_sons_of (E e) = some (.lst ((sonsP v k l bs q).map tI)) := sons_of_eq (j1.more e) hv w.k2 w.kv hq
          rw [z]
          rfl
        rcases out with ⟨md, acc', b1, m1, n1, hr, hmd⟩ | ⟨sons, sz, b1, m1, n1, h1, h2, h3, h4⟩
        · have res : ∀ e, 0 ≤ e → (md ≠ .non ∨ e = 0) → d_Search_going (n + 1) (more T e) [bsD bs] = some (more T' e, .tup [md, .non]) := fun e he hz => by
            rw [st5 e he, sSeq_rt ((sFor_of (it e)).trans (hr e he hz))]
            rfl
          refine ⟨T', .tup [md, .non], by have := res 0 (Int.le_refl _) (.inr rfl); rw [more0] at this; rw [this]; unfold more; rw [Int.add_zero], j', p0, ple', ?_, fun hne e he => res e he (.inl fun z => hne (by rw [z]))⟩
          rcases hmd with rfl | ⟨bs', rfl, g1, g2⟩
          · exact .inr (.inr rfl)
          · exact .inl ⟨bs', rfl, g1, g2⟩
        · have hsl : sons.length ≤ 35 := by
            rw [← List.length_map (f := (·.1)), h1]
            exact len_sons hq hv
          have res : ∀ e, 0 ≤ e → d_Search_going (n + 1) (more T e) [bsD bs] = some (more T' e, .tup [.non, nodeD q sons]) := fun e he => by
            have g := h4 e he
            rw [List.nil_append] at g
            rw [st5 e he, sSeq_of ((sFor_of (it e)).trans g)]
            rfl
          refine ⟨T', .tup [.non, nodeD q sons], by have := res 0 (Int.le_refl _); rw [more0] at this; rw [this]; unfold more; rw [Int.add_zero], j', p0, ple', .inr (.inl ⟨_, sz + 1, rfl, ⟨q, sons, sz, hq, hql, rfl, h1, h2, rfl⟩, ?_⟩), fun _ e he => res e he⟩
          have : (sz : Int) ≤ T.left - 1 - T'.left := h3
          omega
end EM
set_option maxHeartbeats 1000000
namespace EM
open PySem PySem.Spec PyProof.Rows L2
def setC (st : List (List Int)) (m : Mp) (q : Int × Int) : Mp := mput m q (cnt2 st q.1 q.2 : Nat)
theorem setC_facts (st : List (List Int)) (p : Int × Int) : ∀ (qs : List (Int × Int)) (m : Mp), mhas (qs.foldl (setC st) m) p = (mhas m p || decide (p ∈ qs)) ∧ mg (qs.foldl (setC st) m) p = (if p ∈ qs then ((cnt2 st p.1 p.2 : Nat) : Int) else mg m p) ∧ (qs.foldl (setC st) m).length ≤ m.length + qs.length
  | [], m => by simp
  | q :: qs, m => by
    obtain ⟨h1, h2, h3⟩ := setC_facts st p qs (setC st m q)
    have hl : (setC st m q).length ≤ m.length + 1 := by
      unfold setC mput
      split
      · rw [← List.length_map (f := (·.1)), keys_mset, List.length_map]
        omega
      · simp
    rw [List.foldl_cons]
    refine ⟨?_, ?_, by rw [List.length_cons]; omega⟩
    · rw [h1]
      unfold setC
      rw [mhas_mput]
      by_cases e : p = q <;> simp [e]
    · rw [h2]
      unfold setC
      rw [mg_mput]
      by_cases e : p = q
      · subst e
        simp
      · simp [e]
theorem init_def {w st : D} {m v k l : Int} {e : Env} (h : tupOf w = some [.int v, .int k, .int l, st]) (h2 : g_Search_loop (envI ⟨k, v, l, m, []⟩ w st) = some (.nx e)) : d_Search_init [w, .int m] = slfW e := by
  simp only [d_Search_init, h, h2]
def iniT (v k l : Nat) (st : List (List Int)) (m : Int) : SS := ⟨k, v, l, m, (pairsN v).foldl (setC st) []⟩
theorem search_init_eq {v k l : Nat} {st : List (List Int)} (m : Int) (hv : v ≤ 9) (hst : st.length ≤ 1000) : d_Search_init [WD v k l st, .int m] = some (iniT v k l st m) ∧ J v k l (iniT v k l st m) st := by
  let T0 : SS := ⟨k, v, l, m, []⟩
  let E : Mp → Option D → Env := fun mp x => [some (.slf .lent { T0 with often := mp }), some (.fz (WD v k l st)), some (.fz (.int m)), oz x, some (.fz (.int v)), some (.fz (.int k)), some (.fz (.int l)), some (.fz (.tup (st.map tI)))]
  have E_lone : ∀ mp x, lone (E mp x) = true := fun mp x => by cases x <;> rfl
  have lp : ∀ (qs : List (Int × Int)) (mp : Mp) (x : Option D), mp.length + qs.length ≤ 1000 → ∃ x', forD (setN 3) (sPutO (dVar 3) (cll (aCons (dTup (aCons (dVar 4) (aCons (dVar 7) aNil))) (aCons (dVar 3) aNil)) d_count_of)) (qs.map pD) (E mp x) = some (.nx (E (qs.foldl (setC st) mp) x')) := by
    intro qs
    induction qs with
    | nil => exact fun mp x _ => ⟨x, rfl⟩
    | cons q qs ih =>
      intro mp x hl
      rw [List.length_cons] at hl
      have f1 := (setC_facts st q [q] mp).2.2
      obtain ⟨x', g⟩ := ih (setC st mp q) (some (pD q)) (by
        have : (setC st mp q).length ≤ mp.length + 1 := f1
        omega)
      refine ⟨x', (forD_cons (e1 := E mp (some (pD q))) rfl ?_).trans g⟩
      have co : cll (aCons (dTup (aCons (dVar 4) (aCons (dVar 7) aNil))) (aCons (dVar 3) aNil)) d_count_of (E mp (some (pD q))) = some (.int (cnt2 st q.1 q.2 : Nat)) := (cll2 rfl rfl).trans (count_of_eq q.1 q.2 (by omega))
      unfold sPutO
      rw [co]
      show (if decide (mp.length < 100000) && lone (E mp (some (pD q))) then _ else none) = _
      rw [decide_eq_true (by omega), E_lone, Bool.and_self, if_pos rfl]
      rfl
  have hp := (pairs_nd hv).2
  have hpl : (pairsN v).length ≤ 100 := by
    have : v * (v - 1) ≤ 9 * 9 := Nat.mul_le_mul hv (by omega)
    omega
  obtain ⟨x', g⟩ := lp (pairsN v) [] none (by simp; omega)
  have hi : iAny (cll (aCons (dVar 4) aNil) d_pairs_of) (E [] none) = some ((pairsN v).map pD) := by
    unfold iAny
    rw [(cll1 rfl).trans (pairs_of_eq v (by omega))]
    rfl
  have lo : g_Search_loop (envI ⟨k, v, l, m, []⟩ (WD v k l st) (.tup (st.map tI))) = some (.nx (E ((pairsN v).foldl (setC st) []) x')) := (sFor_of hi).trans g
  refine ⟨?_, ⟨rfl, rfl, rfl, fun q hq => ?_, fun q hq => ?_, ?_⟩⟩
  · rw [init_def (w := WD v k l st) (st := .tup (st.map tI)) (v := v) (k := k) (l := l) rfl lo]
    rfl
  · show mhas ((pairsN v).foldl (setC st) []) q = true
    rw [(setC_facts st q (pairsN v) []).1]
    simp [hq]
  · show mg ((pairsN v).foldl (setC st) []) q = _
    rw [(setC_facts st q (pairsN v) []).2.1, if_pos hq]
  · show ((pairsN v).foldl (setC st) []).length ≤ 1000
    have := (setC_facts st (0, 0) (pairsN v) []).2.2
    simp at this
    omega
end EM
set_option maxHeartbeats 1000000
namespace EM
open PySem PySem.Spec PyProof.Rows L2
theorem filter_pre (s : List Int) (xs ys : List (List Int)) : (xs.filter fun m => decide (m = s)).length ≤ ((xs ++ ys).filter fun m => decide (m = s)).length := by
  rw [List.filter_append, List.length_append]
  omega
def sGoF : Env → Option Res := fun env => bnd ((dGo (aCons (dVar 0) (aCons (dVar 1) aNil)) (aCons (bop gIx (dVar 0) (dC (.int 3))) aNil) d_Search_init (d_Search_going 202)) env) fun d => bnd ((setT [2, 3]) d env) fun e => some (Res.nx e)
theorem search_step {v k l : Nat} {st : List (List Int)} {T T' : SS} {m : Int} {x y : D} (h1 : d_Search_init [WD v k l st, .int m] = some T) (h2 : d_Search_going 202 T [bsD st] = some (T', .tup [x, y])) : d_searched [WD v k l st, .int m] = (if isNon x = false then some (.tup [.str "design", .tup [.int v, x]]) else if isNon y = false then some (.tup [.str "none", .tup [.str "tree", y]]) else some (.tup [.str "open"])) := by
  unfold d_searched
  refine (runD_at rfl).trans ?_
  unfold g_searched
  let W := WD v k l st
  have go : dGo (aCons (dVar 0) (aCons (dVar 1) aNil)) (aCons (bop gIx (dVar 0) (dC (.int 3))) aNil) d_Search_init (d_Search_going 202) [some (.fz W), some (.fz (.int m)), none, none] = some (.tup [x, y]) := by
    unfold dGo
    rw [aCons2 (x := W) (y := .int m) rfl rfl, bnd_some', h1, bnd_some', aCons1 (x := bsD st) rfl, bnd_some', h2, bnd_some']
  let e : Env := [some (.fz W), some (.fz (.int m)), some (.fz x), some (.fz y)]
  have s1 : sGoF [some (.fz W), some (.fz (.int m)), none, none] = some (.nx e) := by
    unfold sGoF
    show bnd (dGo _ _ _ _ _) _ = _
    rw [go]
    rfl
  show outD (sSeq sGoF _ [some (.fz W), some (.fz (.int m)), none, none]) = _
  rw [sSeq_of s1]
  have t1 : tOfD (bop gNotN (dVar 2) (dC .non)) e = some (!isNon x) := rfl
  have t2 : tOfD (bop gNotN (dVar 3) (dC .non)) e = some (!isNon y) := rfl
  by_cases c : isNon x = false
  · rw [if_pos c, sSeq_rt (e := e) (d := .tup [.str "design", .tup [.int v, x]]) (sIf_t (t1.trans (by rw [c]; rfl)) rfl)]
    rfl
  · have c' : isNon x = true := by simpa using c
    rw [if_neg c, sSeq_of (sIf_skip (t1.trans (by rw [c']; rfl)))]
    by_cases c2 : isNon y = false
    · rw [if_pos c2, sSeq_rt (e := e) (d := .tup [.str "none", .tup [.str "tree", y]]) (sIf_t (t2.trans (by rw [c2]; rfl)) rfl)]
      rfl
    · have c2' : isNon y = true := by simpa using c2
      rw [if_neg c2, sSeq_of (sIf_skip (t2.trans (by rw [c2']; rfl)))]
      rfl
def Right (v k l : Nat) (st : List (List Int)) (d : D) : Prop :=
  (∃ bs, d = .tup [.str "design", .tup [.int v, .tup (bs.map tI)]] ∧ Design v k l st bs) ∨ (∃ p, d = .tup [.str "none", p] ∧ gd p = true ∧ d_paper_taken [WD v k l st, p] = some (.bl true)) ∨ d = .tup [.str "open"]
theorem gd_int (i : Int) : gd (.int i) = true := by simp [gd]
theorem gd_str {s : Str} (h : PyData.strOk s = true) : gd (.str s) = true := by simpa [gd] using h
theorem sonsOk_mem {P : List (List Int) → D → Nat → Prop} {bs : List (List Int)} : ∀ {sons : List (List Int × D)} {s : Nat}, sonsOk P bs sons s → ∀ x ∈ sons, ∃ n, P (bs ++ [x.1]) x.2 n
  | [], _, _, x, hx => by cases hx
  | y :: r, s, h, x, hx => by
    obtain ⟨n1, n2, h1, h2, _⟩ := h
    rcases List.mem_cons.mp hx with rfl | hx
    · exact ⟨n1, h1⟩
    · exact sonsOk_mem h2 x hx
theorem gd_tree {v k l : Nat} : ∀ {n : Nat} {bs : List (List Int)} {d : D} {sz : Nat}, TreeOk v k l n bs d sz → gd d = true
  | 0, _, _, _, h => h.elim
  | n + 1, bs, d, sz, h => by
    obtain ⟨q, sons, s, _, _, rfl, _, h2, _⟩ := h
    refine gd_tup fun x hx => ?_
    simp only [List.mem_cons, List.not_mem_nil, or_false] at hx
    rcases hx with rfl | rfl | rfl
    · exact gd_int _
    · exact gd_int _
    · refine gd_tup fun y hy => ?_
      obtain ⟨s1, hs1, rfl⟩ := List.mem_map.mp hy
      obtain ⟨n1, h3⟩ := sonsOk_mem h2 s1 hs1
      refine gd_tup fun z hz => ?_
      simp only [List.mem_cons, List.not_mem_nil, or_false] at hz
      rcases hz with rfl | rfl
      · exact gd_tI _
      · exact gd_tree h3
theorem searched_ok {v k l r b : Nat} {st : List (List Int)} (w : WOk v k l) (hv : v ≤ 9) (hs : shN v k l = some (r, b)) (hb : b ≤ 200) (hst : ∀ m ∈ st, BOk v k m) (hc : ∀ q ∈ pairsN v, cnt2 st q.1 q.2 ≤ l) (m : Int) (h0 : 0 ≤ m) (h5 : m ≤ 5000) :
    ∃ d, d_searched [WD v k l st, .int m] = some d ∧ Right v k l st d ∧ (d ≠ .tup [.str "open"] → ∀ e : Int, 0 ≤ e → d_searched [WD v k l st, .int (m + e)] = some d) := by
  have hl := few_blocks w hv hs hst hc
  have ini := fun m' => search_init_eq (v := v) (k := k) (l := l) (st := st) m' hv (by omega)
  obtain ⟨T', d, g1, j', p0, ple, out, gm⟩ := going_all w hv hs hb 202 st (iniT v k l st m) ⟨by omega, by omega⟩ (ini m).2 hst hc h0
  have mr : ∀ e, iniT v k l st (m + e) = more (iniT v k l st m) e := fun e => rfl
  rcases out with ⟨bs', rfl, hok, hev⟩ | ⟨node, sz, rfl, ht, hsz⟩ | rfl
  · have q : ∀ {m' : Int} {T T1 : SS}, d_Search_init [WD v k l st, .int m'] = some T → d_Search_going 202 T [bsD st] = some (T1, .tup [bsD (st ++ bs'), .non]) → d_searched [WD v k l st, .int m'] = some (.tup [.str "design", .tup [.int v, bsD (st ++ bs')]]) := fun e1 e2 => (search_step e1 e2).trans (if_pos rfl)
    refine ⟨.tup [.str "design", .tup [.int v, bsD (st ++ bs')]], q (ini m).1 g1, .inl ⟨st ++ bs', rfl, by omega, w.kv, ?_, hok, fun a c h1 h2 h3 => hev (a, c) (mem_pairsN.mpr ⟨h1, h2, h3⟩), by omega, fun s _ => filter_pre s st bs'⟩, fun _ e he => q (ini (m + e)).1 (by rw [mr]; exact gm (by intro z; cases z) e he)⟩
    have := few_blocks w hv hs hok fun q hq => Nat.le_of_eq (hev q hq)
    omega
  · have nn := tree_notNon ht
    have q : ∀ {m' : Int} {T T1 : SS}, d_Search_init [WD v k l st, .int m'] = some T → d_Search_going 202 T [bsD st] = some (T1, .tup [.non, node]) → d_searched [WD v k l st, .int m'] = some (.tup [.str "none", .tup [.str "tree", node]]) := fun e1 e2 => (search_step e1 e2).trans ((if_neg (by intro z; cases z)).trans (if_pos nn))
    have sz5 : (sz : Int) ≤ m - T'.left := hsz
    refine ⟨_, q (ini m).1 g1, .inr (.inl ⟨.tup [.str "tree", node], rfl, gd_tup fun x hx => ?_, ?_⟩), fun _ e he => q (ini (m + e)).1 (by
      rw [mr]
      refine gm (fun z => ?_) e he
      injection z with z
      injection z with _ z
      injection z with z _
      rw [z] at nn
      cases nn)⟩
    · simp only [List.mem_cons, List.not_mem_nil, or_false] at hx
      rcases hx with rfl | rfl
      · exact gd_str w_tree
      · exact gd_tree ht
    · exact paper_tree (by omega) (tree_taken_ok hv w.k2 w.kv hst (by omega) (by omega) ht)
  · refine ⟨.tup [.str "open"], (search_step (ini m).1 g1).trans ((if_neg (by intro z; cases z)).trans (if_neg (by intro z; cases z))), .inr (.inr rfl), fun z => absurd rfl z⟩
end EM
set_option maxHeartbeats 1000000
namespace EM
open PySem PySem.Spec PyProof.Rows L2
theorem between_eq (i a b : Int) : d_is_between [.int i, .int a, .int b] = some (.bl (decide (a ≤ i) && decide (i ≤ b))) := by
  unfold d_is_between
  refine (runD_at rfl).trans ?_
  unfold g_is_between
  let e : Env := [some (.fz (.int i)), some (.fz (.int a)), some (.fz (.int b))]
  have ch : dChain gLe gLe (dVar 1) (dVar 0) (dVar 2) e = some (.bl (decide (a ≤ i) && decide (i ≤ b))) := by
    show (match some (D.bl (decide (a ≤ i))) with
      | some (.bl true) => bnd (some (D.int b)) fun z => gLe (.int i) z
      | some (.bl false) => some (.bl false)
      | _ => none) = _
    by_cases c : a ≤ i
    · rw [decide_eq_true c]
      rfl
    · rw [decide_eq_false c]
      rfl
  show outD (sRet _ e) = _
  rw [sRet_at (d := .bl (decide (a ≤ i) && decide (i ≤ b))) (dAndV_true rfl (dAndV_true rfl ch))]
  rfl
theorem dAndV_false {f g : Env → Option D} {env : Env} (h : f env = some (.bl false)) : dAndV f g env = some (.bl false) := by
  unfold dAndV
  rw [h]
theorem dOrT_none {f g : Env → Option D} {env : Env} (h : f env = some .non) : dOrT f g env = g env := by
  unfold dOrT
  rw [h]
  rfl
theorem dOrT_tup {f g : Env → Option D} {env : Env} {ds : List D} (h : f env = some (.tup ds)) (hn : ds ≠ []) : dOrT f g env = some (.tup ds) := by
  unfold dOrT
  rw [h]
  cases ds with
  | nil => exact absurd rfl hn
  | cons d ds => rfl
theorem gd_st (st : List (List Int)) : gd (.tup (st.map tI)) = true := gd_tup fun d hd => by
  obtain ⟨m, _, rfl⟩ := List.mem_map.mp hd
  exact gd_tI m
theorem st_nil (st : List (List Int)) : eqD (.tup (st.map tI)) (.tup []) = some st.isEmpty := by
  rw [eqD_nil (gd_st st)]
  cases st <;> rfl
def aE (v k l : Nat) (st : List (List Int)) (m : Int) (p s y : Option EV) : Env := [some (.fz (WD v k l st)), some (.fz (.int m)), p, s, y]
section
variable {v k l r b : Nat} {st : List (List Int)}
/-- a paper out of numbers or pairs -/
theorem papers_ok (w : WOk v k l) (hst : st.length ≤ 1000) : ∃ d, (∀ m : Int, dOrT (cll (aCons (dVar 0) aNil) d_number_paper) (cll (aCons (dVar 0) aNil) d_over_paper) (aE v k l st m none none none) = some d) ∧ ((d = .non ∧ (∃ r b, shN v k l = some (r, b)) ∧ ∀ q ∈ pairsN v, cnt2 st q.1 q.2 ≤ l) ∨ paperOk v k l st d) := by
  obtain ⟨d, e1, c⟩ := number_paper_ok (bs := st) w
  have n1 : ∀ m : Int, cll (aCons (dVar 0) aNil) d_number_paper (aE v k l st m none none none) = some d := fun m => (cll1 (x := WD v k l st) rfl).trans e1
  rcases c with ⟨rfl, r, b, hs, _⟩ | ⟨ps, rfl, h1, h2, h3⟩
  · obtain ⟨d2, e2, c2⟩ := over_paper_ok (bs := st) w hst
    have n2 : ∀ m : Int, cll (aCons (dVar 0) aNil) d_over_paper (aE v k l st m none none none) = some d2 := fun m => (cll1 (x := WD v k l st) rfl).trans e2
    refine ⟨d2, fun m => (dOrT_none (n1 m)).trans (n2 m), c2.imp (fun c => ⟨c.1, ⟨r, b, hs⟩, fun q hq => ?_⟩) id⟩
    obtain ⟨g1, g2, g3⟩ := mem_pairsN.mp hq
    exact c.2 q.1 q.2 g1 g2 g3
  · exact ⟨_, fun m => dOrT_tup (n1 m) h1, .inr ⟨ps, rfl, h1, h2, h3⟩⟩
/-- a layout out of known ones or turned ones -/
theorem layouts_ok (w : WOk v k l) (hs : shN v k l = some (r, b)) (hb : b ≤ 200) (h60 : v ≤ 60) : ∃ d, (∀ (m : Int) (p s y : Option EV), dOrT (cll (aCons (dVar 0) aNil) d_named_design) (cll (aCons (dVar 0) aNil) d_turned_design) (aE v k l [] m p s y) = some d) ∧ (d = .non ∨ ∃ bs, d = .tup [.int v, .tup (bs.map tI)] ∧ Design v k l [] bs) := by
  obtain ⟨d, e1, c⟩ := named_ok w hs hb h60 (namedB_all v w.v200)
  have n1 : ∀ (m : Int) (p s y : Option EV), cll (aCons (dVar 0) aNil) d_named_design (aE v k l [] m p s y) = some d := fun m p s y => (cll1 (x := WD v k l []) rfl).trans e1
  rcases c with rfl | ⟨bs, rfl, D1⟩
  · obtain ⟨d2, e2, c2⟩ := turned_ok w h60 e1
    exact ⟨d2, fun m p s y => (dOrT_none (n1 m p s y)).trans ((cll1 (x := WD v k l []) rfl).trans e2), c2⟩
  · exact ⟨_, fun m p s y => dOrT_tup (n1 m p s y) (by simp), .inr ⟨bs, rfl, D1⟩⟩
theorem answer_ok (w : WOk v k l) (hst : ∀ m ∈ st, BOk v k m) (hs9 : st ≠ [] → v ≤ 9) (hlen : st.length ≤ 1000) (m : Int) (h0 : 0 ≤ m) (h5 : m ≤ 5000) :
    ∃ d, d_answer [WD v k l st, .int m] = some d ∧ Right v k l st d ∧ (d ≠ .tup [.str "open"] → ∀ m' : Int, m ≤ m' → m' ≤ 5000 → d_answer [WD v k l st, .int m'] = some d) := by
  obtain ⟨p, ep, cp⟩ := papers_ok (st := st) w hlen
  let tail3 : Env → Option Res := (sSeq (sIf (tAndD (tOfD (dVar 3)) (tOfD (bop gLe (bop gIx (dVar 0) (dC (.int 0))) (dC (.int 9))))) (sRet (cll (aCons (dVar 0) (aCons (dVar 1) aNil)) d_searched)) sNil) (sRet (dTup (aCons (dC (.str "open")) aNil))))
  let tail2 : Env → Option Res := (sSeq (sIf (tOfD (bop gNotN (dVar 4) (dC .non))) (sRet (dTup (aCons (dC (.str "design")) (aCons (dVar 4) aNil)))) sNil) tail3)
  let tail1 : Env → Option Res := (sSeq (sSet 3 (dAndV (bop gLe (bop gIx (cll (aCons (dVar 0) aNil) d_shares) (dC (.int 1))) (dC (.int 200))) (bop gLe (bop gIx (dVar 0) (dC (.int 0))) (dC (.int 60)))))
    (sSeq (sSet 4 (dC .non))
    (sSeq (sIf (tAndD (tOfD (dVar 3)) (tOfD (bop gEq (bop gIx (dVar 0) (dC (.int 3))) (dTup aNil)))) (sSet 4 (dOrT (cll (aCons (dVar 0) aNil) d_named_design) (cll (aCons (dVar 0) aNil) d_turned_design))) sNil)
    tail2)))
  have start : ∀ m' : Int, 0 ≤ m' → m' ≤ 5000 → d_answer [WD v k l st, .int m'] = outD (sSeq (sIf (tOfD (bop gNotN (dVar 2) (dC .non))) (sRet (dTup (aCons (dC (.str "none")) (aCons (dVar 2) aNil)))) sNil) tail1 (aE v k l st m' (some (.fz p)) none none)) := fun m' g0 g5 => by
    unfold d_answer
    rw [show runD 2 5 g_answer [WD v k l st, .int m'] = outD (g_answer (aE v k l st m' none none none)) from rfl]
    unfold g_answer
    have t1 : tNotD (tOfD (cll (aCons (dVar 1) (aCons (dC (.int 0)) (aCons (dC (.int 5000)) aNil))) d_is_between)) (aE v k l st m' none none none) = some false := by
      refine tNotD_of (b := true) (tOfD_of ((cll3 (x := .int m') (y := .int 0) (z := .int 5000) rfl rfl rfl).trans ?_))
      rw [between_eq, decide_eq_true g0, decide_eq_true g5]
      rfl
    rw [sSeq_of (e := aE v k l st m' none none none) (sIf_skip t1), sSeq_of (e := aE v k l st m' (some (.fz p)) none none) (sSet_of (ep m'))]
  rcases cp with ⟨rfl, ⟨r, b, hs⟩, hc⟩ | ⟨ps, rfl, hne, hg, hp⟩
  · -- no paper by numbers or pairs
    let N : Option EV := some (.fz .non)
    let S : Option EV := some (.fz (.bl (decide (b ≤ 200) && decide (v ≤ 60))))
    have small : ∀ m' : Int, dAndV (bop gLe (bop gIx (cll (aCons (dVar 0) aNil) d_shares) (dC (.int 1))) (dC (.int 200))) (bop gLe (bop gIx (dVar 0) (dC (.int 0))) (dC (.int 60))) (aE v k l st m' N none none) = some (.bl (decide (b ≤ 200) && decide (v ≤ 60))) := fun m' => by
      have a1 : cll (aCons (dVar 0) aNil) d_shares (aE v k l st m' N none none) = some (.tup [.int (r : Nat), .int (b : Nat)]) := (cll1 (x := WD v k l st) rfl).trans ((shares_eq v k l w (.tup (st.map tI))).trans (by rw [hs]; rfl))
      have a2 : bop gLe (bop gIx (cll (aCons (dVar 0) aNil) d_shares) (dC (.int 1))) (dC (.int 200)) (aE v k l st m' N none none) = some (.bl (decide ((b : Int) ≤ 200))) := (bop_of (x := .int (b : Nat)) (y := .int 200) ((bop_of a1 rfl).trans rfl) rfl).trans rfl
      have a3 : bop gLe (bop gIx (dVar 0) (dC (.int 0))) (dC (.int 60)) (aE v k l st m' N none none) = some (.bl (decide ((v : Int) ≤ 60))) := rfl
      by_cases c : b ≤ 200
      · rw [decide_eq_true (show (b : Int) ≤ 200 by omega)] at a2
        rw [dAndV_true a2 a3, decide_eq_true c, Bool.true_and]
        congr 2
        exact decide_eq_decide.mpr (by omega)
      · rw [decide_eq_false (show ¬ (b : Int) ≤ 200 by omega)] at a2
        rw [dAndV_false a2, decide_eq_false c, Bool.false_and]
    have start2 : ∀ m' : Int, 0 ≤ m' → m' ≤ 5000 → d_answer [WD v k l st, .int m'] = outD (sSeq (sIf (tAndD (tOfD (dVar 3)) (tOfD (bop gEq (bop gIx (dVar 0) (dC (.int 3))) (dTup aNil)))) (sSet 4 (dOrT (cll (aCons (dVar 0) aNil) d_named_design) (cll (aCons (dVar 0) aNil) d_turned_design))) sNil) tail2 (aE v k l st m' N S N)) := fun m' g0 g5 => by
      rw [start m' g0 g5, sSeq_of (e := aE v k l st m' N none none) (sIf_skip rfl)]
      show outD (sSeq _ _ _) = _
      rw [sSeq_of (e := aE v k l st m' N S none) (sSet_of (small m')), sSeq_of (e := aE v k l st m' N S N) rfl]
    have tS : ∀ (m' : Int) (y : Option EV), tOfD (dVar 3) (aE v k l st m' N S y) = some (decide (b ≤ 200) && decide (v ≤ 60)) := fun m' y => rfl
    have tE : ∀ (m' : Int) (y : Option EV), tOfD (bop gEq (bop gIx (dVar 0) (dC (.int 3))) (dTup aNil)) (aE v k l st m' N S y) = some st.isEmpty := fun m' y => tOfD_of ((bop_of (x := .tup (st.map tI)) (y := .tup []) rfl rfl).trans (gEq_eqD (st_nil st)))
    -- what is behind the layouts
    have open_ok : (∀ m' : Int, 0 ≤ m' → m' ≤ 5000 → d_answer [WD v k l st, .int m'] = outD (tail3 (aE v k l st m' N S N))) → ∃ d, d_answer [WD v k l st, .int m] = some d ∧ Right v k l st d ∧ (d ≠ .tup [.str "open"] → ∀ m' : Int, m ≤ m' → m' ≤ 5000 → d_answer [WD v k l st, .int m'] = some d) := fun go => by
      have t9 : ∀ m' : Int, tAndD (tOfD (dVar 3)) (tOfD (bop gLe (bop gIx (dVar 0) (dC (.int 0))) (dC (.int 9)))) (aE v k l st m' N S N) = some ((decide (b ≤ 200) && decide (v ≤ 60)) && decide ((v : Int) ≤ 9)) := fun m' => tAndD_of (tS m' N) fun _ => rfl
      by_cases c : b ≤ 200 ∧ v ≤ 9
      · obtain ⟨c1, c2⟩ := c
        have te : ∀ m' : Int, tAndD (tOfD (dVar 3)) (tOfD (bop gLe (bop gIx (dVar 0) (dC (.int 0))) (dC (.int 9)))) (aE v k l st m' N S N) = some true := fun m' => (t9 m').trans (by rw [decide_eq_true c1, decide_eq_true (show v ≤ 60 by omega), decide_eq_true (show (v : Int) ≤ 9 by omega)]; rfl)
        have se : ∀ (m' : Int) (d : D), 0 ≤ m' → m' ≤ 5000 → d_searched [WD v k l st, .int m'] = some d → d_answer [WD v k l st, .int m'] = some d := fun m' d g0 g5 hd => by
          rw [go m' g0 g5]
          show outD (sSeq _ _ _) = _
          rw [sSeq_rt (e := aE v k l st m' N S N) (d := d) (sIf_t (te m') (sRet_at ((cll2 (x := WD v k l st) (y := .int m') rfl rfl).trans hd)))]
          rfl
        obtain ⟨d, e1, R, mo⟩ := searched_ok w c2 hs c1 hst hc m h0 h5
        refine ⟨d, se m d h0 h5 e1, R, fun hne m' hm h5' => se m' d (by omega) h5' ?_⟩
        have z := mo hne (m' - m) (by omega)
        rw [show m + (m' - m) = m' by omega] at z
        exact z
      · refine ⟨.tup [.str "open"], ?_, .inr (.inr rfl), fun z => absurd rfl z⟩
        rw [go m h0 h5]
        show outD (sSeq _ _ _) = _
        rw [sSeq_of (e := aE v k l st m N S N) (sIf_skip ((t9 m).trans ?_))]
        · rfl
        · congr 1
          rw [Bool.and_eq_false_iff, Bool.and_eq_false_iff, decide_eq_false_iff_not, decide_eq_false_iff_not, decide_eq_false_iff_not]
          omega
    by_cases c : (decide (b ≤ 200) && decide (v ≤ 60)) = true ∧ st = []
    · obtain ⟨c1, c2⟩ := c
      subst c2
      rw [Bool.and_eq_true, decide_eq_true_eq, decide_eq_true_eq] at c1
      obtain ⟨d, ed, cd⟩ := layouts_ok w hs c1.1 c1.2
      have go : ∀ m' : Int, 0 ≤ m' → m' ≤ 5000 → d_answer [WD v k l [], .int m'] = outD (tail2 (aE v k l [] m' N S (some (.fz d)))) := fun m' g0 g5 => by
        rw [start2 m' g0 g5, sSeq_of (e := aE v k l [] m' N S (some (.fz d))) (sIf_t ((tAndD_of (tS m' N) fun _ => tE m' N).trans (by rw [decide_eq_true c1.1, decide_eq_true c1.2]; rfl)) (sSet_of (ed m' N S N)))]
      rcases cd with rfl | ⟨bs, rfl, D1⟩
      · refine open_ok fun m' g0 g5 => ?_
        rw [go m' g0 g5]
        show outD (sSeq _ _ _) = _
        rw [sSeq_of (e := aE v k l [] m' N S N) (sIf_skip rfl)]
      · have fin : ∀ m' : Int, 0 ≤ m' → m' ≤ 5000 → d_answer [WD v k l [], .int m'] = some (.tup [.str "design", .tup [.int v, .tup (bs.map tI)]]) := fun m' g0 g5 => by
          rw [go m' g0 g5]
          show outD (sSeq _ _ _) = _
          rw [sSeq_rt (e := aE v k l [] m' N S (some (.fz (.tup [.int v, .tup (bs.map tI)])))) (d := .tup [.str "design", .tup [.int v, .tup (bs.map tI)]]) (sIf_t rfl rfl)]
          rfl
        exact ⟨_, fin m h0 h5, .inl ⟨bs, rfl, D1⟩, fun _ m' hm g5 => fin m' (by omega) g5⟩
    · refine open_ok fun m' g0 g5 => ?_
      have tt := tAndD_of (tS m' N) fun _ => tE m' N
      rw [start2 m' g0 g5, sSeq_of (e := aE v k l st m' N S N) (sIf_skip (tt.trans ?_))]
      · show outD (sSeq _ _ _) = _
        rw [sSeq_of (e := aE v k l st m' N S N) (sIf_skip rfl)]
      · congr 1
        rw [Bool.and_eq_false_iff]
        by_cases c1 : (decide (b ≤ 200) && decide (v ≤ 60)) = true
        · refine .inr ?_
          cases st with
          | nil => exact absurd ⟨c1, rfl⟩ c
          | cons x y => rfl
        · exact .inl (by simpa using c1)
  · -- a paper
    have fin : ∀ m' : Int, 0 ≤ m' → m' ≤ 5000 → d_answer [WD v k l st, .int m'] = some (.tup [.str "none", .tup ps]) := fun m' g0 g5 => by
      rw [start m' g0 g5, sSeq_rt (e := aE v k l st m' (some (.fz (.tup ps))) none none) (d := .tup [.str "none", .tup ps]) (sIf_t rfl rfl)]
      rfl
    exact ⟨_, fin m h0 h5, .inr (.inl ⟨_, rfl, hg, hp⟩), fun _ m' hm g5 => fin m' (by omega) g5⟩
end
end EM
set_option maxHeartbeats 1000000
namespace EM
open PySem PySem.Spec PyProof.Rows L2
/-! what is told is right -/
theorem gd_design (v : Int) (bs : List (List Int)) : gd (.tup [.str "design", .tup [.int v, .tup (bs.map tI)]]) = true := gd_tup fun d hd => by
  simp only [List.mem_cons, List.not_mem_nil, or_false] at hd
  rcases hd with rfl | rfl
  · exact gd_str w_design
  · refine gd_tup fun d hd => ?_
    simp only [List.mem_cons, List.not_mem_nil, or_false] at hd
    rcases hd with rfl | rfl
    · exact gd_int _
    · exact gd_st bs
theorem gd_none {p : D} (h : gd p = true) : gd (.tup [.str "none", p]) = true := gd_tup fun d hd => by
  simp only [List.mem_cons, List.not_mem_nil, or_false] at hd
  rcases hd with rfl | rfl
  · exact gd_str w_none
  · exact h
theorem gd_open : gd (.tup [.str "open"]) = true := gd_tup fun d hd => by
  rw [List.mem_singleton] at hd
  rw [hd]
  exact gd_str w_open
section
variable {v k l : Nat} {st : List (List Int)} {d : D}
theorem Right.word (R : Right v k l st d) : ∃ (s : Str) (r : List D), d = .tup (.str s :: r) ∧ PyData.strOk s = true ∧ gd d = true ∧ (d = .tup [.str "open"] → ((s == "open") && r.isEmpty) = true) := by
  rcases R with ⟨bs, rfl, _⟩ | ⟨p, rfl, h, _⟩ | rfl
  · refine ⟨_, _, rfl, w_design, gd_design v bs, fun z => by cases z⟩
  · refine ⟨_, _, rfl, w_none, gd_none h, fun z => by cases z⟩
  · refine ⟨_, _, rfl, w_open, gd_open, fun _ => by decide +kernel⟩
theorem Right.opens (R : Right v k l st d) : ∃ c : Bool, gEq d (.tup [.str "open"]) = some (.bl c) ∧ (c = false → d ≠ .tup [.str "open"]) := by
  obtain ⟨s, r, rfl, h1, h2, h3⟩ := R.word
  refine ⟨_, gEq_eqD (eqD_word h2 w_open), fun hc z => ?_⟩
  rw [h3 z] at hc
  cases hc
theorem law_right_ok (R : Right v k l st d) : d_law_right [WD v k l st, d] = some (.bl true) := by
  unfold d_law_right
  rw [show runD 2 2 g_law_right [WD v k l st, d] = outD (g_law_right [some (.fz (WD v k l st)), some (.fz d)]) from rfl]
  unfold g_law_right
  obtain ⟨s, r, hd, h1, h2, h3⟩ := R.word
  have a1 : tNotD (tOfD (cll (aCons (dVar 1) aNil) (gIsi .tuple))) [some (.fz (WD v k l st)), some (.fz d)] = some false := by
    subst hd
    rfl
  have a2 : tOfD (bop gEq (dVar 1) (dTup aNil)) [some (.fz (WD v k l st)), some (.fz d)] = some false := by
    subst hd
    refine tOfD_of ((bop_of (x := .tup (.str s :: r)) (y := .tup []) rfl rfl).trans ?_)
    rw [gEq_eqD (eqD_nil h2)]
  rw [sSeq_of (e := [some (.fz (WD v k l st)), some (.fz d)]) (sIf_skip (tOrD_of a1 fun _ => a2))]
  have ix : bop gIx (dVar 1) (dC (.int 0)) [some (.fz (WD v k l st)), some (.fz d)] = some (.str s) := by
    subst hd
    exact (bop_of (x := .tup (.str s :: r)) (y := .int 0) rfl rfl).trans (gIx_head _ _)
  rcases R with ⟨bs, rfl, D1⟩ | ⟨p, rfl, _, hp⟩ | rfl
  · cases hd
    let e : Env := [some (.fz (WD v k l st)), some (.fz (.tup [.str "design", .tup [.int v, .tup (bs.map tI)]]))]
    have z : dAndV (bop gEq (cll (aCons (dVar 1) aNil) gLen) (dC (.int 2))) (cll (aCons (dVar 0) (aCons (bop gIx (dVar 1) (dC (.int 1))) aNil)) d_law_design) e = some (.bl true) :=
      dAndV_true rfl ((cll2 (x := WD v k l st) (y := .tup [.int v, .tup (bs.map tI)]) rfl rfl).trans (law_design_ok D1))
    rw [sSeq_rt (e := e) (d := .bl true) (sIf_t (tOfD_of (tW_of ix rfl w_design w_design (by decide +kernel))) (sRet_at z))]
    rfl
  · cases hd
    let e : Env := [some (.fz (WD v k l st)), some (.fz (.tup [.str "none", p]))]
    have pt : cll (aCons (dVar 0) (aCons (bop gIx (dVar 1) (dC (.int 1))) aNil)) d_paper_taken e = some (.bl true) := (cll2 (x := WD v k l st) (y := p) rfl rfl).trans hp
    have z : dAndV (bop gEq (cll (aCons (dVar 1) aNil) gLen) (dC (.int 2))) (bop gIsB (cll (aCons (dVar 0) (aCons (bop gIx (dVar 1) (dC (.int 1))) aNil)) d_paper_taken) (dC (.bl true))) e = some (.bl true) :=
      dAndV_true rfl ((bop_of pt rfl).trans rfl)
    rw [sSeq_of (e := e) (sIf_skip (tOfD_of (tW_of ix rfl w_none w_design (by decide +kernel))))]
    rw [sSeq_rt (e := e) (d := .bl true) (sIf_t (tOfD_of (tW_of ix rfl w_none w_none (by decide +kernel))) (sRet_at z))]
    rfl
  · cases hd
    let e : Env := [some (.fz (WD v k l st)), some (.fz (.tup [.str "open"]))]
    rw [sSeq_of (e := e) (sIf_skip (tOfD_of (tW_of ix rfl w_open w_design (by decide +kernel))))]
    rw [sSeq_of (e := e) (sIf_skip (tOfD_of (tW_of ix rfl w_open w_none (by decide +kernel))))]
    have z : bop gEq (dVar 1) (dTup (aCons (dC (.str "open")) aNil)) e = some (.bl true) := by
      refine (bop_of (x := .tup [.str "open"]) (y := .tup [.str "open"]) rfl rfl).trans ?_
      rw [gEq_eqD (eqD_word gd_open w_open)]
      have q : (("open" : Str) == "open" && ([] : List D).isEmpty) = true := by decide +kernel
      rw [q]
    rw [sRet_at z]
    rfl
end
end EM
set_option maxHeartbeats 1000000
namespace EM
open PySem PySem.Spec PyProof.Rows L2
/-! the law's own numbers -/
theorem gMul_l {i j : Int} (h : i.natAbs < 2 ^ 64) : gMul (.int i) (.int j) = some (.int (i * j)) := by
  unfold gMul orD iop
  have : cMul i j = true := by
    unfold cMul
    rw [Bool.or_eq_true]
    exact .inl (decide_eq_true h)
  simp only [this, if_true]
theorem gMul_r {i j : Int} (h : j.natAbs < 2 ^ 64) : gMul (.int i) (.int j) = some (.int (i * j)) := by
  unfold gMul orD iop
  have : cMul i j = true := by
    unfold cMul
    rw [Bool.or_eq_true]
    exact .inr (decide_eq_true h)
  simp only [this, if_true]
theorem fmod_lt (x : Int) {n : Nat} (h : 0 < n) : ∃ a : Nat, a < n ∧ x.fmod (n : Int) = a := by
  have h1 := Int.fmod_nonneg_of_pos x (show (0 : Int) < (n : Int) by omega)
  have h2 := Int.fmod_lt_of_pos x (show (0 : Int) < (n : Int) by omega)
  exact ⟨(x.fmod n).toNat, by omega, by omega⟩
theorem gMod_lt (x : Int) {n : Nat} (h : 0 < n) : ∃ a : Nat, a < n ∧ gMod (.int x) (.int (n : Int)) = some (.int (a : Int)) := by
  obtain ⟨a, h1, h2⟩ := fmod_lt x h
  exact ⟨a, h1, by rw [gMod_of (by omega), h2]⟩
theorem cell_in (ns : List Int) (i : Nat) (h : i < ns.length) : ∃ c, gIx (.scr ns) (.int (i : Int)) = some (.int c) := by
  refine ⟨ns[i], ?_⟩
  show atI (ns.map D.int) (i : Int) = _
  refine L2.atI_nat ?_
  rw [List.getElem?_map, List.getElem?_eq_getElem h]
  rfl
theorem sl_scr (ns : List Int) (e : Env) : ∃ ys : List Int, dSl (dVar 0) oNone (oSome (dC (.int 3))) (some (.fz (.scr ns)) :: e) = some (.lst (ys.map D.int)) := by
  have z : dSl (dVar 0) oNone (oSome (dC (.int 3))) (some (.fz (.scr ns)) :: e) = some (.lst (cutD (ns.map D.int) none (some 3))) := rfl
  rw [z]
  unfold cutD
  rw [← List.map_drop, ← List.map_take]
  exact ⟨_, rfl⟩
theorem law_cell_ok (ns : List Int) (i : Nat) (hi : i < 1000) : ∃ c, d_law_cell [.scr ns, .int (i : Int)] = some (.int c) := by
  unfold d_law_cell
  let E : Option D → Option D → Env := fun x y => [some (.fz (.scr ns)), some (.fz (.int (i : Int))), oz x, oz y]
  rw [show runD 2 4 g_law_cell [.scr ns, .int (i : Int)] = outD (g_law_cell (E none none)) from rfl]
  unfold g_law_cell
  have t : tOfD (bop gLt (dVar 1) (cll (aCons (dVar 0) aNil) gLen)) (E none none) = some (decide ((i : Int) < ((ns.map D.int).length : Nat))) := rfl
  rw [List.length_map] at t
  by_cases c : i < ns.length
  · obtain ⟨x, hx⟩ := cell_in ns i c
    refine ⟨x, ?_⟩
    rw [sSeq_rt (e := E none none) (d := .int x) (sIf_t (t.trans (by rw [decide_eq_true (show (i : Int) < (ns.length : Nat) by omega)])) (sRet_at ((bop_of (x := .scr ns) (y := .int (i : Int)) rfl rfl).trans hx)))]
    rfl
  · rw [sSeq_of (e := E none none) (sIf_skip (t.trans (by rw [decide_eq_false (show ¬ (i : Int) < (ns.length : Nat) by omega)])))]
    have m1 : bop gAdd (bop gAdd (bop gMul (dVar 1) (dVar 1)) (bop gMul (dC (.int 7)) (dVar 1))) (dC (.int 11)) (E none none) = some (.int ((i : Int) * i + 7 * i + 11)) := (bop_of (y := .int 11) ((bop_of ((bop_of (x := .int (i : Int)) (y := .int (i : Int)) rfl rfl).trans (gMul_r (by omega))) ((bop_of (x := .int 7) (y := .int (i : Int)) rfl rfl).trans (gMul_r (by omega)))).trans rfl) rfl).trans rfl
    have m2 : bop gMul (dC (.int 48271)) (bop gAdd (bop gAdd (bop gMul (dVar 1) (dVar 1)) (bop gMul (dC (.int 7)) (dVar 1))) (dC (.int 11))) (E none none) = some (.int (48271 * ((i : Int) * i + 7 * i + 11))) := (bop_of (x := .int 48271) rfl m1).trans (gMul_l (by decide))
    obtain ⟨s0, _, hs0⟩ := gMod_lt (48271 * ((i : Int) * i + 7 * i + 11)) (n := 2147483647) (by decide)
    rw [sSeq_of (e := E (some (.int (s0 : Int))) none) (sSet_of ((bop_of m2 rfl).trans hs0))]
    obtain ⟨ys, hys⟩ := sl_scr ns [some (.fz (.int (i : Int))), some (.fz (.int (s0 : Int))), none]
    have lp : ∀ (ys : List Int) (s : Int) (y : Option D), ∃ s' y', forD (setN 3) (sSet 2 (bop gMod (bop gAdd (bop gMul (dVar 2) (dC (.int 69621))) (dVar 3)) (dC (.int 2147483647)))) (ys.map D.int) (E (some (.int s)) y) = some (.nx (E (some (.int s')) y')) := by
      intro ys
      induction ys with
      | nil => exact fun s y => ⟨s, y, rfl⟩
      | cons z ys ih =>
        intro s y
        obtain ⟨s1, _, h1⟩ := gMod_lt (s * 69621 + z) (n := 2147483647) (by decide)
        obtain ⟨s', y', h2⟩ := ih (s1 : Int) (some (.int z))
        have a1 : bop gMul (dVar 2) (dC (.int 69621)) (E (some (.int s)) (some (.int z))) = some (.int (s * 69621)) := (bop_of (x := .int s) (y := .int 69621) rfl rfl).trans (gMul_r (by decide))
        have a2 : bop gAdd (bop gMul (dVar 2) (dC (.int 69621))) (dVar 3) (E (some (.int s)) (some (.int z))) = some (.int (s * 69621 + z)) := (bop_of (y := .int z) a1 rfl).trans rfl
        refine ⟨s', y', ?_⟩
        rw [List.map_cons]
        exact (forD_cons (e1 := E (some (.int s)) (some (.int z))) rfl (sSet_of ((bop_of a2 rfl).trans h1))).trans h2
    obtain ⟨s', y', g⟩ := lp ys (s0 : Int) none
    have it : iAny (dSl (dVar 0) oNone (oSome (dC (.int 3)))) (E (some (.int (s0 : Int))) none) = some (ys.map D.int) := by
      unfold iAny
      show bnd (dSl (dVar 0) oNone (oSome (dC (.int 3))) (some (.fz (.scr ns)) :: [some (.fz (.int (i : Int))), some (.fz (.int (s0 : Int))), none])) _ = _
      rw [hys]
      rfl
    rw [sSeq_of ((sFor_of it).trans g)]
    exact ⟨s', rfl⟩
theorem pow18 : gPow (.int 10) (.int 18) = some (.int 1000000000000000000) := by kernel_rfl
theorem pick2 (a b : Int) (c : Bool) : gIx (.lst [.int a, .int b]) (.int (if c = true then 1 else 0)) = some (.int (if c = true then b else a)) := by
  cases c <;> rfl
theorem law_numbers_ok (c : Int) (n : Nat) (hn : n ≤ 100) : ∃ xs : List Int, xs.length = n ∧ d_law_numbers [.int c, .int (n : Int)] = some (.lst (xs.map D.int)) := by
  unfold d_law_numbers
  let E : List Int → Option D → Option D → Option D → Env := fun acc s d y => [some (.fz (.int c)), some (.fz (.int (n : Int))), some (.own (acc.map D.int)), oz s, oz d, oz y]
  rw [show runD 2 6 g_law_numbers [.int c, .int (n : Int)] = outD (g_law_numbers [some (.fz (.int c)), some (.fz (.int (n : Int))), none, none, none, none]) from rfl]
  unfold g_law_numbers
  rw [sSeq_of (e := E [] none none none) rfl]
  obtain ⟨c1, hc1, g1⟩ := gMod_lt c (n := 1999999973) (by decide)
  have a1 : bop gMul (bop gAdd (bop gMod (dVar 0) (dC (.int 1999999973))) (dC (.int 31))) (dC (.int 765432101)) (E [] none none none) = some (.int (((c1 : Int) + 31) * 765432101)) := (bop_of ((bop_of (y := .int 31) ((bop_of (x := .int c) rfl rfl).trans g1) rfl).trans rfl) rfl).trans (gMul_r (by decide))
  obtain ⟨s0, hs0, g2⟩ := gMod_lt (((c1 : Int) + 31) * 765432101) (n := 1999999973) (by decide)
  rw [sSeq_of (e := E [] (some (.int (s0 : Int))) none none) (sSet_of ((bop_of a1 rfl).trans g2))]
  rw [sSeq_of (e := E [] (some (.int (s0 : Int))) (some (.int 0)) none) rfl]
  have big18 : ∃ dd : Int, sIf (tOrD (tOfD (bop gLt (dVar 0) (dC (.int 0)))) (tOfD (bop gGe (dVar 0) (bop gPow (dC (.int 10)) (dC (.int 18)))))) (sSet 4 (cll (aCons (dVar 0) aNil) gAbs)) sNil (E [] (some (.int (s0 : Int))) (some (.int 0)) none) = some (.nx (E [] (some (.int (s0 : Int))) (some (.int dd)) none)) := by
    have t1 : tOfD (bop gLt (dVar 0) (dC (.int 0))) (E [] (some (.int (s0 : Int))) (some (.int 0)) none) = some (decide (c < 0)) := rfl
    have t2 : tOfD (bop gGe (dVar 0) (bop gPow (dC (.int 10)) (dC (.int 18)))) (E [] (some (.int (s0 : Int))) (some (.int 0)) none) = some (decide ((1000000000000000000 : Int) ≤ c)) := tOfD_of ((bop_of (x := .int c) rfl ((bop_of (x := .int 10) (y := .int 18) rfl rfl).trans pow18)).trans rfl)
    have tt := tOrD_of t1 fun _ => t2
    by_cases h : (decide (c < 0) || decide ((1000000000000000000 : Int) ≤ c)) = true
    · exact ⟨_, sIf_t (tt.trans (by rw [h])) (sSet_of (d := .int (if c < 0 then -c else c)) rfl)⟩
    · exact ⟨0, sIf_skip (tt.trans (by rw [Bool.not_eq_true] at h; rw [h]))⟩
  obtain ⟨dd, hdd⟩ := big18
  rw [sSeq_of hdd]
  let body : Env → Option Res := (sSeq (sSet 3 (bop gMod (bop gAdd (bop gAdd (bop gMul (dVar 3) (bop gAdd (bop gMod (dVar 3) (dC (.int 65521))) (dC (.int 40487)))) (bop gMul (dC (.int 7)) (dVar 5))) (dC (.int 5))) (dC (.int 1999999973))))
    (sSeq (sApp 2 (bop gIx (fun env => bnd ((nLst (aCons (dVar 3) (aCons (bop gMod (dVar 4) (dC (.int 1000000))) aNil))) env) fun ds => some (.lst ds)) (cll (aCons (bop gGt (dVar 4) (dC (.int 0))) aNil) gInt)))
    (sSet 4 (bop gDiv (dVar 4) (dC (.int 1000000))))))
  have lp : ∀ (is : List Nat) (acc : List Int) (s d : Int) (y : Option D), acc.length + is.length ≤ 1000 → ∃ ys : List Int, ys.length = is.length ∧ ∃ s' d' y', forD (setN 5) body (is.map fun (i : Nat) => D.int (i : Int)) (E acc (some (.int s)) (some (.int d)) y) = some (.nx (E (acc ++ ys) (some (.int s')) (some (.int d')) y')) := by
    intro is
    induction is with
    | nil => exact fun acc s d y _ => ⟨[], rfl, s, d, y, by rw [List.append_nil]; rfl⟩
    | cons i is ih =>
      intro acc s d y hl
      rw [List.length_cons] at hl
      let e1 := E acc (some (.int s)) (some (.int d)) (some (.int (i : Int)))
      obtain ⟨s1, hs1, g1⟩ := gMod_lt s (n := 65521) (by decide)
      have b1 : bop gAdd (bop gMod (dVar 3) (dC (.int 65521))) (dC (.int 40487)) e1 = some (.int ((s1 : Int) + 40487)) := (bop_of (y := .int 40487) ((bop_of (x := .int s) rfl rfl).trans g1) rfl).trans rfl
      have b2 : bop gMul (dVar 3) (bop gAdd (bop gMod (dVar 3) (dC (.int 65521))) (dC (.int 40487))) e1 = some (.int (s * ((s1 : Int) + 40487))) := (bop_of (x := .int s) rfl b1).trans (gMul_r (by omega))
      have b3 : bop gMul (dC (.int 7)) (dVar 5) e1 = some (.int (7 * (i : Int))) := (bop_of (x := .int 7) (y := .int (i : Int)) rfl rfl).trans (gMul_l (by decide))
      have b4 : bop gAdd (bop gAdd (bop gMul (dVar 3) (bop gAdd (bop gMod (dVar 3) (dC (.int 65521))) (dC (.int 40487)))) (bop gMul (dC (.int 7)) (dVar 5))) (dC (.int 5)) e1 = some (.int (s * ((s1 : Int) + 40487) + 7 * (i : Int) + 5)) := (bop_of (y := .int 5) ((bop_of b2 b3).trans rfl) rfl).trans rfl
      obtain ⟨s2, hs2, g2⟩ := gMod_lt (s * ((s1 : Int) + 40487) + 7 * (i : Int) + 5) (n := 1999999973) (by decide)
      let e2 := E acc (some (.int (s2 : Int))) (some (.int d)) (some (.int (i : Int)))
      have c1 : sSet 3 (bop gMod (bop gAdd (bop gAdd (bop gMul (dVar 3) (bop gAdd (bop gMod (dVar 3) (dC (.int 65521))) (dC (.int 40487)))) (bop gMul (dC (.int 7)) (dVar 5))) (dC (.int 5))) (dC (.int 1999999973))) e1 = some (.nx e2) := sSet_of ((bop_of b4 rfl).trans g2)
      obtain ⟨d1, hd1, g3⟩ := gMod_lt d (n := 1000000) (by decide)
      have b5 : (fun env => bnd ((nLst (aCons (dVar 3) (aCons (bop gMod (dVar 4) (dC (.int 1000000))) aNil))) env) fun ds => some (D.lst ds)) e2 = some (.lst [.int (s2 : Int), .int (d1 : Int)]) := by
        refine lstF ?_
        unfold nLst
        rw [aCons2 (x := .int (s2 : Int)) (y := .int (d1 : Int)) rfl ((bop_of (x := .int d) rfl rfl).trans g3)]
        rfl
      have b6 : cll (aCons (bop gGt (dVar 4) (dC (.int 0))) aNil) gInt e2 = some (.int (if decide (0 < d) = true then 1 else 0)) := (cll1 (x := .bl (decide (0 < d))) rfl).trans rfl
      let x : Int := if decide (0 < d) = true then (d1 : Int) else (s2 : Int)
      have c2 : sApp 2 (bop gIx (fun env => bnd ((nLst (aCons (dVar 3) (aCons (bop gMod (dVar 4) (dC (.int 1000000))) aNil))) env) fun ds => some (.lst ds)) (cll (aCons (bop gGt (dVar 4) (dC (.int 0))) aNil) gInt)) e2 = some (.nx (E (acc ++ [x]) (some (.int (s2 : Int))) (some (.int d)) (some (.int (i : Int))))) := by
        rw [sApp_of (i := 2) (ds := acc.map D.int) (d := .int x) ((bop_of b5 b6).trans (pick2 _ _ _)) rfl (by rw [List.length_map]; omega)]
        show some (Res.nx [some (.fz (.int c)), some (.fz (.int (n : Int))), some (.own (acc.map D.int ++ [.int x])), oz (some (.int (s2 : Int))), oz (some (.int d)), oz (some (.int (i : Int)))]) = some (Res.nx [some (.fz (.int c)), some (.fz (.int (n : Int))), some (.own ((acc ++ [x]).map D.int)), oz (some (.int (s2 : Int))), oz (some (.int d)), oz (some (.int (i : Int)))])
        rw [List.map_append]
        rfl
      have c3 : sSet 4 (bop gDiv (dVar 4) (dC (.int 1000000))) (E (acc ++ [x]) (some (.int (s2 : Int))) (some (.int d)) (some (.int (i : Int)))) = some (.nx (E (acc ++ [x]) (some (.int (s2 : Int))) (some (.int (d.fdiv 1000000))) (some (.int (i : Int))))) := by
        refine sSet_of (d := .int (d.fdiv 1000000)) ((bop_of (x := .int d) (y := .int 1000000) rfl rfl).trans ?_)
        unfold gDiv iop
        rfl
      have bd : body e1 = some (.nx (E (acc ++ [x]) (some (.int (s2 : Int))) (some (.int (d.fdiv 1000000))) (some (.int (i : Int))))) := by
        show sSeq _ _ e1 = _
        rw [sSeq_of c1, sSeq_of c2, c3]
      obtain ⟨ys, hy, s', d', y', g⟩ := ih (acc ++ [x]) (s2 : Int) (d.fdiv 1000000) (some (.int (i : Int))) (by rw [List.length_append]; simp; omega)
      refine ⟨x :: ys, by rw [List.length_cons, List.length_cons, hy], s', d', y', ?_⟩
      rw [List.map_cons]
      refine (forD_cons (e1 := e1) rfl bd).trans (g.trans ?_)
      rw [List.append_assoc]
      rfl
  obtain ⟨ys, hy, s', d', y', g⟩ := lp (List.range n) [] (s0 : Int) dd none (by rw [List.length_range]; simp; omega)
  rw [List.length_range] at hy
  have it : iRg1 (aCons (dVar 1) aNil) (E [] (some (.int (s0 : Int))) (some (.int dd)) none) = some ((List.range n).map fun (i : Nat) => D.int (i : Int)) := by
    have z := iRg1_of (fa := aCons (dVar 1) aNil) (env := E [] (some (.int (s0 : Int))) (some (.int dd)) none) (j := (n : Int)) rfl (by omega) (by omega)
    rw [Int.toNat_natCast] at z
    exact z
  rw [List.nil_append] at g
  refine ⟨ys, hy, ?_⟩
  show outD (sSeq (sFor (iRg1 (aCons (dVar 1) aNil)) (setN 5) body) _ _) = _
  rw [sSeq_of ((sFor_of it).trans g)]
  rfl
end EM
set_option maxHeartbeats 1000000
namespace EM
open PySem PySem.Spec PyProof.Rows L2
theorem map_erase (f : Int → D) : ∀ (xs : List Int) (i : Nat), (xs.map f).eraseIdx i = (xs.eraseIdx i).map f
  | [], _ => rfl
  | x :: xs, 0 => rfl
  | x :: xs, i + 1 => by
    show f x :: (xs.map f).eraseIdx i = f x :: (xs.eraseIdx i).map f
    rw [map_erase f xs i]
theorem aCons_of {fa : Env → Option D} {fr : Env → Option (List D)} {e : Env} {x : D} {xs : List D} (h : fa e = some x) (h2 : fr e = some xs) : aCons fa fr e = some (x :: xs) := by
  show bnd (fa e) _ = _
  rw [h]
  show bnd (fr e) _ = _
  rw [h2]
  rfl
theorem dTup_of {f : Env → Option (List D)} {e : Env} {ds : List D} (h : f e = some ds) (hl : ds.length ≤ 1000) : dTup f e = some (.tup ds) := by
  unfold dTup
  rw [h]
  show (if ds.length ≤ 1000 then _ else _) = _
  rw [if_pos hl]
def lsD (f : Env → Option (List D)) : Env → Option D := fun env => bnd ((nLst f) env) fun ds => some (.lst ds)
theorem nLst_of {f : Env → Option (List D)} {e : Env} {ds : List D} (h : f e = some ds) (hl : ds.length ≤ 1000) : lsD f e = some (.lst ds) := by
  unfold lsD
  refine lstF ?_
  unfold nLst
  rw [h]
  show (if ds.length ≤ 1000 then _ else _) = _
  rw [if_pos hl]
section
variable {v k : Nat}
def zE (v k : Nat) (y : Int) (left : List Int) : Env := [some (.fz (.int y)), some (.fz (.int (v : Int))), some (.fz (.int (k : Int))), some (.own (left.map D.int))]
def zTest : Env → Option Bool := tOfD (bop gGt (dLenOwn 3) (dVar 2))
def zBody : Env → Option Res := sSeq (sPopAt 3 (bop gMod (dVar 0) (dLenOwn 3))) (sSet 0 (bop gAdd (bop gDiv (dVar 0) (dC (.int 5))) (dC (.int 7))))
theorem zTest_at (y : Int) (left : List Int) : zTest (zE v k y left) = some (decide ((k : Int) < (left.length : Nat))) := by
  have z : zTest (zE v k y left) = some (decide ((k : Int) < ((left.map D.int).length : Nat))) := rfl
  rw [z, List.length_map]
theorem zBody_at (y : Int) (left : List Int) (h : 0 < left.length) (h2 : left.length ≤ 100) : ∃ (y' : Int) (a : Nat), a < left.length ∧ zBody (zE v k y left) = some (.nx (zE v k y' (left.eraseIdx a))) := by
  obtain ⟨a, ha, g⟩ := gMod_lt y h
  have len : dLenOwn 3 (zE v k y left) = some (.int (left.length : Nat)) := by
    have z : dLenOwn 3 (zE v k y left) = some (.int ((left.map D.int).length : Nat)) := rfl
    rw [z, List.length_map]
  have md : bop gMod (dVar 0) (dLenOwn 3) (zE v k y left) = some (.int (a : Int)) := (bop_of (x := .int y) rfl len).trans g
  have p : sPopAt 3 (bop gMod (dVar 0) (dLenOwn 3)) (zE v k y left) = some (.nx (zE v k y (left.eraseIdx a))) := by
    unfold sPopAt
    rw [md]
    show (if 0 ≤ (a : Int) ∧ (a : Int) < ((left.map D.int).length : Nat) ∧ (left.map D.int).length ≤ 100000 then some (Res.nx ((zE v k y left).set 3 (some (.own ((left.map D.int).eraseIdx (a : Int).toNat))))) else none) = _
    rw [List.length_map, if_pos ⟨by omega, by omega, by omega⟩, Int.toNat_natCast, map_erase]
    rfl
  refine ⟨y.fdiv 5 + 7, a, ha, ?_⟩
  unfold zBody
  rw [sSeq_of p]
  refine sSet_of (d := .int (y.fdiv 5 + 7)) ?_
  refine (bop_of (x := .int (y.fdiv 5)) (y := .int 7) ?_ rfl).trans rfl
  refine (bop_of (x := .int y) (y := .int 5) rfl rfl).trans ?_
  unfold gDiv iop
  rfl
theorem z_loop : ∀ (n fuel : Nat) (left : List Int) (y : Int), n < fuel → left.length = k + n → left.Pairwise (· < ·) → (∀ x ∈ left, 0 ≤ x ∧ x < (v : Int)) → left.length ≤ 100 → ∃ y' m, whileD zTest zBody fuel (zE v k y left) = some (.nx (zE v k y' m)) ∧ BOk v k m
  | n, 0, _, _, h, _, _, _, _ => by omega
  | 0, f + 1, left, y, _, hl, hp, hx, _ => by
    refine ⟨y, left, ?_, hl, incB_of hp, hx⟩
    show bnd (zTest (zE v k y left)) _ = _
    rw [zTest_at, decide_eq_false (by omega)]
    rfl
  | n + 1, f + 1, left, y, hn, hl, hp, hx, h100 => by
    obtain ⟨y1, a, ha, hb⟩ := zBody_at (v := v) (k := k) y left (by omega) h100
    have hlen : (left.eraseIdx a).length = left.length - 1 := List.length_eraseIdx_of_lt ha
    have hs := List.eraseIdx_sublist left a
    obtain ⟨y', m, g, ok⟩ := z_loop n f (left.eraseIdx a) y1 (by omega) (by omega) (hp.sublist hs) (fun x h => hx x (hs.subset h)) (by omega)
    refine ⟨y', m, ?_, ok⟩
    show bnd (zTest (zE v k y left)) _ = _
    rw [zTest_at, decide_eq_true (by omega)]
    show bnd (zBody (zE v k y left)) _ = _
    rw [hb]
    exact g
theorem of_size_ok (y : Int) (hk : k ≤ v) (hv : v ≤ 100) : ∃ m, d_law_of_size [.int y, .int (v : Int), .int (k : Int)] = some (tI m) ∧ BOk v k m := by
  unfold d_law_of_size
  rw [show runD 3 4 g_law_of_size [.int y, .int (v : Int), .int (k : Int)] = outD (g_law_of_size [some (.fz (.int y)), some (.fz (.int (v : Int))), some (.fz (.int (k : Int))), none]) from rfl]
  unfold g_law_of_size
  have s1 : sSetN 3 (nListRg (dVar 1)) [some (.fz (.int y)), some (.fz (.int (v : Int))), some (.fz (.int (k : Int))), none] = some (.nx (zE v k y (rangeI v))) := by
    show bnd (if (0 : Int) ≤ (v : Int) ∧ (v : Int) ≤ 100000 then some (rng 0 (v : Int).toNat) else none) _ = _
    rw [if_pos ⟨by omega, by omega⟩, Int.toNat_natCast, rng_map]
    have z : ((List.range v).map fun (i : Nat) => D.int (0 + (i : Int))) = (rangeI v).map D.int := by
      unfold rangeI
      rw [List.map_map]
      apply List.map_congr_left
      intro i _
      show D.int (0 + (i : Int)) = D.int (i : Int)
      rw [Int.zero_add]
    rw [z]
    rfl
  obtain ⟨y', m, g, ok⟩ := z_loop (v := v) (k := k) (v - k) 100000 (rangeI v) y (by omega) (by rw [len_rangeI]; omega) (rangeI_inc v) (fun x hx => mem_rangeI.mp hx) (by rw [len_rangeI]; omega)
  refine ⟨m, ?_, ok⟩
  have wh : sWhile big (tOfD (bop gGt (dLenOwn 3) (dVar 2))) (sSeq (sPopAt 3 (bop gMod (dVar 0) (dLenOwn 3))) (sSet 0 (bop gAdd (bop gDiv (dVar 0) (dC (.int 5))) (dC (.int 7))))) (zE v k y (rangeI v)) = some (.nx (zE v k y' m)) := g
  rw [sSeq_of s1, sSeq_of wh]
  rfl
end
/-! the wish of few points -/
def nE (xs : List Int) (v k : Option D) (acc : Option EV) (y : Option D) : Env := [some (.fz (.lst (xs.map D.int))), oz v, oz k, acc, oz y]
theorem near_ok : ∀ (xs : List Int), xs.length = 9 → ∃ (v k l : Nat) (st : List (List Int)), d_law_near_wish [.lst (xs.map D.int)] = some (.tup [.int (v : Int), .int (k : Int), .int (l : Int), .tup (st.map tI)]) ∧ 3 ≤ v ∧ v ≤ 7 ∧ 2 ≤ k ∧ k ≤ v ∧ 1 ≤ l ∧ l ≤ 3 ∧ st.length ≤ 9 ∧ ∀ m ∈ st, BOk v k m
  | [x0, x1, x2, x3, x4, x5, x6, x7, x8], _ => by
    let xs := [x0, x1, x2, x3, x4, x5, x6, x7, x8]
    unfold d_law_near_wish
    rw [show runD 1 5 g_law_near_wish [.lst ([x0, x1, x2, x3, x4, x5, x6, x7, x8].map D.int)] = outD (g_law_near_wish (nE xs none none none none)) from rfl]
    unfold g_law_near_wish
    obtain ⟨a, ha, g1⟩ := gMod_lt x0 (n := 5) (by decide)
    obtain ⟨b, hb, g2⟩ := gMod_lt x1 (n := 3) (by decide)
    obtain ⟨c, hc, g3⟩ := gMod_lt x2 (n := 5) (by decide)
    obtain ⟨l0, hl0, g4⟩ := gMod_lt x3 (n := 3) (by decide)
    have s1 : sSet 1 (bop gAdd (dC (.int 3)) (bop gMod (bop gIx (dVar 0) (dC (.int 0))) (dC (.int 5)))) (nE xs none none none none) = some (.nx (nE xs (some (.int ((3 + a : Nat) : Int))) none none none)) := by
      refine sSet_of (d := .int ((3 + a : Nat) : Int)) ((bop_of (x := .int 3) (y := .int (a : Int)) rfl ((bop_of (x := .int x0) rfl rfl).trans g1)).trans ?_)
      rw [Int.natCast_add]
      rfl
    have s2 : sSet 2 (bop gAdd (dC (.int 2)) (bop gMod (bop gIx (dVar 0) (dC (.int 1))) (dC (.int 3)))) (nE xs (some (.int ((3 + a : Nat) : Int))) none none none) = some (.nx (nE xs (some (.int ((3 + a : Nat) : Int))) (some (.int ((2 + b : Nat) : Int))) none none)) := by
      refine sSet_of (d := .int ((2 + b : Nat) : Int)) ((bop_of (x := .int 2) (y := .int (b : Int)) rfl ((bop_of (x := .int x1) rfl rfl).trans g2)).trans ?_)
      rw [Int.natCast_add]
      rfl
    obtain ⟨k, hk2, hkv, s3⟩ : ∃ k : Nat, 2 ≤ k ∧ k ≤ 3 + a ∧ sSet 2 (cll (aCons (dVar 2) (aCons (dVar 1) aNil)) gMin2) (nE xs (some (.int ((3 + a : Nat) : Int))) (some (.int ((2 + b : Nat) : Int))) none none) = some (.nx (nE xs (some (.int ((3 + a : Nat) : Int))) (some (.int (k : Int))) none none)) := by
      have z : gMin2 [.int ((2 + b : Nat) : Int), .int ((3 + a : Nat) : Int)] = some (.int (if ((3 + a : Nat) : Int) < ((2 + b : Nat) : Int) then ((3 + a : Nat) : Int) else ((2 + b : Nat) : Int))) := rfl
      by_cases h : ((3 + a : Nat) : Int) < ((2 + b : Nat) : Int)
      · rw [if_pos h] at z
        exact ⟨3 + a, by omega, Nat.le_refl _, sSet_of ((cll2 rfl rfl).trans z)⟩
      · rw [if_neg h] at z
        exact ⟨2 + b, by omega, by omega, sSet_of ((cll2 rfl rfl).trans z)⟩
    let v := 3 + a
    let V : Option D := some (.int (v : Int))
    let Kk : Option D := some (.int (k : Int))
    have lp : ∀ (ys : List Int) (acc : List (List Int)) (y : Option D), (∀ m ∈ acc, BOk v k m) → acc.length + ys.length ≤ 1000 → ∃ (acc' : List (List Int)) (y' : Option D), forD (setN 4) (sApp 3 (cll (aCons (dVar 4) (aCons (dVar 1) (aCons (dVar 2) aNil))) d_law_of_size)) (ys.map D.int) (nE xs V Kk (some (.own (acc.map tI))) y) = some (.nx (nE xs V Kk (some (.own (acc'.map tI))) y')) ∧ (∀ m ∈ acc', BOk v k m) ∧ acc'.length = acc.length + ys.length := by
      intro ys
      induction ys with
      | nil => exact fun acc y h _ => ⟨acc, y, rfl, h, rfl⟩
      | cons z ys ih =>
        intro acc y h hl
        rw [List.length_cons] at hl
        obtain ⟨m, hm, ok⟩ := of_size_ok (v := v) (k := k) z hkv (by omega)
        have st1 : sApp 3 (cll (aCons (dVar 4) (aCons (dVar 1) (aCons (dVar 2) aNil))) d_law_of_size) (nE xs V Kk (some (.own (acc.map tI))) (some (.int z))) = some (.nx (nE xs V Kk (some (.own ((acc ++ [m]).map tI))) (some (.int z)))) := by
          rw [sApp_of (i := 3) (ds := acc.map tI) (d := tI m) ((cll3 (x := .int z) (y := .int (v : Int)) (z := .int (k : Int)) rfl rfl rfl).trans hm) rfl (by rw [List.length_map]; omega), List.map_append]
          rfl
        obtain ⟨acc', y', q1, q2, q3⟩ := ih (acc ++ [m]) (some (.int z)) (fun x hx => by
          rcases List.mem_append.mp hx with hx | hx
          · exact h x hx
          · rw [List.mem_singleton] at hx
            rw [hx]
            exact ok) (by rw [List.length_append]; simp; omega)
        refine ⟨acc', y', ?_, q2, by rw [q3, List.length_append, List.length_cons]; simp; omega⟩
        rw [List.map_cons]
        exact (forD_cons (e1 := nE xs V Kk (some (.own (acc.map tI))) (some (.int z))) rfl st1).trans q1
    obtain ⟨ys, hy, it⟩ : ∃ ys : List Int, ys.length ≤ 9 ∧ iAny (dSl (dVar 0) (oSome (dC (.int 4))) (oSome (bop gAdd (dC (.int 4)) (bop gMod (bop gIx (dVar 0) (dC (.int 2))) (dC (.int 5)))))) (nE xs V Kk (some (.own [])) none) = some (ys.map D.int) := by
      let e := nE xs V Kk (some (.own [])) none
      have hi : oSome (bop gAdd (dC (.int 4)) (bop gMod (bop gIx (dVar 0) (dC (.int 2))) (dC (.int 5)))) e = some (some (4 + (c : Int))) := by
        unfold oSome
        rw [(bop_of (x := .int 4) (y := .int (c : Int)) rfl ((bop_of (x := .int x2) rfl rfl).trans g3)).trans rfl]
        rfl
      have sl : slT (dVar 0) (oSome (dC (.int 4))) (oSome (bop gAdd (dC (.int 4)) (bop gMod (bop gIx (dVar 0) (dC (.int 2))) (dC (.int 5))))) e = none := by
        unfold slT
        rw [hi]
        rfl
      have sl2 : slL (dVar 0) (oSome (dC (.int 4))) (oSome (bop gAdd (dC (.int 4)) (bop gMod (bop gIx (dVar 0) (dC (.int 2))) (dC (.int 5))))) e = some (cutD (xs.map D.int) (some 4) (some (4 + (c : Int)))) := by
        unfold slL
        rw [hi]
        rfl
      refine ⟨(xs.drop (HT.sIx (xs.map D.int).length 0 (some 4))).take (HT.sIx (xs.map D.int).length (xs.map D.int).length (some (4 + (c : Int))) - HT.sIx (xs.map D.int).length 0 (some 4)), ?_, ?_⟩
      · rw [List.length_take, List.length_drop]
        have : xs.length = 9 := rfl
        omega
      · unfold iAny dSl
        show bnd (match slT (dVar 0) (oSome (dC (.int 4))) (oSome (bop gAdd (dC (.int 4)) (bop gMod (bop gIx (dVar 0) (dC (.int 2))) (dC (.int 5))))) e with
          | some d => some d
          | none => bnd (slL (dVar 0) (oSome (dC (.int 4))) (oSome (bop gAdd (dC (.int 4)) (bop gMod (bop gIx (dVar 0) (dC (.int 2))) (dC (.int 5))))) e) fun ds => some (.lst ds)) seqOf = _
        rw [sl, sl2]
        show some (cutD (xs.map D.int) (some 4) (some (4 + (c : Int)))) = _
        unfold cutD
        rw [← List.map_drop, ← List.map_take]
    obtain ⟨st, y', q1, q2, q3⟩ := lp ys [] none (fun _ h => by cases h) (by simp; omega)
    have l1 : bop gAdd (dC (.int 1)) (bop gMod (bop gIx (dVar 0) (dC (.int 3))) (dC (.int 3))) (nE xs V Kk (some (.fz (.lst (st.map tI)))) y') = some (.int ((1 + l0 : Nat) : Int)) := by
      refine (bop_of (x := .int 1) (y := .int (l0 : Int)) rfl ((bop_of (x := .int x3) rfl rfl).trans g4)).trans ?_
      rw [Int.natCast_add]
      rfl
    have ret : dTup (aCons (dVar 1) (aCons (dVar 2) (aCons (bop gAdd (dC (.int 1)) (bop gMod (bop gIx (dVar 0) (dC (.int 3))) (dC (.int 3)))) (aCons (cll (aCons (dVar 3) aNil) gTuple) aNil)))) (nE xs V Kk (some (.fz (.lst (st.map tI)))) y') = some (.tup [.int (v : Int), .int (k : Int), .int ((1 + l0 : Nat) : Int), .tup (st.map tI)]) :=
      dTup_of (aCons_of rfl (aCons_of rfl (aCons_of l1 (aCons_of ((cll1 (x := .lst (st.map tI)) rfl).trans rfl) rfl)))) (by simp)
    refine ⟨v, k, 1 + l0, st, ?_, by omega, by omega, hk2, hkv, by omega, by omega, by rw [q3]; simp; omega, q2⟩
    rw [sSeq_of s1, sSeq_of s2, sSeq_of s3, sSeq_of (e := nE xs V Kk (some (.own [])) none) rfl, sSeq_of ((sFor_of it).trans q1)]
    show outD (sRet (dTup (aCons (dVar 1) (aCons (dVar 2) (aCons (bop gAdd (dC (.int 1)) (bop gMod (bop gIx (dVar 0) (dC (.int 3))) (dC (.int 3)))) (aCons (cll (aCons (dVar 3) aNil) gTuple) aNil))))) (nE xs V Kk (some (.fz (.lst (st.map tI)))) y')) = _
    rw [sRet_at ret]
    rfl
end EM
set_option maxHeartbeats 1000000
namespace EM
open PySem PySem.Spec PyProof.Rows L2
/-! the wish of many points -/
def fE (xs : List Int) (q v k l : Option D) : Env := [some (.fz (.lst (xs.map D.int))), oz q, oz v, oz k, oz l]
def iD' (n : Nat) : Option D := some (.int (n : Int))
def fS1 : Env → Option Res := sSet 1 (bop gIx (fun env => bnd ((nLst (aCons (dC (.int 2)) (aCons (dC (.int 3)) (aCons (dC (.int 4)) (aCons (dC (.int 2)) (aCons (dC (.int 3)) (aCons (dC (.int 5)) (aCons (dC (.int 2)) (aCons (dC (.int 3)) (aCons (dC (.int 4)) (aCons (dC (.int 7)) aNil))))))))))) env) fun ds => some (.lst ds)) (bop gMod (bop gIx (dVar 0) (dC (.int 0))) (dC (.int 10))))
def fL2 : Env → Option D := fun env => bnd ((nLst (aCons (dTup (aCons (bop gAdd (bop gAdd (bop gMul (dVar 1) (dVar 1)) (dVar 1)) (dC (.int 1))) (aCons (bop gAdd (dVar 1) (dC (.int 1))) (aCons (dC (.int 1)) aNil)))) (aCons (dTup (aCons (bop gMul (dVar 1) (dVar 1)) (aCons (dVar 1) (aCons (dC (.int 1)) aNil)))) aNil))) env) fun ds => some (.lst ds)
def fS2 : Env → Option Res := fun env => bnd ((bop gIx fL2 (bop gMod (bop gIx (dVar 0) (dC (.int 1))) (dC (.int 2)))) env) fun d => bnd ((setT [2, 3, 4]) d env) fun e => some (.nx e)
def fL3 : Env → Option D := fun env => bnd ((nLst (aCons (bop gSub (bop gMul (dVar 1) (dVar 1)) (dVar 1)) (aCons (bop gSub (bop gMul (dVar 1) (dVar 1)) (dC (.int 1))) aNil))) env) fun ds => some (.lst ds)
def fT3 : Env → Option Res := sSeq (sSet 4 (bop gIx fL3 (bop gMod (bop gIx (dVar 0) (dC (.int 1))) (dC (.int 2))))) (sSet 3 (bop gSub (dVar 2) (dVar 3)))
def fS3 : Env → Option Res := sIf (tOfD (bop gEq (bop gMod (bop gIx (dVar 0) (dC (.int 2))) (dC (.int 3))) (dC (.int 1)))) fT3 sNil
def fV4 : Env → Option D := bop gAdd (dC (.int 2)) (bop gMod (bop gIx (dVar 0) (dC (.int 0))) (bop gIx (fun env => bnd ((nLst (aCons (dC (.int 59)) (aCons (dC (.int 199)) aNil))) env) fun ds => some (.lst ds)) (bop gMod (bop gIx (dVar 0) (dC (.int 6))) (dC (.int 2)))))
def fK4 : Env → Option D := bop gIx (fun env => bnd ((nLst (aCons (dC (.int 2)) (aCons (cll (aCons (dC (.int 2)) (aCons (bop gSub (dVar 2) (dC (.int 1))) aNil)) gMax2) (aCons (dVar 2) (aCons (bop gAdd (dC (.int 2)) (bop gMod (bop gIx (dVar 0) (dC (.int 1))) (bop gSub (dVar 2) (dC (.int 1))))) aNil))))) env) fun ds => some (.lst ds)) (bop gMod (bop gIx (dVar 0) (dC (.int 1))) (dC (.int 4)))
def fW4 : Env → Option D := bop gAdd (dC (.int 1)) (bop gMod (bop gIx (dVar 0) (dC (.int 3))) (bop gIx (fun env => bnd ((nLst (aCons (dC (.int 6)) (aCons (dVar 2) aNil))) env) fun ds => some (.lst ds)) (bop gMod (bop gIx (dVar 0) (dC (.int 4))) (dC (.int 2)))))
def fS4 : Env → Option Res := sIf (tOfD (bop gEq (bop gMod (bop gIx (dVar 0) (dC (.int 2))) (dC (.int 3))) (dC (.int 2)))) (sSeq (sSet 2 fV4) (sSeq (sSet 3 fK4) (sSet 4 fW4))) sNil
def fR5 : Env → Option D := dTup (aCons (dVar 2) (aCons (dVar 3) (aCons (bop gIx (fun env => bnd ((nLst (aCons (dVar 4) (aCons (bop gMul (dC (.int 2)) (dVar 4)) (aCons (dVar 4) (aCons (bop gAdd (dVar 4) (dC (.int 1))) aNil))))) env) fun ds => some (.lst ds)) (bop gMod (bop gIx (dVar 0) (dC (.int 5))) (dC (.int 4)))) (aCons (dTup aNil) aNil))))
theorem far_is : g_law_far_wish = sSeq fS1 (sSeq fS2 (sSeq fS3 (sSeq fS4 (sRet fR5)))) := rfl
section
variable {x0 x1 x2 x3 x4 x5 x6 x7 x8 : Int}
theorem far_q : ∃ q : Nat, (q = 2 ∨ q = 3 ∨ q = 4 ∨ q = 5 ∨ q = 7) ∧ fS1 (fE [x0, x1, x2, x3, x4, x5, x6, x7, x8] none none none none) = some (.nx (fE [x0, x1, x2, x3, x4, x5, x6, x7, x8] (iD' q) none none none)) := by
  obtain ⟨a, ha, g⟩ := gMod_lt x0 (n := 10) (by decide)
  have key : ∀ q : Nat, gIx (.lst [.int 2, .int 3, .int 4, .int 2, .int 3, .int 5, .int 2, .int 3, .int 4, .int 7]) (.int (a : Int)) = some (.int (q : Int)) → fS1 (fE [x0, x1, x2, x3, x4, x5, x6, x7, x8] none none none none) = some (.nx (fE [x0, x1, x2, x3, x4, x5, x6, x7, x8] (iD' q) none none none)) := fun q h =>
    sSet_of (d := .int (q : Int)) ((bop_of (x := .lst [.int 2, .int 3, .int 4, .int 2, .int 3, .int 5, .int 2, .int 3, .int 4, .int 7]) (y := .int (a : Int)) rfl ((bop_of (x := .int x0) rfl rfl).trans g)).trans h)
  have : a = 0 ∨ a = 1 ∨ a = 2 ∨ a = 3 ∨ a = 4 ∨ a = 5 ∨ a = 6 ∨ a = 7 ∨ a = 8 ∨ a = 9 := by omega
  rcases this with rfl | rfl | rfl | rfl | rfl | rfl | rfl | rfl | rfl | rfl
  · exact ⟨2, by decide, key 2 rfl⟩
  · exact ⟨3, by decide, key 3 rfl⟩
  · exact ⟨4, by decide, key 4 rfl⟩
  · exact ⟨2, by decide, key 2 rfl⟩
  · exact ⟨3, by decide, key 3 rfl⟩
  · exact ⟨5, by decide, key 5 rfl⟩
  · exact ⟨2, by decide, key 2 rfl⟩
  · exact ⟨3, by decide, key 3 rfl⟩
  · exact ⟨4, by decide, key 4 rfl⟩
  · exact ⟨7, by decide, key 7 rfl⟩
theorem far_2 {q : Nat} (hq : q = 2 ∨ q = 3 ∨ q = 4 ∨ q = 5 ∨ q = 7) : ∃ v k l : Nat, 2 ≤ v ∧ v ≤ 200 ∧ 2 ≤ k ∧ k ≤ v ∧ 1 ≤ l ∧ sSeq fS2 fS3 (fE [x0, x1, x2, x3, x4, x5, x6, x7, x8] (iD' q) none none none) = some (.nx (fE [x0, x1, x2, x3, x4, x5, x6, x7, x8] (iD' q) (iD' v) (iD' k) (iD' l))) := by
  obtain ⟨b, hb, g1⟩ := gMod_lt x1 (n := 2) (by decide)
  obtain ⟨c, hc, g2⟩ := gMod_lt x2 (n := 3) (by decide)
  have two : ∀ (v k l : Nat) {d0 d1 : D}, fL2 (fE [x0, x1, x2, x3, x4, x5, x6, x7, x8] (iD' q) none none none) = some (.lst [d0, d1]) → gIx (.lst [d0, d1]) (.int (b : Int)) = some (.tup [.int (v : Int), .int (k : Int), .int (l : Int)]) → fS2 (fE [x0, x1, x2, x3, x4, x5, x6, x7, x8] (iD' q) none none none) = some (.nx (fE [x0, x1, x2, x3, x4, x5, x6, x7, x8] (iD' q) (iD' v) (iD' k) (iD' l))) := fun v k l d0 d1 h1 h2 => by
    unfold fS2
    rw [(bop_of h1 ((bop_of (x := .int x1) rfl rfl).trans g1)).trans h2]
    rfl
  have t3 : ∀ v k l : Option D, tOfD (bop gEq (bop gMod (bop gIx (dVar 0) (dC (.int 2))) (dC (.int 3))) (dC (.int 1))) (fE [x0, x1, x2, x3, x4, x5, x6, x7, x8] (iD' q) v k l) = some ((c : Int) == 1) := fun v k l => tOfD_of ((bop_of (y := .int 1) ((bop_of (x := .int x2) rfl rfl).trans g2) rfl).trans (gEq_int _ _))
  have thr : ∀ (v k l l2 k2 : Nat) {d0 d1 : D}, fL3 (fE [x0, x1, x2, x3, x4, x5, x6, x7, x8] (iD' q) (iD' v) (iD' k) (iD' l)) = some (.lst [d0, d1]) → gIx (.lst [d0, d1]) (.int (b : Int)) = some (.int (l2 : Int)) → (v : Int) - k = k2 → fT3 (fE [x0, x1, x2, x3, x4, x5, x6, x7, x8] (iD' q) (iD' v) (iD' k) (iD' l)) = some (.nx (fE [x0, x1, x2, x3, x4, x5, x6, x7, x8] (iD' q) (iD' v) (iD' k2) (iD' l2))) := fun v k l l2 k2 d0 d1 h1 h2 hk => by
    unfold fT3
    rw [sSeq_of (e := fE [x0, x1, x2, x3, x4, x5, x6, x7, x8] (iD' q) (iD' v) (iD' k) (iD' l2)) (sSet_of (d := .int (l2 : Int)) ((bop_of h1 ((bop_of (x := .int x1) rfl rfl).trans g1)).trans h2))]
    refine sSet_of (d := .int (k2 : Int)) ((bop_of (x := .int (v : Int)) (y := .int (k : Int)) rfl rfl).trans ?_)
    rw [← hk]
    rfl
  have fin : ∀ v k l l2 k2 : Nat, 2 ≤ v → v ≤ 200 → 2 ≤ k → k ≤ v → 1 ≤ l → 2 ≤ k2 → k2 ≤ v → 1 ≤ l2 → fS2 (fE [x0, x1, x2, x3, x4, x5, x6, x7, x8] (iD' q) none none none) = some (.nx (fE [x0, x1, x2, x3, x4, x5, x6, x7, x8] (iD' q) (iD' v) (iD' k) (iD' l))) → fT3 (fE [x0, x1, x2, x3, x4, x5, x6, x7, x8] (iD' q) (iD' v) (iD' k) (iD' l)) = some (.nx (fE [x0, x1, x2, x3, x4, x5, x6, x7, x8] (iD' q) (iD' v) (iD' k2) (iD' l2))) → ∃ v k l : Nat, 2 ≤ v ∧ v ≤ 200 ∧ 2 ≤ k ∧ k ≤ v ∧ 1 ≤ l ∧ sSeq fS2 fS3 (fE [x0, x1, x2, x3, x4, x5, x6, x7, x8] (iD' q) none none none) = some (.nx (fE [x0, x1, x2, x3, x4, x5, x6, x7, x8] (iD' q) (iD' v) (iD' k) (iD' l))) := fun v k l l2 k2 h1 h2 h3 h4 h5 h6 h7 h8 s2 s3 => by
    by_cases hc1 : c = 1
    · refine ⟨v, k2, l2, h1, h2, h6, h7, h8, ?_⟩
      rw [sSeq_of s2]
      exact sIf_t ((t3 _ _ _).trans (by rw [hc1]; rfl)) s3
    · refine ⟨v, k, l, h1, h2, h3, h4, h5, ?_⟩
      rw [sSeq_of s2]
      exact sIf_skip ((t3 _ _ _).trans (by rw [beq_eq_false_iff_ne.mpr (show (c : Int) ≠ 1 by omega)]))
  have hb2 : b = 0 ∨ b = 1 := by omega
  rcases hb2 with rfl | rfl
  · rcases hq with rfl | rfl | rfl | rfl | rfl
    · exact fin 7 3 1 2 4 (by decide) (by decide) (by decide) (by decide) (by decide) (by decide) (by decide) (by decide) (two 7 3 1 rfl rfl) (thr 7 3 1 2 4 rfl rfl rfl)
    · exact fin 13 4 1 6 9 (by decide) (by decide) (by decide) (by decide) (by decide) (by decide) (by decide) (by decide) (two 13 4 1 rfl rfl) (thr 13 4 1 6 9 rfl rfl rfl)
    · exact fin 21 5 1 12 16 (by decide) (by decide) (by decide) (by decide) (by decide) (by decide) (by decide) (by decide) (two 21 5 1 rfl rfl) (thr 21 5 1 12 16 rfl rfl rfl)
    · exact fin 31 6 1 20 25 (by decide) (by decide) (by decide) (by decide) (by decide) (by decide) (by decide) (by decide) (two 31 6 1 rfl rfl) (thr 31 6 1 20 25 rfl rfl rfl)
    · exact fin 57 8 1 42 49 (by decide) (by decide) (by decide) (by decide) (by decide) (by decide) (by decide) (by decide) (two 57 8 1 rfl rfl) (thr 57 8 1 42 49 rfl rfl rfl)
  · rcases hq with rfl | rfl | rfl | rfl | rfl
    · exact fin 4 2 1 3 2 (by decide) (by decide) (by decide) (by decide) (by decide) (by decide) (by decide) (by decide) (two 4 2 1 rfl rfl) (thr 4 2 1 3 2 rfl rfl rfl)
    · exact fin 9 3 1 8 6 (by decide) (by decide) (by decide) (by decide) (by decide) (by decide) (by decide) (by decide) (two 9 3 1 rfl rfl) (thr 9 3 1 8 6 rfl rfl rfl)
    · exact fin 16 4 1 15 12 (by decide) (by decide) (by decide) (by decide) (by decide) (by decide) (by decide) (by decide) (two 16 4 1 rfl rfl) (thr 16 4 1 15 12 rfl rfl rfl)
    · exact fin 25 5 1 24 20 (by decide) (by decide) (by decide) (by decide) (by decide) (by decide) (by decide) (by decide) (two 25 5 1 rfl rfl) (thr 25 5 1 24 20 rfl rfl rfl)
    · exact fin 49 7 1 48 42 (by decide) (by decide) (by decide) (by decide) (by decide) (by decide) (by decide) (by decide) (two 49 7 1 rfl rfl) (thr 49 7 1 48 42 rfl rfl rfl)
/-- one of four -/
theorem pick4 {d0 d1 d2 d3 : Nat} {P : Nat → Prop} (h0 : P d0) (h1 : P d1) (h2 : P d2) (h3 : P d3) {e : Nat} (he : e < 4) : ∃ n, P n ∧ gIx (.lst [.int (d0 : Int), .int (d1 : Int), .int (d2 : Int), .int (d3 : Int)]) (.int (e : Int)) = some (.int (n : Int)) := by
  have : e = 0 ∨ e = 1 ∨ e = 2 ∨ e = 3 := by omega
  rcases this with rfl | rfl | rfl | rfl
  · exact ⟨d0, h0, rfl⟩
  · exact ⟨d1, h1, rfl⟩
  · exact ⟨d2, h2, rfl⟩
  · exact ⟨d3, h3, rfl⟩
theorem pickN2 {d0 d1 : Nat} {P : Nat → Prop} (h0 : P d0) (h1 : P d1) {e : Nat} (he : e < 2) : ∃ n, P n ∧ gIx (.lst [.int (d0 : Int), .int (d1 : Int)]) (.int (e : Int)) = some (.int (n : Int)) := by
  have : e = 0 ∨ e = 1 := by omega
  rcases this with rfl | rfl
  · exact ⟨d0, h0, rfl⟩
  · exact ⟨d1, h1, rfl⟩
theorem far_4 {q v k l : Nat} (h1 : 2 ≤ v) (h2 : v ≤ 200) (h3 : 2 ≤ k) (h4 : k ≤ v) (h5 : 1 ≤ l) : ∃ v' k' l' : Nat, 2 ≤ v' ∧ v' ≤ 200 ∧ 2 ≤ k' ∧ k' ≤ v' ∧ 1 ≤ l' ∧ fS4 (fE [x0, x1, x2, x3, x4, x5, x6, x7, x8] (iD' q) (iD' v) (iD' k) (iD' l)) = some (.nx (fE [x0, x1, x2, x3, x4, x5, x6, x7, x8] (iD' q) (iD' v') (iD' k') (iD' l'))) := by
  obtain ⟨c, hc, g2⟩ := gMod_lt x2 (n := 3) (by decide)
  have t4 : tOfD (bop gEq (bop gMod (bop gIx (dVar 0) (dC (.int 2))) (dC (.int 3))) (dC (.int 2))) (fE [x0, x1, x2, x3, x4, x5, x6, x7, x8] (iD' q) (iD' v) (iD' k) (iD' l)) = some ((c : Int) == 2) := tOfD_of ((bop_of (y := .int 2) ((bop_of (x := .int x2) rfl rfl).trans g2) rfl).trans (gEq_int _ _))
  by_cases hc2 : c = 2
  · obtain ⟨e6, he6, g6⟩ := gMod_lt x6 (n := 2) (by decide)
    obtain ⟨n, hn, p1⟩ := pickN2 (d0 := 59) (d1 := 199) (P := fun n => 0 < n ∧ n ≤ 199) ⟨by decide, by decide⟩ ⟨by decide, by decide⟩ he6
    obtain ⟨a, ha, g0⟩ := gMod_lt x0 hn.1
    let E1 := fE [x0, x1, x2, x3, x4, x5, x6, x7, x8] (iD' q) (iD' v) (iD' k) (iD' l)
    have sv : fV4 E1 = some (.int ((2 + a : Nat) : Int)) := by
      have i1 : bop gIx (fun env => bnd ((nLst (aCons (dC (.int 59)) (aCons (dC (.int 199)) aNil))) env) fun ds => some (.lst ds)) (bop gMod (bop gIx (dVar 0) (dC (.int 6))) (dC (.int 2))) E1 = some (.int (n : Int)) := (bop_of (x := .lst [.int ((59 : Nat) : Int), .int ((199 : Nat) : Int)]) rfl ((bop_of (x := .int x6) rfl rfl).trans g6)).trans p1
      refine (bop_of (x := .int 2) (y := .int (a : Int)) rfl ((bop_of (x := .int x0) rfl i1).trans g0)).trans ?_
      rw [Int.natCast_add]
      rfl
    let E2 := fE [x0, x1, x2, x3, x4, x5, x6, x7, x8] (iD' q) (iD' (2 + a)) (iD' k) (iD' l)
    have sb : bop gSub (dVar 2) (dC (.int 1)) E2 = some (.int ((a + 1 : Nat) : Int)) := by
      refine (bop_of (x := .int ((2 + a : Nat) : Int)) (y := .int 1) rfl rfl).trans ?_
      show some (D.int (((2 + a : Nat) : Int) - 1)) = _
      rw [show ((2 + a : Nat) : Int) - 1 = ((a + 1 : Nat) : Int) by omega]
    obtain ⟨r, hr, g1⟩ := gMod_lt x1 (n := a + 1) (by omega)
    obtain ⟨e1, he1, g14⟩ := gMod_lt x1 (n := 4) (by decide)
    obtain ⟨mx, hmx, m1⟩ : ∃ mx : Nat, (2 ≤ mx ∧ mx ≤ 2 + a) ∧ gMax2 [.int 2, .int ((a + 1 : Nat) : Int)] = some (.int (mx : Int)) := by
      have z : gMax2 [.int 2, .int ((a + 1 : Nat) : Int)] = some (.int (if ((a + 1 : Nat) : Int) > 2 then ((a + 1 : Nat) : Int) else 2)) := rfl
      by_cases h : ((a + 1 : Nat) : Int) > 2
      · rw [if_pos h] at z
        exact ⟨a + 1, ⟨by omega, by omega⟩, z⟩
      · rw [if_neg h] at z
        exact ⟨2, ⟨by omega, by omega⟩, z⟩
    obtain ⟨k', hk', p2⟩ := pick4 (d0 := 2) (d1 := mx) (d2 := 2 + a) (d3 := 2 + r) (P := fun n => 2 ≤ n ∧ n ≤ 2 + a) ⟨by omega, by omega⟩ hmx ⟨by omega, by omega⟩ ⟨by omega, by omega⟩ he1
    have sk : fK4 E2 = some (.int (k' : Int)) := by
      have r1 : bop gAdd (dC (.int 2)) (bop gMod (bop gIx (dVar 0) (dC (.int 1))) (bop gSub (dVar 2) (dC (.int 1)))) E2 = some (.int ((2 + r : Nat) : Int)) := by
        refine (bop_of (x := .int 2) (y := .int (r : Int)) rfl ((bop_of (x := .int x1) rfl sb).trans g1)).trans ?_
        rw [Int.natCast_add]
        rfl
      have ls := nLst_of (aCons_of (x := .int ((2 : Nat) : Int)) (fa := dC (.int 2)) (e := E2) rfl (aCons_of ((cll2 (fa := dC (.int 2)) (x := .int 2) rfl sb).trans m1) (aCons_of (x := .int ((2 + a : Nat) : Int)) (fa := dVar 2) rfl (aCons_of r1 (fr := aNil) rfl)))) (by simp)
      exact (bop_of ls ((bop_of (x := .int x1) rfl rfl).trans g14)).trans p2
    let E3 := fE [x0, x1, x2, x3, x4, x5, x6, x7, x8] (iD' q) (iD' (2 + a)) (iD' k') (iD' l)
    obtain ⟨e4, he4, g4⟩ := gMod_lt x4 (n := 2) (by decide)
    obtain ⟨m, hm, p3⟩ := pickN2 (d0 := 6) (d1 := 2 + a) (P := fun n => 0 < n) (by decide) (by omega) he4
    obtain ⟨w, hw, g3⟩ := gMod_lt x3 hm
    have sl : fW4 E3 = some (.int ((1 + w : Nat) : Int)) := by
      have ls := nLst_of (aCons_of (x := .int ((6 : Nat) : Int)) (fa := dC (.int 6)) (e := E3) rfl (aCons_of (x := .int ((2 + a : Nat) : Int)) (fa := dVar 2) (fr := aNil) rfl rfl)) (by simp)
      have i1 := (bop_of (g := gIx) ls ((bop_of (g := gMod) (fa := bop gIx (dVar 0) (dC (.int 4))) (fb := dC (.int 2)) (env := E3) (x := .int x4) rfl rfl).trans g4)).trans p3
      refine (bop_of (x := .int 1) (y := .int (w : Int)) rfl ((bop_of (x := .int x3) rfl i1).trans g3)).trans ?_
      rw [Int.natCast_add]
      rfl
    refine ⟨2 + a, k', 1 + w, by omega, by omega, hk'.1, hk'.2, by omega, ?_⟩
    refine sIf_t (t4.trans (by rw [hc2]; rfl)) ?_
    rw [sSeq_of (e := E2) (sSet_of sv), sSeq_of (e := E3) (sSet_of sk)]
    exact sSet_of sl
  · exact ⟨v, k, l, h1, h2, h3, h4, h5, sIf_skip (t4.trans (by rw [beq_eq_false_iff_ne.mpr (show (c : Int) ≠ 2 by omega)]))⟩
theorem far_5 {q v k l : Nat} (h5 : 1 ≤ l) : ∃ l' : Nat, 1 ≤ l' ∧ fR5 (fE [x0, x1, x2, x3, x4, x5, x6, x7, x8] (iD' q) (iD' v) (iD' k) (iD' l)) = some (.tup [.int (v : Int), .int (k : Int), .int (l' : Int), .tup []]) := by
  obtain ⟨e, he, g⟩ := gMod_lt x5 (n := 4) (by decide)
  obtain ⟨l', hl', p⟩ := pick4 (d0 := l) (d1 := 2 * l) (d2 := l) (d3 := l + 1) (P := fun n => 1 ≤ n) h5 (by omega) h5 (by omega) he
  let E := fE [x0, x1, x2, x3, x4, x5, x6, x7, x8] (iD' q) (iD' v) (iD' k) (iD' l)
  have m2 : bop gMul (dC (.int 2)) (dVar 4) E = some (.int ((2 * l : Nat) : Int)) := (bop_of (x := .int 2) (y := .int (l : Int)) rfl rfl).trans ((gMul_l (by decide)).trans (by rw [Int.natCast_mul]; rfl))
  have a1 : bop gAdd (dVar 4) (dC (.int 1)) E = some (.int ((l + 1 : Nat) : Int)) := (bop_of (x := .int (l : Int)) (y := .int 1) rfl rfl).trans (by rw [Int.natCast_add]; rfl)
  have ls := nLst_of (aCons_of (x := .int (l : Int)) (fa := dVar 4) (e := E) rfl (aCons_of m2 (aCons_of (x := .int (l : Int)) (fa := dVar 4) rfl (aCons_of a1 (fr := aNil) rfl)))) (by simp)
  have i1 := (bop_of (g := gIx) ls ((bop_of (g := gMod) (fa := bop gIx (dVar 0) (dC (.int 5))) (fb := dC (.int 4)) (env := E) (x := .int x5) rfl rfl).trans g)).trans p
  exact ⟨l', hl', dTup_of (aCons_of rfl (aCons_of rfl (aCons_of i1 (aCons_of rfl rfl)))) (by simp)⟩
end
theorem far_ok : ∀ (xs : List Int), xs.length = 9 → ∃ (v k l : Nat), d_law_far_wish [.lst (xs.map D.int)] = some (.tup [.int (v : Int), .int (k : Int), .int (l : Int), .tup []]) ∧ 2 ≤ v ∧ v ≤ 200 ∧ 2 ≤ k ∧ k ≤ v ∧ 1 ≤ l
  | [x0, x1, x2, x3, x4, x5, x6, x7, x8], _ => by
    unfold d_law_far_wish
    rw [show runD 1 5 g_law_far_wish [.lst ([x0, x1, x2, x3, x4, x5, x6, x7, x8].map D.int)] = outD (g_law_far_wish (fE [x0, x1, x2, x3, x4, x5, x6, x7, x8] none none none none)) from rfl, far_is]
    obtain ⟨q, hq, s1⟩ := far_q (x0 := x0) (x1 := x1) (x2 := x2) (x3 := x3) (x4 := x4) (x5 := x5) (x6 := x6) (x7 := x7) (x8 := x8)
    obtain ⟨v, k, l, h1, h2, h3, h4, h5, s2⟩ := far_2 (x0 := x0) (x1 := x1) (x2 := x2) (x3 := x3) (x4 := x4) (x5 := x5) (x6 := x6) (x7 := x7) (x8 := x8) hq
    obtain ⟨v', k', l', i1, i2, i3, i4, i5, s4⟩ := far_4 (x0 := x0) (x1 := x1) (x2 := x2) (x3 := x3) (x4 := x4) (x5 := x5) (x6 := x6) (x7 := x7) (x8 := x8) (q := q) h1 h2 h3 h4 h5
    obtain ⟨l2, j5, s5⟩ := far_5 (x0 := x0) (x1 := x1) (x2 := x2) (x3 := x3) (x4 := x4) (x5 := x5) (x6 := x6) (x7 := x7) (x8 := x8) (q := q) (v := v') (k := k') i5
    refine ⟨v', k', l2, ?_, i1, i2, i3, i4, j5⟩
    have assoc : ∀ (f g h : Env → Option Res) (e e' : Env), sSeq f g e = some (.nx e') → sSeq f (sSeq g h) e = h e' := fun f g h e e' hh => by
      unfold sSeq at hh ⊢
      cases hf : f e with
      | none =>
        rw [hf] at hh
        cases hh
      | some r =>
        rw [hf] at hh
        cases r with
        | nx e1 =>
          have z : g e1 = some (.nx e') := hh
          show bnd (g e1) _ = _
          rw [z]
          rfl
        | _ => cases hh
    rw [sSeq_of s1, assoc _ _ _ _ _ s2, sSeq_of s4, sRet_at s5]
    rfl
end EM
set_option maxHeartbeats 1000000
namespace EM
open PySem PySem.Spec PyProof.Rows L2
section
variable {v k l : Nat} {st : List (List Int)}
def iE (v k : Nat) (st : List (List Int)) (blk : Option D) : Env := [some (.fz (.tup (st.map tI))), some (.fz (.int (v : Int))), some (.fz (.int (k : Int))), oz blk, none, none]
def isBody : Env → Option Res := (sSeq (sIf (tOrD (tNotD (tOfD (cll (aCons (dVar 3) aNil) (gIsi .tuple)))) (tOfD (bop gNe (cll (aCons (dVar 3) aNil) gLen) (dVar 2)))) (sRet (dC (.bl false))) sNil)
    (sSeq (sIf (tNotD (tOfD (cll (aCons (fun env => bnd ((nLc [4] (iAny (dVar 3)) (setN 4) tYesD (cll (aCons (dVar 4) (aCons (dC (.int 0)) (aCons (bop gSub (dVar 1) (dC (.int 1))) aNil))) d_is_between)) env) fun ds => some (.lst ds)) aNil) gAll))) (sRet (dC (.bl false))) sNil)
    (sIf (tNotD (tOfD (cll (aCons (fun env => bnd ((nLc [5] (iRg1 (aCons (bop gSub (dVar 2) (dC (.int 1))) aNil)) (setN 5) tYesD (bop gLt (bop gIx (dVar 3) (dVar 5)) (bop gIx (dVar 3) (bop gAdd (dVar 5) (dC (.int 1)))))) env) fun ds => some (.lst ds)) aNil) gAll))) (sRet (dC (.bl false))) sNil)))
theorem all_true {α : Type} {n : Env → Option (List D)} {e : Env} {xs : List α} (h : n e = some (xs.map fun _ => D.bl true)) : tNotD (tOfD (cll (aCons (fun env => bnd (n env) fun ds => some (.lst ds)) aNil) gAll)) e = some false := by
  refine tNotD_of (b := true) (tOfD_of ((cll1 (lstF h)).trans ?_))
  rw [show xs.map (fun _ => D.bl true) = (xs.map fun _ => true).map D.bl by rw [List.map_map]; rfl, gAll_of]
  simp
theorem gIx_tIg {m : List Int} {i : Nat} (h : i < m.length) : gIx (tI m) (.int (i : Int)) = some (.int m[i]) := by
  show atI (m.map D.int) (i : Int) = _
  refine L2.atI_nat ?_
  rw [List.getElem?_map, List.getElem?_eq_getElem h]
  rfl
theorem isBody_ok {m : List Int} (hk2 : 2 ≤ k) (hk : k ≤ 200) (hv : 1 ≤ v) (h : BOk v k m) : isBody (iE v k st (some (tI m))) = some (.nx (iE v k st (some (tI m)))) := by
  unfold isBody
  let e := iE v k st (some (tI m))
  have t1 : tOfD (bop gNe (cll (aCons (dVar 3) aNil) gLen) (dVar 2)) e = some false := by
    refine tOfD_of ((bop_of (x := .int (m.map D.int).length) (y := .int (k : Int)) rfl rfl).trans ((gNe_int _ _).trans ?_))
    rw [List.length_map, h.len]
    simp
  rw [sSeq_of (e := e) (sIf_skip (tOrD_of (b := false) rfl fun _ => t1))]
  have l1 : nLc [4] (iAny (dVar 3)) (setN 4) tYesD (cll (aCons (dVar 4) (aCons (dC (.int 0)) (aCons (bop gSub (dVar 1) (dC (.int 1))) aNil))) d_is_between) e = some (m.map fun _ => D.bl true) := by
    refine nLc_all (xs := m) D.int (fun _ => .bl true) rfl (by rw [h.len]; omega) fun x hx => ⟨_, rfl, ?_⟩
    obtain ⟨a1, a2⟩ := h.inn x hx
    refine (cll3 (x := .int x) (y := .int 0) (z := .int ((v : Int) - 1)) rfl rfl rfl).trans ?_
    rw [between_eq, decide_eq_true a1, decide_eq_true (show x ≤ (v : Int) - 1 by omega)]
    rfl
  rw [sSeq_of (e := e) (sIf_skip (all_true l1))]
  have r1 : iRg1 (aCons (bop gSub (dVar 2) (dC (.int 1))) aNil) e = some ((List.range (k - 1)).map fun (i : Nat) => D.int (i : Int)) := by
    have z := iRg1_of (fa := aCons (bop gSub (dVar 2) (dC (.int 1))) aNil) (env := e) (j := (k : Int) - 1) rfl (by omega) (by omega)
    rw [show ((k : Int) - 1).toNat = k - 1 by omega] at z
    exact z
  have l2 : nLc [5] (iRg1 (aCons (bop gSub (dVar 2) (dC (.int 1))) aNil)) (setN 5) tYesD (bop gLt (bop gIx (dVar 3) (dVar 5)) (bop gIx (dVar 3) (bop gAdd (dVar 5) (dC (.int 1))))) e = some ((List.range (k - 1)).map fun _ => D.bl true) := by
    refine nLc_all (xs := List.range (k - 1)) (fun (i : Nat) => D.int (i : Int)) (fun _ => .bl true) r1 (by rw [List.length_range]; omega) fun i hi => ⟨_, rfl, ?_⟩
    have hi' := List.mem_range.mp hi
    have i0 : i < m.length := by rw [h.len]; omega
    have i1 : i + 1 < m.length := by rw [h.len]; omega
    let e5 : Env := [some (.fz (.tup (st.map tI))), some (.fz (.int (v : Int))), some (.fz (.int (k : Int))), some (.fz (tI m)), none, some (.fz (.int (i : Int)))]
    have b1 : bop gIx (dVar 3) (dVar 5) e5 = some (.int m[i]) := (bop_of (x := tI m) (y := .int (i : Int)) rfl rfl).trans (gIx_tIg i0)
    have b2 : bop gIx (dVar 3) (bop gAdd (dVar 5) (dC (.int 1))) e5 = some (.int m[i + 1]) := (bop_of (x := tI m) (y := .int ((i + 1 : Nat) : Int)) rfl ((bop_of (x := .int (i : Int)) (y := .int 1) rfl rfl).trans (by rw [Int.natCast_add]; rfl))).trans (gIx_tIg i1)
    refine (bop_of b1 b2).trans ?_
    have lt : m[i] < m[i + 1] := List.pairwise_iff_getElem.mp (incB_ok h.inc) i (i + 1) i0 i1 (by omega)
    show some (D.bl (decide (m[i] < m[i + 1]))) = _
    rw [decide_eq_true lt]
  exact sIf_skip (all_true l2)
theorem is_start_ok (hk2 : 2 ≤ k) (hk : k ≤ 200) (hv : 1 ≤ v) (h : ∀ m ∈ st, BOk v k m) : d_is_start [.tup (st.map tI), .int (v : Int), .int (k : Int)] = some (.bl true) := by
  unfold d_is_start
  rw [show runD 3 6 g_is_start [.tup (st.map tI), .int (v : Int), .int (k : Int)] = outD (g_is_start (iE v k st none)) from rfl]
  unfold g_is_start
  have lp : ∀ (bs : List (List Int)) (blk : Option D), (∀ m ∈ bs, BOk v k m) → ∃ blk', forD (setN 3) isBody (bs.map tI) (iE v k st blk) = some (.nx (iE v k st blk')) := by
    intro bs
    induction bs with
    | nil => exact fun blk _ => ⟨blk, rfl⟩
    | cons m bs ih =>
      intro blk hm
      obtain ⟨blk', g⟩ := ih (some (tI m)) fun x hx => hm x (List.mem_cons_of_mem _ hx)
      refine ⟨blk', ?_⟩
      rw [List.map_cons]
      exact (forD_cons (e1 := iE v k st (some (tI m))) rfl (isBody_ok hk2 hk hv (hm m (List.mem_cons_self ..)))).trans g
  obtain ⟨blk', g⟩ := lp st none h
  rw [sSeq_of (e := iE v k st none) (sIf_skip rfl)]
  show outD (sSeq (sFor (iAny (dVar 0)) (setN 3) isBody) _ _) = _
  rw [sSeq_of ((sFor_of (ds := st.map tI) rfl).trans g)]
  rfl
theorem wish_of_ok (w : WOk v k l) (h : ∀ m ∈ st, BOk v k m) (h9 : st ≠ [] → v ≤ 9) : d_wish_of [.int (v : Int), .int (k : Int), .int (l : Int), .tup (st.map tI)] = some (WD v k l st) := by
  obtain ⟨h1, h2, h3, h4, h5, h6⟩ := id w
  unfold d_wish_of
  rw [show runD 4 4 g_wish_of [.int (v : Int), .int (k : Int), .int (l : Int), .tup (st.map tI)] = outD (g_wish_of [some (.fz (.int (v : Int))), some (.fz (.int (k : Int))), some (.fz (.int (l : Int))), some (.fz (.tup (st.map tI)))]) from rfl]
  unfold g_wish_of
  let e : Env := [some (.fz (.int (v : Int))), some (.fz (.int (k : Int))), some (.fz (.int (l : Int))), some (.fz (.tup (st.map tI)))]
  rw [sSeq_of (e := e) (sIf_skip rfl)]
  have b1 : tNotD (tOfD (cll (aCons (dVar 0) (aCons (dC (.int 2)) (aCons (dC (.int 200)) aNil))) d_is_between)) e = some false := by
    refine tNotD_of (b := true) (tOfD_of ((cll3 (x := .int (v : Int)) (y := .int 2) (z := .int 200) rfl rfl rfl).trans ?_))
    rw [between_eq, decide_eq_true (by omega), decide_eq_true (by omega)]
    rfl
  have b2 : tNotD (tOfD (cll (aCons (dVar 1) (aCons (dC (.int 2)) (aCons (dVar 0) aNil))) d_is_between)) e = some false := by
    refine tNotD_of (b := true) (tOfD_of ((cll3 (x := .int (k : Int)) (y := .int 2) (z := .int (v : Int)) rfl rfl rfl).trans ?_))
    rw [between_eq, decide_eq_true (by omega), decide_eq_true (by omega)]
    rfl
  have b3 : tNotD (tOfD (cll (aCons (dVar 2) (aCons (dC (.int 1)) (aCons (dC (.int 200)) aNil))) d_is_between)) e = some false := by
    refine tNotD_of (b := true) (tOfD_of ((cll3 (x := .int (l : Int)) (y := .int 1) (z := .int 200) rfl rfl rfl).trans ?_))
    rw [between_eq, decide_eq_true (by omega), decide_eq_true (by omega)]
    rfl
  rw [sSeq_of (e := e) (sIf_skip (tOrD_of b1 fun _ => tOrD_of b2 fun _ => b3))]
  have b4 : tNotD (tOfD (cll (aCons (dVar 3) (aCons (dVar 0) (aCons (dVar 1) aNil))) d_is_start)) e = some false :=
    tNotD_of (b := true) (tOfD_of ((cll3 (x := .tup (st.map tI)) (y := .int (v : Int)) (z := .int (k : Int)) rfl rfl rfl).trans (is_start_ok h3 (by omega) (by omega) h)))
  have b5 : tAndD (tOfD (bop gNe (dVar 3) (dTup aNil))) (tOfD (bop gGt (dVar 0) (dC (.int 9)))) e = some false := by
    have n1 : tOfD (bop gNe (dVar 3) (dTup aNil)) e = some (!st.isEmpty) := tOfD_of ((bop_of (x := .tup (st.map tI)) (y := .tup []) rfl rfl).trans (gNe_eqD (st_nil st)))
    have n2 : tOfD (bop gGt (dVar 0) (dC (.int 9))) e = some (decide ((9 : Int) < (v : Int))) := rfl
    refine (tAndD_of n1 fun _ => n2).trans ?_
    cases st with
    | nil => rfl
    | cons x y =>
      rw [decide_eq_false (show ¬ (9 : Int) < (v : Int) by have := h9 (by simp); omega)]
      rfl
  rw [sSeq_of (e := e) (sIf_skip (tOrD_of b4 fun _ => b5))]
  rfl
end
end EM
set_option maxHeartbeats 1000000
namespace EM
open PySem PySem.Spec PyProof.Rows L2
/-! the law as a whole -/
def LE (ns : List Int) (x W y m f a v k l st : Option D) : Env := [some (.fz (.scr ns)), oz x, oz W, oz y, oz m, oz f, oz a, oz v, oz k, oz l, oz st]
def sT4 (f : Env → Option D) : Env → Option Res := fun env => bnd (f env) fun d => bnd ((setT [7, 8, 9, 10]) d env) fun e => some (.nx e)
def numF (i n : Int) : Env → Option D := cll (aCons (cll (aCons (dVar 0) (aCons (dC (.int i)) aNil)) d_law_cell) (aCons (dC (.int n)) aNil)) d_law_numbers
def lS3 : Env → Option Res := sIf (tOfD (bop gEq (bop gMod (bop gIx (numF 1 1) (dC (.int 0))) (dC (.int 2))) (dC (.int 1)))) (sT4 (cll (aCons (dVar 1) aNil) d_law_far_wish)) sNil
def lS4 : Env → Option Res := sSet 2 (cll (aCons (dVar 7) (aCons (dVar 8) (aCons (cll (aCons (dC (.int 200)) (aCons (dVar 9) aNil)) gMin2) (aCons (dVar 10) aNil)))) d_wish_of)
def lM6 : Env → Option D := bop gIx (lsD (aCons (bop gMod (bop gIx (dVar 3) (dC (.int 0))) (dC (.int 61))) (aCons (dC (.int 300)) aNil))) (cll (aCons (bop gEq (bop gMod (bop gIx (dVar 3) (dC (.int 1))) (dC (.int 16))) (dC (.int 1))) aNil) gInt)
def lBad : Env → Option D := bop gIx (lsD (aCons (uop gNeg (dC (.int 1))) (aCons (dC (.int 5001)) (aCons (dC (.bl true)) (aCons (dC .non) (aCons (dC (.str "9")) aNil)))))) (bop gMod (bop gIx (dVar 3) (dC (.int 2))) (dC (.int 5)))
def lS8 : Env → Option Res := sIf (tOrD (tNotD (tOfD (cll (aCons (dVar 2) (aCons (dVar 5) aNil)) d_law_right))) (tNotD (tOfD (cll (aCons (dVar 2) (aCons lBad aNil)) d_law_refused)))) (sRet (dC (.bl false))) sNil
def lT9 : Env → Option Bool := tAndD (tOfD (bop gEq (bop gIx (dVar 2) (dC (.int 3))) (dTup aNil))) (tAndD (tOfD (bop gLt (bop gIx (dVar 2) (dC (.int 1))) (bop gIx (dVar 2) (dC (.int 0))))) (tOfD (bop gGt (bop gMod (bop gMul (bop gIx (dVar 2) (dC (.int 2))) (bop gSub (bop gIx (dVar 2) (dC (.int 0))) (dC (.int 1)))) (bop gSub (bop gIx (dVar 2) (dC (.int 1))) (dC (.int 1)))) (dC (.int 0)))))
def lC : Env → Option D := bop gMod (bop gIx (dVar 3) (dC (.int 3))) (dC (.int 100))
def lS9 : Env → Option Res := sIf lT9 (sSet 4 (bop gSub (dC (.int 5000)) lC)) sNil
def lR11 : Env → Option D := dAndV (cll (aCons (dVar 2) (aCons (dVar 6) aNil)) d_law_right) (dOrV (bop gEq (dVar 5) (dTup (aCons (dC (.str "open")) aNil))) (bop gEq (bop gIx (dVar 6) (dC (.int 0))) (bop gIx (dVar 5) (dC (.int 0)))))
theorem law_is : g_law = sSeq (sSet 1 (numF 0 9)) (sSeq (sT4 (cll (aCons (dVar 1) aNil) d_law_near_wish)) (sSeq lS3 (sSeq lS4 (sSeq (sSet 3 (numF 2 4)) (sSeq (sSet 4 lM6) (sSeq (sSet 5 (cll (aCons (dVar 2) (aCons (dVar 4) aNil)) d_answer)) (sSeq lS8 (sSeq lS9 (sSeq (sSet 6 (cll (aCons (dVar 2) (aCons (bop gAdd (dVar 4) lC) aNil)) d_answer)) (sRet lR11)))))))))) := rfl
theorem num_at (ns : List Int) (i n : Nat) (hi : i < 1000) (hn : n ≤ 100) : ∃ xs : List Int, xs.length = n ∧ ∀ x W y m f a v k l st : Option D, numF (i : Int) (n : Int) (LE ns x W y m f a v k l st) = some (.lst (xs.map D.int)) := by
  obtain ⟨c, hc⟩ := law_cell_ok ns i hi
  obtain ⟨xs, hl, hx⟩ := law_numbers_ok c n hn
  refine ⟨xs, hl, fun x W y m f a v k l st => ?_⟩
  unfold numF
  exact (cll2 (x := .int c) (y := .int (n : Int)) ((cll2 (x := .scr ns) (y := .int (i : Int)) rfl rfl).trans hc) rfl).trans hx
theorem sT4_of {f : Env → Option D} {ns : List Int} {x v0 k0 l0 s0 : Option D} {v k l st : D} (h : f (LE ns x none none none none none v0 k0 l0 s0) = some (.tup [v, k, l, st])) : sT4 f (LE ns x none none none none none v0 k0 l0 s0) = some (.nx (LE ns x none none none none none (some v) (some k) (some l) (some st))) := by
  unfold sT4
  rw [h]
  rfl
theorem bad_ok (W : D) : ∀ i : Nat, i < 5 → ∃ d, gIx (.lst [.int (-1), .int 5001, .bl true, .non, .str "9"]) (.int (i : Int)) = some d ∧ d_law_refused [W, d] = some (.bl true)
  | 0, _ => ⟨.int (-1), rfl, rfl⟩
  | 1, _ => ⟨.int 5001, rfl, rfl⟩
  | 2, _ => ⟨.bl true, rfl, rfl⟩
  | 3, _ => ⟨.non, rfl, rfl⟩
  | 4, _ => ⟨.str "9", rfl, rfl⟩
  | n + 5, h => by omega
/-- behind the wish -/
theorem behind_wish {v k l : Nat} {st : List (List Int)} (w : WOk v k l) (hst : ∀ m ∈ st, BOk v k m) (h9 : st ≠ [] → v ≤ 9) (hlen : st.length ≤ 1000) (ns : List Int) (x vo ko lo so : Option D) :
    outD (sSeq (sSet 3 (numF 2 4)) (sSeq (sSet 4 lM6) (sSeq (sSet 5 (cll (aCons (dVar 2) (aCons (dVar 4) aNil)) d_answer)) (sSeq lS8 (sSeq lS9 (sSeq (sSet 6 (cll (aCons (dVar 2) (aCons (bop gAdd (dVar 4) lC) aNil)) d_answer)) (sRet lR11)))))) (LE ns x (some (WD v k l st)) none none none none vo ko lo so)) = some (.bl true) := by
  obtain ⟨ys, hy, ny⟩ := num_at ns 2 4 (by decide) (by decide)
  obtain ⟨y0, y1, y2, y3, rfl⟩ : ∃ y0 y1 y2 y3, ys = [y0, y1, y2, y3] := match ys, hy with
    | [y0, y1, y2, y3], _ => ⟨y0, y1, y2, y3, rfl⟩
  let W := WD v k l st
  let Y : Option D := some (.lst ([y0, y1, y2, y3].map D.int))
  let E : Option D → Option D → Option D → Env := fun m f a => LE ns x (some W) Y m f a vo ko lo so
  rw [sSeq_of (e := E none none none) (sSet_of (ny x (some W) none none none none vo ko lo so))]
  -- most
  obtain ⟨b0, hb0, g0⟩ := gMod_lt y0 (n := 61) (by decide)
  obtain ⟨b1, hb1, g1⟩ := gMod_lt y1 (n := 16) (by decide)
  obtain ⟨m, hm, hm2⟩ : ∃ m : Nat, m ≤ 300 ∧ lM6 (E none none none) = some (.int (m : Int)) := by
    have ls := nLst_of (aCons_of (e := E none none none) ((bop_of (fa := bop gIx (dVar 3) (dC (.int 0))) (fb := dC (.int 61)) (x := .int y0) rfl rfl).trans g0) (aCons_of (x := .int 300) (fa := dC (.int 300)) (fr := aNil) rfl rfl)) (by simp)
    have gi : cll (aCons (bop gEq (bop gMod (bop gIx (dVar 3) (dC (.int 1))) (dC (.int 16))) (dC (.int 1))) aNil) gInt (E none none none) = some (.int (if ((b1 : Int) == 1) = true then 1 else 0)) := (cll1 (x := .bl ((b1 : Int) == 1)) ((bop_of (y := .int 1) ((bop_of (x := .int y1) rfl rfl).trans g1) rfl).trans (gEq_int _ _))).trans rfl
    have z := (bop_of (g := gIx) ls gi).trans (pick2 _ _ _)
    by_cases c : ((b1 : Int) == 1) = true
    · rw [if_pos c] at z
      exact ⟨300, Nat.le_refl _, z⟩
    · rw [if_neg c] at z
      exact ⟨b0, by omega, z⟩
  rw [sSeq_of (e := E (some (.int (m : Int))) none none) (sSet_of hm2)]
  -- the first answer
  obtain ⟨d, e1, R1, mo⟩ := answer_ok w hst h9 hlen (m : Int) (by omega) (by omega)
  let M : Option D := some (.int (m : Int))
  rw [sSeq_of (e := E M (some d) none) (sSet_of ((cll2 (x := W) (y := .int (m : Int)) rfl rfl).trans e1))]
  -- right and refused
  obtain ⟨b2, hb2, g2⟩ := gMod_lt y2 (n := 5) (by decide)
  obtain ⟨bd, hbd, hbr⟩ := bad_ok W b2 hb2
  have bad : lBad (E M (some d) none) = some bd := (bop_of (x := .lst [.int (-1), .int 5001, .bl true, .non, .str "9"]) (y := .int (b2 : Int)) rfl ((bop_of (x := .int y2) rfl rfl).trans g2)).trans hbd
  have t8 : tOrD (tNotD (tOfD (cll (aCons (dVar 2) (aCons (dVar 5) aNil)) d_law_right))) (tNotD (tOfD (cll (aCons (dVar 2) (aCons lBad aNil)) d_law_refused))) (E M (some d) none) = some false :=
    tOrD_of (b := false) (tNotD_of (b := true) (tOfD_of ((cll2 (x := W) (y := d) rfl rfl).trans (law_right_ok R1)))) fun _ => tNotD_of (b := true) (tOfD_of ((cll2 (x := W) (y := bd) rfl bad).trans hbr))
  rw [sSeq_of (f := lS8) (e := E M (some d) none) (sIf_skip t8)]
  -- more choices
  obtain ⟨b3, hb3, g3⟩ := gMod_lt y3 (n := 100) (by decide)
  have lc : ∀ m f a, lC (E m f a) = some (.int (b3 : Int)) := fun m f a => (bop_of (x := .int y3) rfl rfl).trans g3
  obtain ⟨m2, h1, h2, s9⟩ : ∃ m2 : Nat, m ≤ m2 + b3 ∧ m2 + b3 ≤ 5000 ∧ lS9 (E M (some d) none) = some (.nx (E (some (.int (m2 : Int))) (some d) none)) := by
    obtain ⟨c, hc⟩ : ∃ c, lT9 (E M (some d) none) = some c := by
      have n1 : tOfD (bop gEq (bop gIx (dVar 2) (dC (.int 3))) (dTup aNil)) (E M (some d) none) = some st.isEmpty := tOfD_of ((bop_of (x := .tup (st.map tI)) (y := .tup []) rfl rfl).trans (gEq_eqD (st_nil st)))
      have n2 : tOfD (bop gLt (bop gIx (dVar 2) (dC (.int 1))) (bop gIx (dVar 2) (dC (.int 0)))) (E M (some d) none) = some (decide ((k : Int) < (v : Int))) := rfl
      have n3 : tOfD (bop gGt (bop gMod (bop gMul (bop gIx (dVar 2) (dC (.int 2))) (bop gSub (bop gIx (dVar 2) (dC (.int 0))) (dC (.int 1)))) (bop gSub (bop gIx (dVar 2) (dC (.int 1))) (dC (.int 1)))) (dC (.int 0))) (E M (some d) none) = some (decide ((0 : Int) < ((l : Int) * ((v : Int) - 1)).fmod ((k : Int) - 1))) := by
        have w1 := w.v200
        have w2 := w.k2
        have a1 : bop gMul (bop gIx (dVar 2) (dC (.int 2))) (bop gSub (bop gIx (dVar 2) (dC (.int 0))) (dC (.int 1))) (E M (some d) none) = some (.int ((l : Int) * ((v : Int) - 1))) := (bop_of (x := .int (l : Int)) (y := .int ((v : Int) - 1)) rfl rfl).trans (gMul_of (by omega))
        have a2 : bop gMod (bop gMul (bop gIx (dVar 2) (dC (.int 2))) (bop gSub (bop gIx (dVar 2) (dC (.int 0))) (dC (.int 1)))) (bop gSub (bop gIx (dVar 2) (dC (.int 1))) (dC (.int 1))) (E M (some d) none) = some (.int (((l : Int) * ((v : Int) - 1)).fmod ((k : Int) - 1))) := (bop_of (y := .int ((k : Int) - 1)) a1 rfl).trans (gMod_of (by omega))
        exact tOfD_of ((bop_of (y := .int 0) a2 rfl).trans rfl)
      exact ⟨_, tAndD_of n1 fun _ => tAndD_of n2 fun _ => n3⟩
    cases c with
    | false => exact ⟨m, by omega, by omega, sIf_skip hc⟩
    | true =>
      refine ⟨5000 - b3, by omega, by omega, sIf_t hc (sSet_of (d := .int ((5000 - b3 : Nat) : Int)) ((bop_of (x := .int 5000) (y := .int (b3 : Int)) rfl (lc _ _ _)).trans ?_))⟩
      show some (D.int (5000 - (b3 : Int))) = _
      rw [show (5000 : Int) - (b3 : Int) = ((5000 - b3 : Nat) : Int) by omega]
  rw [sSeq_of s9]
  -- the second answer
  obtain ⟨d2, e2, R2, _⟩ := answer_ok w hst h9 hlen ((m2 : Int) + (b3 : Int)) (by omega) (by omega)
  let M2 : Option D := some (.int (m2 : Int))
  have m3 : bop gAdd (dVar 4) lC (E M2 (some d) none) = some (.int ((m2 : Int) + (b3 : Int))) := (bop_of (x := .int (m2 : Int)) (y := .int (b3 : Int)) rfl (lc _ _ _)).trans rfl
  rw [sSeq_of (e := E M2 (some d) (some d2)) (sSet_of ((cll2 (x := W) (y := .int ((m2 : Int) + (b3 : Int))) rfl m3).trans e2))]
  -- the end
  have fin : lR11 (E M2 (some d) (some d2)) = some (.bl true) := by
    refine dAndV_true ((cll2 (x := W) (y := d2) rfl rfl).trans (law_right_ok R2)) ?_
    obtain ⟨c, hc, hne⟩ := R1.opens
    have o1 : bop gEq (dVar 5) (dTup (aCons (dC (.str "open")) aNil)) (E M2 (some d) (some d2)) = some (.bl c) := (bop_of (x := d) (y := .tup [.str "open"]) rfl rfl).trans hc
    unfold dOrV
    rw [o1]
    cases c with
    | true => rfl
    | false =>
      have same := mo (hne rfl) ((m2 : Int) + (b3 : Int)) (by omega) (by omega)
      rw [e2] at same
      cases same
      obtain ⟨s, r, rfl, hs, _⟩ := R1.word
      refine (bop_of (x := .str s) (y := .str s) ((bop_of (x := .tup (.str s :: r)) (y := .int 0) rfl rfl).trans (gIx_head _ _)) ((bop_of (x := .tup (.str s :: r)) (y := .int 0) rfl rfl).trans (gIx_head _ _))).trans ?_
      rw [gEq_str hs hs]
      simp
  rw [sRet_at fin]
  rfl
theorem law_true (ns : List Int) : d_law [.scr ns] = some (.bl true) := by
  unfold d_law
  rw [show runD 1 11 g_law [.scr ns] = outD (g_law (LE ns none none none none none none none none none none)) from rfl, law_is]
  obtain ⟨xs, hx, nx⟩ := num_at ns 0 9 (by decide) (by decide)
  let X : Option D := some (.lst (xs.map D.int))
  rw [sSeq_of (e := LE ns X none none none none none none none none none) (sSet_of (nx _ _ _ _ _ _ _ _ _ _))]
  obtain ⟨v, k, l, st, e1, h1, h2, h3, h4, h5, h6, h7, h8⟩ := near_ok xs hx
  rw [sSeq_of (sT4_of (f := cll (aCons (dVar 1) aNil) d_law_near_wish) ((cll1 (x := .lst (xs.map D.int)) rfl).trans e1))]
  -- the wish
  obtain ⟨v', k', l', st', s3, i1, i2, i3, i4, i5, i6, i7, i8⟩ : ∃ (v' k' l' : Nat) (st' : List (List Int)), lS3 (LE ns X none none none none none (some (.int (v : Int))) (some (.int (k : Int))) (some (.int (l : Int))) (some (.tup (st.map tI)))) = some (.nx (LE ns X none none none none none (some (.int (v' : Int))) (some (.int (k' : Int))) (some (.int (l' : Int))) (some (.tup (st'.map tI))))) ∧ 2 ≤ v' ∧ v' ≤ 200 ∧ 2 ≤ k' ∧ k' ≤ v' ∧ 1 ≤ l' ∧ (st' ≠ [] → v' ≤ 9) ∧ st'.length ≤ 1000 ∧ ∀ m ∈ st', BOk v' k' m := by
    obtain ⟨zs, hz, nz⟩ := num_at ns 1 1 (by decide) (by decide)
    obtain ⟨z, rfl⟩ : ∃ z, zs = [z] := match zs, hz with
      | [z], _ => ⟨z, rfl⟩
    obtain ⟨b, hb, g⟩ := gMod_lt z (n := 2) (by decide)
    have t3 : tOfD (bop gEq (bop gMod (bop gIx (numF 1 1) (dC (.int 0))) (dC (.int 2))) (dC (.int 1))) (LE ns X none none none none none (some (.int (v : Int))) (some (.int (k : Int))) (some (.int (l : Int))) (some (.tup (st.map tI)))) = some ((b : Int) == 1) :=
      tOfD_of ((bop_of (y := .int 1) ((bop_of (x := .int z) ((bop_of (nz _ _ _ _ _ _ _ _ _ _) rfl).trans rfl) rfl).trans g) rfl).trans (gEq_int _ _))
    by_cases c : b = 1
    · obtain ⟨v', k', l', e2, j1, j2, j3, j4, j5⟩ := far_ok xs hx
      refine ⟨v', k', l', [], sIf_t (t3.trans (by rw [c]; rfl)) (sT4_of (f := cll (aCons (dVar 1) aNil) d_law_far_wish) ((cll1 (x := .lst (xs.map D.int)) rfl).trans e2)), j1, j2, j3, j4, j5, fun z => absurd rfl z, by simp, fun m hm => by cases hm⟩
    · exact ⟨v, k, l, st, sIf_skip (t3.trans (by rw [beq_eq_false_iff_ne.mpr (show (b : Int) ≠ 1 by omega)])), by omega, by omega, h3, h4, h5, fun _ => by omega, by omega, h8⟩
  rw [sSeq_of s3]
  obtain ⟨l2, q1, q2, q3⟩ : ∃ l2 : Nat, 1 ≤ l2 ∧ l2 ≤ 200 ∧ gMin2 [.int 200, .int (l' : Int)] = some (.int (l2 : Int)) := by
    have z : gMin2 [.int 200, .int (l' : Int)] = some (.int (if (l' : Int) < 200 then (l' : Int) else 200)) := rfl
    by_cases c : (l' : Int) < 200
    · rw [if_pos c] at z
      exact ⟨l', i5, by omega, z⟩
    · rw [if_neg c] at z
      exact ⟨200, by decide, by decide, z⟩
  have w : WOk v' k' l2 := ⟨i1, i2, i3, i4, q1, q2⟩
  let e := LE ns X none none none none none (some (.int (v' : Int))) (some (.int (k' : Int))) (some (.int (l' : Int))) (some (.tup (st'.map tI)))
  have args : aCons (dVar 7) (aCons (dVar 8) (aCons (cll (aCons (dC (.int 200)) (aCons (dVar 9) aNil)) gMin2) (aCons (dVar 10) aNil))) e = some [.int (v' : Int), .int (k' : Int), .int (l2 : Int), .tup (st'.map tI)] :=
    aCons_of rfl (aCons_of rfl (aCons_of ((cll2 (x := .int 200) (y := .int (l' : Int)) rfl rfl).trans q3) (aCons_of rfl rfl)))
  have s4 : cll (aCons (dVar 7) (aCons (dVar 8) (aCons (cll (aCons (dC (.int 200)) (aCons (dVar 9) aNil)) gMin2) (aCons (dVar 10) aNil)))) d_wish_of e = some (WD v' k' l2 st') := by
    unfold cll
    show bnd (aCons (dVar 7) (aCons (dVar 8) (aCons (cll (aCons (dC (.int 200)) (aCons (dVar 9) aNil)) gMin2) (aCons (dVar 10) aNil))) e) d_wish_of = _
    rw [args]
    exact wish_of_ok w i8 i6
  rw [sSeq_of (f := lS4) (e := LE ns X (some (WD v' k' l2 st')) none none none none (some (.int (v' : Int))) (some (.int (k' : Int))) (some (.int (l' : Int))) (some (.tup (st'.map tI)))) (sSet_of s4)]
  exact behind_wish w i8 i6 i7 ns X _ _ _ _
end EM
set_option maxHeartbeats 0
namespace EM
open PySem PySem.Spec PyProof.Rows L2
theorem facts {P : Program} {w : World} {K : PySem.W.Frag} {h : Heap} {mg : Str → Option Value} {f : Addr} (X : K.In h) (G : h.Ns mainGlobals mg) (hfa : mg ("law" : Str) = some (.ref f)) (c : obsK K = valL) :
    ∃ fd : FuncData, (∀ (s : Shared) (v : Value), BindsTo s fd ⟨[v], []⟩ [("_law_script", v)]) ∧ ∀ base : Heap, K.In base → base.Ns mainGlobals mg → FnOk P w K mg base CX0 217 f fd ["_law_script"] (spD K d_law) := by
  have T := TX.of X G c
  obtain ⟨fd, F⟩ := T.says.def_ 99 (d := dd_law) rfl
  have F : FunD K "law" "law" (defArgs (top 125)) (defBody (top 125)) (defScope (top 125)) [] [] (He.fAd K ("law", none)) fd := F
  have e := hfa.symm.trans (T.glo (x := "law") 109)
  cases e
  have b := FunD.bindsA (ps := ["_law_script"]) F fun _ _ _ _ _ _ us hl => match us, hl with | [_], _ => rfl
  exact ⟨fd, fun s v => b s [v] rfl, fun base _ _ => fn_law T F⟩
theorem promise {K : PySem.W.Frag} {H : Hp} {a : Addr} {ns : List Int} (hl : ns.length ≤ 63) (hS : SqL K H a (ns.map V.int)) : spD K d_law [.ref a] H (fun v _ => v = .bl true) fun _ _ _ => False :=
  ⟨H, [.scr ns], .bl true, .refl H, .cons (.scr hS) .nil, law_true ns, fun F' H' v _ r => by cases r; rfl⟩
end EM
open PySem PySem.W PySem.Calls PyProof.Rows
theorem PySem.Challenge.cw_evenmeet_k62_whole_answers_holds : PySem.Challenge.rw_evenmeet_k62_whole_answers.Holds := by
  w_on; o_law
  refine HandSHeadRun.head_any (r := OpenLaw.row PySem.Challenge.rw_evenmeet_k62_whole_answers) (q := view (OpenLaw.row PySem.Challenge.rw_evenmeet_k62_whole_answers).prog [125]) (H := EM.hookL) (ob := EM.ob) (M := 20000) (loose := EM.loose) (d := HandSHeadRun.topDef (OpenLaw.row PySem.Challenge.rw_evenmeet_k62_whole_answers).prog 125) (kwd := []) EM.ob_eq
    (by kernel_rfl) (fun s => by kernel_rfl) EM.run (by kernel_rfl) (by kernel_rfl) (by kernel_rfl) (by rfl) (by first | assumption | decide +kernel) (by decide +kernel) ⟨rfl, rfl, rfl, rfl, rfl, by decide +kernel⟩ ?hw ?hc
  case hw => w_witness2
  case hc =>
    refine L2.walk_ofE (l := PySem.Challenge.rw_evenmeet_k62_whole_answers) (n := 63) (k := 217) (x := "_law_script") (CX := L2.CX0) rfl (by decide) (by kernel_rfl) ⟨rfl, by decide, by decide⟩ ?F (fun _ _ _ _ z => z)
    intro w mg fa h Y G hmg0
    obtain ⟨K, KX, c⟩ := Y
    have hmg : mg ("law" : PySem.Str) = some (.ref fa) := by
      have e : (HandSHeadRun.topDef (OpenLaw.row PySem.Challenge.rw_evenmeet_k62_whole_answers).prog 125).name = ("law" : PySem.Str) := by kernel_rfl
      rw [← e]
      exact hmg0
    obtain ⟨fd, hb, hF⟩ := EM.facts (P := (PySem.Challenge.rw_evenmeet_k62_whole_answers).prog) (w := w) KX G hmg c
    exact ⟨K, fd, EM.spD K EM.d_law, KX, hb, fun H a ns hl _ hS => EM.promise hl hS, hF⟩
