import PyProof.Rows.All
import Wide.All
import OpenK.AllK
import Wide.FinOn
import HandS.ForMost
import HandS.ForExc
import HandS.EndBits
import HandS.Evl
import HandS.Lambda
import HandS.Rev
import HandS.Defaults
import HandS.IsInst
import HandS.TupAny
import HandS.Wide
import HandS.Style
import HandS.SortInts
import HandS.FStr
import HandS.More
import HandS.RaiseMore
import HandS.Dict
import HandS.Zip
import HandS.TupSets
import HandS.DictComp
import HandS.WideBits
import KE.GoesMore
import HandS.Conv
import HandS.SortRule
import HandS.SortKw
import PyProof.Rows.SeqMore
import HandS.SetFor
import HandS.ExcInit
import HandS.ExcField
import HandS.ExcOwn
import HandS.ExcIs
import KE.KIsAll
import KE.KExcIs
import KE.KLam
import KE.SortData
import KE.SortKeyHeap
import HandS.EndTab
import KE.KNestM
import PySem.Challenge.RW_burinleaf_k40_whole_an_outline_covers_ju
set_option Elab.async false
set_option linter.all false
set_option maxRecDepth 100000
set_option maxHeartbeats 2000000
namespace DL
open PySem L2
open Evl (Ex)

/-- data: a value by what it is; ref: a thing that is owned, or code -/
inductive D where
  | non | bl (b : Bool) | int (i : Int) | str (x : Str) | tup (xs : List D) | lst (xs : List D) | ref (a : Addr) | ty (n : String) | ptup (xs : List D)

mutual
inductive VR (K : PySem.W.Frag) (G : Hp) : V → D → Prop
  | non : VR K G .non .non
  | bl (b : Bool) : VR K G (.bl b) (.bl b)
  | int (i : Int) : VR K G (.int i) (.int i)
  | str (x : Str) : VR K G (.str x) (.str x)
  | ref (a : Addr) : VR K G (.ref a) (.ref a)
  | ty (n : String) : VR K G (.ty n) (.ty n)
  | tup {a : Addr} {vs : List V} {ds : List D} : SqT K G a vs → VRs K G vs ds → VR K G (.ref a) (.tup ds)
  | lst {a : Addr} {vs : List V} {ds : List D} : SqL K G a vs → VRs K G vs ds → VR K G (.ref a) (.lst ds)
  | ptup {a : Addr} {vs : List V} {ds : List D} : G a = some (.tup vs) → VRs K G vs ds → VR K G (.ref a) (.ptup ds)
inductive VRs (K : PySem.W.Frag) (G : Hp) : List V → List D → Prop
  | nil : VRs K G [] []
  | cons {v : V} {vs : List V} {d : D} {ds : List D} : VR K G v d → VRs K G vs ds → VRs K G (v :: vs) (d :: ds)
end

section
variable {K : PySem.W.Frag} {G G' : Hp}
mutual
theorem VR.mono (e : Ex G G') : ∀ {v : V} {d : D}, VR K G v d → VR K G' v d
  | _, _, .non => .non
  | _, _, .bl b => .bl b
  | _, _, .int b => .int b
  | _, _, .str b => .str b
  | _, _, .ref b => .ref b
  | _, _, .ty b => .ty b
  | _, _, .tup h r => .tup (Evl.ex_t e h) (VRs.mono e r)
  | _, _, .lst h r => .lst (Evl.ex_l e h) (VRs.mono e r)
  | _, _, .ptup h r => .ptup (e _ _ h) (VRs.mono e r)
theorem VRs.mono (e : Ex G G') : ∀ {vs : List V} {ds : List D}, VRs K G vs ds → VRs K G' vs ds
  | _, _, .nil => .nil
  | _, _, .cons h r => .cons (VR.mono e h) (VRs.mono e r)
end
theorem VRs.length : ∀ {vs : List V} {ds : List D}, VRs K G vs ds → vs.length = ds.length
  | _, _, .nil => rfl
  | _, _, .cons _ r => by rw [List.length_cons, List.length_cons, VRs.length r]
theorem VRs.get : ∀ {vs : List V} {ds : List D} {i : Nat} {d : D}, VRs K G vs ds → ds[i]? = some d → ∃ v, vs[i]? = some v ∧ VR K G v d
  | _, _, _, _, .nil, e => by simp at e
  | _, _, 0, _, .cons h _, e => by simp at e; subst e; exact ⟨_, rfl, h⟩
  | _, _, i + 1, d, .cons _ t, e => by
    obtain ⟨v, h1, h2⟩ := VRs.get (i := i) (d := d) t (by simpa using e)
    exact ⟨v, by simpa using h1, h2⟩
theorem VRs.getV : ∀ {vs : List V} {ds : List D} {i : Nat} {v : V}, VRs K G vs ds → vs[i]? = some v → ∃ d, ds[i]? = some d ∧ VR K G v d
  | _, _, _, _, .nil, e => by simp at e
  | _, _, 0, _, .cons h _, e => by simp at e; subst e; exact ⟨_, rfl, h⟩
  | _, _, i + 1, v, .cons _ t, e => by
    obtain ⟨d, h1, h2⟩ := VRs.getV (i := i) (v := v) t (by simpa using e)
    exact ⟨d, by simpa using h1, h2⟩
theorem VRs.append : ∀ {vs us : List V} {ds es : List D}, VRs K G vs ds → VRs K G us es → VRs K G (vs ++ us) (ds ++ es)
  | _, _, _, _, .nil, s => s
  | _, _, _, _, .cons r t, s => .cons r (VRs.append t s)
theorem VRs.set {x : V} {u : D} (r : VR K G x u) : ∀ {xs : List V} {us : List D} (i : Nat), VRs K G xs us → VRs K G (xs.set i x) (us.set i u)
  | _, _, _, .nil => .nil
  | _, _, 0, .cons _ t => .cons r t
  | _, _, i + 1, .cons q t => .cons q (VRs.set r i t)
theorem VRs.take : ∀ {xs : List V} {us : List D} (n : Nat), VRs K G xs us → VRs K G (xs.take n) (us.take n)
  | _, _, 0, _ => .nil
  | _, _, _ + 1, .nil => .nil
  | _, _, n + 1, .cons r t => .cons r (VRs.take n t)
theorem VRs.drop : ∀ {xs : List V} {us : List D} (n : Nat), VRs K G xs us → VRs K G (xs.drop n) (us.drop n)
  | _, _, 0, r => r
  | _, _, _ + 1, .nil => .nil
  | _, _, n + 1, .cons _ t => VRs.drop n t
theorem VRs.reverse : ∀ {xs : List V} {us : List D}, VRs K G xs us → VRs K G xs.reverse us.reverse
  | _, _, .nil => .nil
  | _, _, .cons r t => by
    rw [List.reverse_cons, List.reverse_cons]
    exact VRs.append (VRs.reverse t) (.cons r .nil)
theorem VRs.one {vs : List V} {d : D} (h : VRs K G vs [d]) : ∃ v, vs = [v] ∧ VR K G v d := by
  cases h with
  | cons h r => cases r; exact ⟨_, rfl, h⟩
theorem VRs.two {vs : List V} {d e : D} (h : VRs K G vs [d, e]) : ∃ v u, vs = [v, u] ∧ VR K G v d ∧ VR K G u e := by
  cases h with
  | cons h r => obtain ⟨u, rfl, hu⟩ := r.one; exact ⟨_, _, rfl, h, hu⟩
theorem VRs.ints : ∀ {vs : List V} {ns : List Int}, VRs K G vs (ns.map D.int) → vs = ns.map V.int
  | [], [], _ => rfl
  | _, [], h => by cases h; rfl
  | _, n :: ns, h => by
    cases h with
    | cons h r => cases h; rw [VRs.ints r]; rfl
theorem VRs.bls : ∀ {vs : List V} {ns : List Bool}, VRs K G vs (ns.map D.bl) → vs = ns.map V.bl
  | [], [], _ => rfl
  | _, [], h => by cases h; rfl
  | _, n :: ns, h => by
    cases h with
    | cons h r => cases h; rw [VRs.bls r]; rfl
theorem VRs.strs : ∀ {vs : List V} {ns : List Str}, VRs K G vs (ns.map D.str) → vs = ns.map V.str
  | [], [], _ => rfl
  | _, [], h => by cases h; rfl
  | _, n :: ns, h => by
    cases h with
    | cons h r => cases h; rw [VRs.strs r]; rfl
theorem VRs.ofInts : ∀ (ns : List Int), VRs K G (ns.map V.int) (ns.map D.int)
  | [] => .nil
  | n :: ns => .cons (.int n) (VRs.ofInts ns)
theorem VRs.ofStrs : ∀ (ns : List Str), VRs K G (ns.map V.str) (ns.map D.str)
  | [] => .nil
  | n :: ns => .cons (.str n) (VRs.ofStrs ns)
end

/-! ### what is owned -/
inductive DO where
  | lst (xs : List D) | dK (kvs : List (Key × D)) | dT (kvs : List (List Key × D)) | ins (C dx : Addr) (fs : List (Str × D)) | own (x : Addr) | xd (fs : List (Str × D)) | fK (od : Obj) (kvs : List (Key × V)) (es : List (Key × D)) | tab (q : Str)
abbrev Om := Addr → Option DO
def up (O : Om) (a : Addr) (o : DO) : Om := fun b => if b = a then some o else O b
theorem up_same {O : Om} {a : Addr} {o : DO} : up O a o a = some o := if_pos rfl
theorem up_ne {O : Om} {a b : Addr} {o : DO} (h : b ≠ a) : up O a o b = O b := if_neg h
theorem up_up {O : Om} {a : Addr} {o u : DO} : up (up O a o) a u = up O a u := by
  funext b; unfold up; split <;> rfl
def PR {A : Type} (K : PySem.W.Frag) (G : Hp) : List (A × V) → List (A × D) → Prop := Paired fun p q => p.1 = q.1 ∧ VR K G p.2 q.2
theorem PR.mono {A : Type} {K : PySem.W.Frag} {G G' : Hp} (e : Ex G G') {xs : List (A × V)} {ys : List (A × D)} (h : PR K G xs ys) : PR K G' xs ys :=
  Paired.mapP h fun _ _ z => ⟨z.1, z.2.mono e⟩
def OR (K : PySem.W.Frag) (G : Hp) : DO → HO → Prop
  | .lst ds, .lst vs => VRs K G vs ds
  | .dK es, .dK kvs => PR K G kvs es
  | .dT es, .dT kvs => PR K G kvs es
  | .ins C dx fs, .ins C' dx' vs => C = C' ∧ dx = dx' ∧ PR K G vs fs
  | .own x, .own y => x = y
  | .xd fs, .xd vs => PR K G vs fs
  | .tab q, .tbl ps => TriplesOk ps.toList ∧ ∀ (pos : Pos) (cv : Value), codeAmong pos ps.toList = some cv → ∃ c, cv = .ref c ∧ G c = some (LamX.CodeO c q)
  | .fK od kvs es, u => u = .frz od (.dK kvs) ∧ PR K G kvs es
  | _, _ => False
theorem OR.mono {K : PySem.W.Frag} {G G' : Hp} (e : Ex G G') : ∀ {o : DO} {u : HO}, OR K G o u → OR K G' o u := by
  intro o u h
  cases o <;> cases u <;> first
    | exact h.elim
    | exact VRs.mono e h
    | exact PR.mono e h
    | exact ⟨h.1, h.2.1, PR.mono e h.2.2⟩
    | exact ⟨h.1, PR.mono e h.2⟩
    | exact ⟨h.1, fun pos cv hc => let ⟨c, e1, e2⟩ := h.2 pos cv hc; ⟨c, e1, e _ _ e2⟩⟩
    | exact h
structure Rel (K : PySem.W.Frag) (G : Hp) (O : Om) (H : Hp) : Prop where
  g : Ex G H
  o : ∀ a o, O a = some o → G a = none ∧ ∃ u, H a = some u ∧ OR K G o u
/-- a step: what was not owned stands, what is new was owned or fresh -/
structure Go (K : PySem.W.Frag) (G : Hp) (O : Om) (H : Hp) (G' : Hp) (O' : Om) (H' : Hp) : Prop where
  rel : Rel K G' O' H'
  ex : Ex G G'
  fr : ∀ a o, O a = none → H a = some o → H' a = some o
  nwO : ∀ a o, O' a = some o → (∃ u, O a = some u) ∨ H a = none
  nwG : ∀ a o, G' a = some o → (∃ u, O a = some u) ∨ (∃ u, G a = some u) ∨ H a = none ∨ ∃ vs, H a = some (.tup vs)
theorem OR.noTup {K : PySem.W.Frag} {G : Hp} {o : DO} {vs : List V} (h : OR K G o (.tup vs)) : False := by
  cases o <;> first | exact h.elim | exact h | (cases h.1)
section
variable {K : PySem.W.Frag} {G G1 G2 : Hp} {O O1 O2 : Om} {H H1 H2 : Hp}
theorem Go.refl (r : Rel K G O H) : Go K G O H G O H := ⟨r, Ex.refl G, fun _ _ _ h => h, fun a o h => .inl ⟨o, h⟩, fun a o h => .inr (.inl ⟨o, h⟩)⟩
theorem Rel.fresh (r : Rel K G O H) {a : Addr} (h : H a = none) : O a = none ∧ G a = none := by
  refine ⟨?_, Evl.fresh_back r.g h⟩
  cases e : O a with
  | none => rfl
  | some o => obtain ⟨_, u, hu, _⟩ := r.o a o e; rw [h] at hu; cases hu
theorem Go.trans (r : Rel K G O H) (a : Go K G O H G1 O1 H1) (b : Go K G1 O1 H1 G2 O2 H2) : Go K G O H G2 O2 H2 := by
  refine ⟨b.rel, a.ex.trans b.ex, fun x o h1 h2 => ?_, fun x o h => ?_, fun x o h => ?_⟩
  · refine b.fr x o ?_ (a.fr x o h1 h2)
    cases e : O1 x with
    | none => rfl
    | some u =>
      rcases a.nwO x u e with ⟨w, hw⟩ | hn
      · rw [h1] at hw; cases hw
      · rw [h2] at hn; cases hn
  · rcases b.nwO x o h with ⟨w, hw⟩ | hn
    · exact a.nwO x w hw
    · cases e : O x with
      | some u => exact .inl ⟨u, rfl⟩
      | none =>
        cases e2 : H x with
        | none => exact .inr rfl
        | some u => rw [a.fr x u e e2] at hn; cases hn
  · rcases b.nwG x o h with ⟨w, hw⟩ | ⟨w, hw⟩ | hn | ⟨ts, hn⟩
    · rcases a.nwO x w hw with z | z
      · exact .inl z
      · exact .inr (.inr (.inl z))
    · exact a.nwG x w hw
    · cases e : O x with
      | some u => exact .inl ⟨u, rfl⟩
      | none =>
        cases e2 : H x with
        | none => exact .inr (.inr (.inl rfl))
        | some u => rw [a.fr x u e e2] at hn; cases hn
    · cases e : O x with
      | some u => exact .inl ⟨u, rfl⟩
      | none =>
        cases e2 : H x with
        | none => exact .inr (.inr (.inl rfl))
        | some u => rw [a.fr x u e e2] at hn; cases hn; exact .inr (.inr (.inr ⟨ts, rfl⟩))
/-- a new owned thing -/
theorem Go.new (r : Rel K G O H) {a : Addr} {o : DO} {u : HO} (h : H a = none) (q : OR K G o u) : Go K G O H G (up O a o) (upd H a u) := by
  obtain ⟨ho, hg⟩ := r.fresh h
  refine ⟨⟨fun x w e => ?_, fun x w e => ?_⟩, Ex.refl G, fun x w e1 e2 => ?_, fun x w e => ?_, fun x w e => .inr (.inl ⟨w, e⟩)⟩
  · rw [upd_ne (ne_of_none (r.g x w e) h)]; exact r.g x w e
  · by_cases hx : x = a
    · subst hx; rw [up_same] at e; cases e; exact ⟨hg, u, upd_same, q⟩
    · rw [up_ne hx] at e; obtain ⟨h1, v, h2, h3⟩ := r.o x w e; exact ⟨h1, v, by rw [upd_ne hx]; exact h2, h3⟩
  · rw [upd_ne (ne_of_none e2 h)]; exact e2
  · by_cases hx : x = a
    · subst hx; exact .inr h
    · rw [up_ne hx] at e; exact .inl ⟨w, e⟩
/-- an owned thing is written -/
theorem Go.write (r : Rel K G O H) {a : Addr} {o0 o : DO} {u : HO} (h : O a = some o0) (q : OR K G o u) : Go K G O H G (up O a o) (upd H a u) := by
  obtain ⟨hg, u0, hu, _⟩ := r.o a o0 h
  refine ⟨⟨fun x w e => ?_, fun x w e => ?_⟩, Ex.refl G, fun x w e1 e2 => ?_, fun x w e => ?_, fun x w e => .inr (.inl ⟨w, e⟩)⟩
  · rw [upd_ne (ne_of_none e hg)]; exact r.g x w e
  · by_cases hx : x = a
    · subst hx; rw [up_same] at e; cases e; exact ⟨hg, u, upd_same, q⟩
    · rw [up_ne hx] at e; obtain ⟨h1, v, h2, h3⟩ := r.o x w e; exact ⟨h1, v, by rw [upd_ne hx]; exact h2, h3⟩
  · rw [upd_ne]
    · exact e2
    · intro z; subst z; rw [h] at e1; cases e1
  · by_cases hx : x = a
    · subst hx; exact .inl ⟨o0, h⟩
    · rw [up_ne hx] at e; exact .inl ⟨w, e⟩
/-- a new settled thing (a tuple, a list) -/
theorem Go.data (r : Rel K G O H) {a : Addr} {u : HO} (h : H a = none) : Go K G O H (upd G a u) O (upd H a u) := by
  obtain ⟨ho, hg⟩ := r.fresh h
  have e1 : Ex G (upd G a u) := Ex.new hg
  refine ⟨⟨fun x w e => ?_, fun x w e => ?_⟩, e1, fun x w _ e2 => ?_, fun x w e => .inl ⟨w, e⟩, fun x w e => ?_⟩
  · by_cases hx : x = a
    · subst hx; rw [upd_same] at e ⊢; exact e
    · rw [upd_ne hx] at e ⊢; exact r.g x w e
  · have hx : x ≠ a := fun z => by subst z; rw [ho] at e; cases e
    obtain ⟨h1, v, h2, h3⟩ := r.o x w e
    exact ⟨by rw [upd_ne hx]; exact h1, v, by rw [upd_ne hx]; exact h2, h3.mono e1⟩
  · rw [upd_ne (ne_of_none e2 h)]; exact e2
  · by_cases hx : x = a
    · subst hx; exact .inr (.inr (.inl h))
    · rw [upd_ne hx] at e; exact .inr (.inl ⟨w, e⟩)
/-- the frame: one more owned thing that is not touched -/
theorem Go.frame {O' : Om} {H' : Hp} (g : Go K G O H G1 O' H') {a : Addr} {o : DO} {u : HO} (ho : O a = none) (hg : G a = none) (hu : H a = some u) (q : OR K G o u) : O' a = none ∧ H' a = some u ∧ Go K G (up O a o) H G1 (up O' a o) H' := by
  have nO : O' a = none := by
    cases e : O' a with
    | none => rfl
    | some w =>
      rcases g.nwO a w e with ⟨z, hz⟩ | hn
      · rw [ho] at hz; cases hz
      · rw [hu] at hn; cases hn
  have nG : G1 a = none := by
    cases e : G1 a with
    | none => rfl
    | some w =>
      rcases g.nwG a w e with ⟨z, hz⟩ | ⟨z, hz⟩ | hn | ⟨ts, hn⟩
      · rw [ho] at hz; cases hz
      · rw [hg] at hz; cases hz
      · rw [hu] at hn; cases hn
      · rw [hu] at hn; cases hn; exact q.noTup.elim
  have hu' := g.fr a u ho hu
  refine ⟨nO, hu', ⟨g.rel.g, fun b w e => ?_⟩, g.ex, fun b w h1 h2 => ?_, fun b w e => ?_, fun b w e => ?_⟩
  · by_cases hb : b = a
    · subst hb; rw [up_same] at e; cases e; exact ⟨nG, u, hu', q.mono g.ex⟩
    · rw [up_ne hb] at e; exact g.rel.o b w e
  · by_cases hb : b = a
    · subst hb; rw [up_same] at h1; cases h1
    · rw [up_ne hb] at h1; exact g.fr b w h1 h2
  · by_cases hb : b = a
    · subst hb; exact .inl ⟨o, up_same⟩
    · rw [up_ne hb] at e
      rcases g.nwO b w e with ⟨z, hz⟩ | hn
      · exact .inl ⟨z, by rw [up_ne hb]; exact hz⟩
      · exact .inr hn
  · rcases g.nwG b w e with ⟨z, hz⟩ | z | hn
    · exact .inl ⟨z, by rw [up_ne (fun q => by subst q; rw [ho] at hz; cases hz)]; exact hz⟩
    · exact .inr (.inl z)
    · exact .inr (.inr hn)
/-- less is known -/
theorem Rel.less (r : Rel K G O H) (h : ∀ a o, O1 a = some o → O a = some o) : Rel K G O1 H := ⟨r.g, fun a o e => r.o a o (h a o e)⟩
theorem Go.less (g : Go K G O H G1 O1 H1) (h : ∀ a o, O2 a = some o → O1 a = some o) : Go K G O H G1 O2 H1 := ⟨g.rel.less h, g.ex, g.fr, fun a o e => g.nwO a o (h a o e), g.nwG⟩
end

/-! ### what is read as a row -/
def seqOf (O : Om) : D → Option (List D)
  | .tup xs => some xs
  | .lst xs => some xs
  | .ref a => match O a with | some (.lst xs) => some xs | _ => none
  | _ => none
/-- a list -/
def lstOf (O : Om) : D → Option (List D)
  | .lst xs => some xs
  | .ref a => match O a with | some (.lst xs) => some xs | _ => none
  | _ => none
section
variable {K : PySem.W.Frag} {G : Hp} {O : Om} {H : Hp}
theorem Rel.lst (r : Rel K G O H) {a : Addr} {xs : List D} (h : O a = some (.lst xs)) : ∃ vs, H a = some (.lst vs) ∧ VRs K G vs xs := by
  obtain ⟨_, u, hu, q⟩ := r.o a _ h
  cases u <;> first | exact q.elim | exact ⟨_, hu, q⟩
theorem Rel.lstOf (r : Rel K G O H) {v : V} {x : D} {xs : List D} (hv : VR K G v x) (h : DL.lstOf O x = some xs) : ∃ a vs, v = .ref a ∧ SqL K H a vs ∧ VRs K G vs xs := by
  cases hv with
  | lst h1 h2 =>
    cases h
    exact ⟨_, _, rfl, Evl.ex_l r.g h1, h2⟩
  | ref a =>
    unfold DL.lstOf at h
    cases e : O a with
    | none => simp only [e] at h; cases h
    | some o =>
      cases o <;> simp only [e] at h <;> cases h
      obtain ⟨vs, h1, h2⟩ := r.lst e
      exact ⟨a, vs, rfl, SqL.of h1, h2⟩
  | _ => cases h
theorem Rel.seqOf (r : Rel K G O H) {v : V} {x : D} {xs : List D} (hv : VR K G v x) (h : DL.seqOf O x = some xs) : ∃ a vs, v = .ref a ∧ (SqL K H a vs ∨ SqT K H a vs) ∧ VRs K G vs xs := by
  cases hv with
  | lst h1 h2 =>
    cases h
    exact ⟨_, _, rfl, .inl (Evl.ex_l r.g h1), h2⟩
  | tup h1 h2 =>
    cases h
    exact ⟨_, _, rfl, .inr (Evl.ex_t r.g h1), h2⟩
  | ref a =>
    unfold DL.seqOf at h
    cases e : O a with
    | none => simp only [e] at h; cases h
    | some o =>
      cases o <;> simp only [e] at h <;> cases h
      obtain ⟨vs, h1, h2⟩ := r.lst e
      exact ⟨a, vs, rfl, .inl (SqL.of h1), h2⟩
  | _ => cases h
end

/-! ### states, readings -/
abbrev Gm := List (Option D)
abbrev DE := Gm → Om → (D → Om → Prop) → Prop
abbrev DT := Gm → Om → (Bool → Om → Prop) → Prop
abbrev DA := Gm → Om → (List D → Om → Prop) → Prop
structure DEnds where
  nx : Gm → Om → Prop
  rt : D → Om → Prop
  bk : Gm → Om → Prop := fun _ _ => False
  ct : Gm → Om → Prop := fun _ _ => False
  xc : Value → Option Addr → Gm → Om → Prop := fun _ _ _ _ => False
abbrev DS := DEnds → Gm → Om → Prop
structure GR (K : PySem.W.Frag) (G : Hp) (s : St) (g : Gm) : Prop where
  len : s.length = g.length
  get : ∀ (i : Nat) (d : D), g[i]? = some (some d) → ∃ v, s[i]? = some (some v) ∧ VR K G v d
theorem GR.mono {K : PySem.W.Frag} {G G' : Hp} {s : St} {g : Gm} (e : Ex G G') (h : GR K G s g) : GR K G' s g := ⟨h.len, fun i d q => by
  obtain ⟨v, h1, h2⟩ := h.get i d q
  exact ⟨v, h1, h2.mono e⟩⟩
theorem GR.set {K : PySem.W.Frag} {G : Hp} {s : St} {g : Gm} {v : V} {d : D} (h : GR K G s g) (i : Nat) (hv : VR K G v d) : GR K G (s.set i (some v)) (g.set i (some d)) := by
  refine ⟨by rw [List.length_set, List.length_set]; exact h.len, fun j e q => ?_⟩
  by_cases hj : i = j
  · subst hj
    by_cases hl : i < g.length
    · rw [List.getElem?_set_self hl] at q
      cases q
      exact ⟨v, List.getElem?_set_self (by rw [h.len]; exact hl), hv⟩
    · rw [List.getElem?_eq_none (by simpa using hl)] at q; cases q
  · rw [List.getElem?_set_ne hj] at q ⊢
    exact h.get j e q
theorem GR.forget {K : PySem.W.Frag} {G : Hp} {s : St} {g : Gm} (h : GR K G s g) (i : Nat) (w : Option V) : GR K G (s.set i w) (g.set i none) := by
  refine ⟨by rw [List.length_set, List.length_set]; exact h.len, fun j e q => ?_⟩
  by_cases hj : i = j
  · subst hj
    by_cases hl : i < g.length
    · rw [List.getElem?_set_self hl] at q; cases q
    · rw [List.getElem?_eq_none (by simpa using hl)] at q; cases q
  · rw [List.getElem?_set_ne hj] at q ⊢
    exact h.get j e q
/-- less is known of the slots -/
def Le (g' g : Gm) : Prop := g'.length = g.length ∧ ∀ (i : Nat) (d : D), g'[i]? = some (some d) → g[i]? = some (some d)
theorem GR.le {K : PySem.W.Frag} {G : Hp} {s : St} {g g' : Gm} (h : GR K G s g) (l : Le g' g) : GR K G s g' := ⟨h.len.trans l.1.symm, fun i d q => h.get i d (l.2 i d q)⟩

def lowE (K : PySem.W.Frag) (t : DE) : TE := fun s H Q => ∃ (G : Hp) (O : Om) (g : Gm) (R : D → Om → Prop), Rel K G O H ∧ GR K G s g ∧ t g O R ∧ ∀ x O' v G' H', Go K G O H G' O' H' → VR K G' v x → R x O' → Q v H'
def lowT (K : PySem.W.Frag) (t : DT) : TT := fun s H Q => ∃ (G : Hp) (O : Om) (g : Gm) (R : Bool → Om → Prop), Rel K G O H ∧ GR K G s g ∧ t g O R ∧ ∀ b O' G' H', Go K G O H G' O' H' → R b O' → Q b H'
def lowA (K : PySem.W.Frag) (n : Nat) (t : DA) : TA := fun s H Q => ∃ (G : Hp) (O : Om) (g : Gm) (R : List D → Om → Prop), Rel K G O H ∧ GR K G s g ∧ t g O R ∧ ∀ xs O' vs G' H', Go K G O H G' O' H' → VRs K G' vs xs → xs.length = n → R xs O' → Q vs H'
structure EndsR (K : PySem.W.Frag) (W : WX) (G : Hp) (O : Om) (H : Hp) (F : DEnds) (E : Ends) : Prop where
  nx : ∀ s' g' O' G' H', Go K G O H G' O' H' → GR K G' s' g' → F.nx g' O' → E.nx s' H'
  bk : ∀ s' g' O' G' H', Go K G O H G' O' H' → GR K G' s' g' → F.bk g' O' → E.bk s' H'
  ct : ∀ s' g' O' G' H', Go K G O H G' O' H' → GR K G' s' g' → F.ct g' O' → E.ct s' H'
  rt : ∀ x O' v G' H', Go K G O H G' O' H' → VR K G' v x → F.rt x O' → E.rt v H'
  xc : ∀ c d s' g' O' G' H', Go K G O H G' O' H' → GR K G' s' g' → F.xc c d g' O' → W c d s' H'
theorem EndsR.from {K : PySem.W.Frag} {W : WX} {G G1 : Hp} {O O1 : Om} {H H1 : Hp} {F : DEnds} {E : Ends} (r : Rel K G O H) (h : EndsR K W G O H F E) (g : Go K G O H G1 O1 H1) : EndsR K W G1 O1 H1 F E :=
  ⟨fun s' g' O' G' H' z => h.nx s' g' O' G' H' (g.trans r z), fun s' g' O' G' H' z => h.bk s' g' O' G' H' (g.trans r z), fun s' g' O' G' H' z => h.ct s' g' O' G' H' (g.trans r z),
   fun x O' v G' H' z => h.rt x O' v G' H' (g.trans r z), fun c d s' g' O' G' H' z => h.xc c d s' g' O' G' H' (g.trans r z)⟩
def lowS (K : PySem.W.Frag) (W : WX) (t : DS) : TS := fun E s H => ∃ (G : Hp) (O : Om) (g : Gm) (F : DEnds), Rel K G O H ∧ GR K G s g ∧ t F g O ∧ EndsR K W G O H F E
end DL
set_option Elab.async false
set_option linter.all false
set_option maxRecDepth 100000
set_option maxHeartbeats 2000000
namespace DL
open PySem L2
open Evl (Ex)

theorem PE.by {X : Cx} {e : Expr} {t t' : TE} (h : PE X e t) (k : ∀ s H Q, t' s H Q → t s H Q) : PE X e t' := ⟨fun pins s σ H Q I q => h.run pins s σ H Q I (k σ H Q q)⟩
theorem PT.by {X : Cx} {e : Expr} {t t' : TT} (h : PT X e t) (k : ∀ s H Q, t' s H Q → t s H Q) : PT X e t' := ⟨fun pins s σ H Q I q => h.run pins s σ H Q I (k σ H Q q)⟩
theorem PW.by {X : Cx} {e : Expr} {t t' : TT} (h : PW X e t) (k : ∀ s H Q, t' s H Q → t s H Q) : PW X e t' := ⟨fun w pins s σ H Q I q => h.run w pins s σ H Q I (k σ H Q q)⟩
theorem PA.by {X : Cx} {e : List Expr} {t t' : TA} (h : PA X e t) (k : ∀ s H Q, t' s H Q → t s H Q) : PA X e t' := ⟨fun p pins s σ H Q I q => h.run p pins s σ H Q I (k σ H Q q)⟩
theorem OpR.or {X : Cx} {f : Value → Value → Sem Value} {r r' : R2} (h : OpR X f r) (h' : OpR X f r') : OpR X f (fun x y H Q => r x y H Q ∨ r' x y H Q) := by
  intro pins s σ H x y v u Q I rx ry q
  rcases q with q | q
  · exact h pins s σ H x y v u Q I rx ry q
  · exact h' pins s σ H x y v u Q I rx ry q
theorem CallR.or {X : Cx} {f : Value} {r r' : List V → Hp → VK → Prop} (h : CallR X f r) (h' : CallR X f r') : CallR X f (fun x H Q => r x H Q ∨ r' x H Q) := by
  intro pins s σ H x v Q I rx q
  rcases q with q | q
  · exact h pins s σ H x v Q I rx q
  · exact h' pins s σ H x v Q I rx q

/-! ### D-operations -/
abbrev D2 := D → D → Om → (D → Om → Prop) → Prop
abbrev D1 := D → Om → (D → Om → Prop) → Prop
abbrev DC := List D → Om → (D → Om → Prop) → Prop
def Bk (K : PySem.W.Frag) (G : Hp) (O : Om) (H : Hp) (R : D → Om → Prop) (Q : VK) : Prop := ∀ x O' v G' H', Go K G O H G' O' H' → VR K G' v x → R x O' → Q v H'
def OpS (K : PySem.W.Frag) (r : R2) (d : D2) : Prop := ∀ {G O H x y v u R Q}, Rel K G O H → VR K G v x → VR K G u y → d x y O R → Bk K G O H R Q → r v u H Q
def UnS (K : PySem.W.Frag) (r : V → Hp → VK → Prop) (d : D1) : Prop := ∀ {G O H x v R Q}, Rel K G O H → VR K G v x → d x O R → Bk K G O H R Q → r v H Q
def CaS (K : PySem.W.Frag) (r : List V → Hp → VK → Prop) (d : DC) : Prop := ∀ {G O H xs vs R Q}, Rel K G O H → VRs K G vs xs → d xs O R → Bk K G O H R Q → r vs H Q
theorem Bk.here {K : PySem.W.Frag} {G : Hp} {O : Om} {H : Hp} {R : D → Om → Prop} {Q : VK} {x : D} {v : V} (k : Bk K G O H R Q) (r : Rel K G O H) (hv : VR K G v x) (h : R x O) : Q v H := k x O v G H (Go.refl r) hv h
theorem Bk.lst {K : PySem.W.Frag} {G : Hp} {O : Om} {H : Hp} {R : D → Om → Prop} {Q : VK} {xs : List D} {vs : List V} (k : Bk K G O H R Q) (r : Rel K G O H) (hv : VRs K G vs xs) (h : ∀ p, O p = none → R (.ref p) (up O p (.lst xs))) : ∀ p, H p = none → Q (.ref p) (upd H p (.lst vs)) := fun p hp =>
  k _ _ _ _ _ (Go.new r (o := .lst xs) (u := .lst vs) hp hv) (.ref p) (h p (r.fresh hp).1)
theorem Bk.tup {K : PySem.W.Frag} {G : Hp} {O : Om} {H : Hp} {R : D → Om → Prop} {Q : VK} {xs : List D} {vs : List V} (k : Bk K G O H R Q) (r : Rel K G O H) (hv : VRs K G vs xs) (h : R (.tup xs) O) : ∀ p, H p = none → Q (.ref p) (upd H p (.tup vs)) := fun p hp => by
  have g := Go.data r (u := .tup vs) hp
  exact k _ _ _ _ _ g (.tup (SqT.of upd_same) (hv.mono g.ex)) h

section
variable {X : Cx} {a b c : Expr} {ta tb tc : DE} {pos : Pos}
/-! ### names, constants -/
def dVar (i : Nat) : DE := fun g O R => match g[i]? with | some (some d) => R d O | _ => False
def dC (d : D) : DE := fun _ O R => R d O
theorem e_v (i : Nat) {x : Str} {pos : Pos} (hN : X.N[i]? = some x := by rfl) (hv : Vis X.env.scope x := by first | exact Or.inl rfl | exact Or.inr (Or.inl rfl) | exact Or.inr (Or.inr rfl)) (hd : (x == ("__debug__" : Str)) = false := by decide)
    (hcd : (x == ("__classdict__" : Str)) = false := by decide) : PE X (.Name x pos) (lowE X.K (dVar i)) :=
  PE.by (pe_var hN hv hd hcd) fun s H Q ⟨G, O, g, R, r, gr, h, k⟩ => by
    unfold dVar at h
    split at h
    · rename_i d e
      obtain ⟨v, h1, h2⟩ := gr.get i d e
      exact ⟨v, h1, k _ _ _ _ _ (Go.refl r) h2 h⟩
    · exact h.elim
theorem low_c {K : PySem.W.Frag} {v : V} {d : D} (hv : ∀ G, VR K G v d) : ∀ s H Q, lowE K (dC d) s H Q → tC v s H Q := fun s H Q ⟨G, O, g, R, r, gr, h, k⟩ => k _ _ _ _ _ (Go.refl r) (hv G) h
theorem e_int {i j pos} : PE X (.Constant (.int i) j pos) (lowE X.K (dC (.int i))) := PE.by pe_int (low_c fun _ => .int i)
theorem e_bl {i j pos} : PE X (.Constant (.bool i) j pos) (lowE X.K (dC (.bl i))) := PE.by pe_bl (low_c fun _ => .bl i)
theorem e_non {j pos} : PE X (.Constant .none j pos) (lowE X.K (dC .non)) := PE.by pe_non (low_c fun _ => .non)
theorem e_str {i j pos} : PE X (.Constant (.str i) j pos) (lowE X.K (dC (.str i))) := PE.by pe_str (low_c fun _ => .str i)
theorem e_glob {x : Str} {v : V} {u : Value} {d : D} {pos : Pos} (hg : Gl X x) (hm : X.mg x = some u) (r : RelV v u) (hv : ∀ G, VR X.K G v d) (hd : (x == ("__debug__" : Str)) = false := by decide) : PE X (.Name x pos) (lowE X.K (dC d)) :=
  PE.by (pe_glob hg hm r hd) (low_c hv)

/-! ### operators -/
def dOp (d : D2) (ta tb : DE) : DE := fun g O R => ta g O fun x O1 => tb g O1 fun y O2 => d x y O2 R
def dUn (d : D1) (ta : DE) : DE := fun g O R => ta g O fun x O1 => d x O1 R
theorem low_op {K : PySem.W.Frag} {r : R2} {d : D2} {ta tb : DE} (hr : OpS K r d) : ∀ s H Q, lowE K (dOp d ta tb) s H Q → tOp r (lowE K ta) (lowE K tb) s H Q := fun s H Q ⟨G, O, g, R, rl, gr, h, k⟩ =>
  ⟨G, O, g, _, rl, gr, h, fun x O1 v G1 H1 go1 vr1 q1 => ⟨G1, O1, g, _, go1.rel, gr.mono go1.ex, q1, fun y O2 u G2 H2 go2 vr2 q2 =>
    hr go2.rel (vr1.mono go2.ex) vr2 q2 fun z O3 w G3 H3 go3 vr3 q3 => k z O3 w G3 H3 ((go1.trans rl go2).trans rl go3) vr3 q3⟩⟩
theorem low_un {K : PySem.W.Frag} {r : V → Hp → VK → Prop} {d : D1} {ta : DE} (hr : UnS K r d) : ∀ s H Q, lowE K (dUn d ta) s H Q → tUn r (lowE K ta) s H Q := fun s H Q ⟨G, O, g, R, rl, gr, h, k⟩ =>
  ⟨G, O, g, _, rl, gr, h, fun x O1 v G1 H1 go1 vr1 q1 => hr go1.rel vr1 q1 fun z O3 w G3 H3 go3 vr3 q3 => k z O3 w G3 H3 (go1.trans rl go3) vr3 q3⟩
theorem e_op {op : Operator} {r : R2} {d : D2} (ho : OpR X (binaryOp op) r) (hr : OpS X.K r d) (ha : PE X a (lowE X.K ta)) (hb : PE X b (lowE X.K tb)) : PE X (.BinOp a op b pos) (lowE X.K (dOp d ta tb)) := PE.by (pe_op ho ha hb) (low_op hr)
theorem e_un {op : UnaryOp} {r : V → Hp → VK → Prop} {d : D1} (ho : UnR X (unaryOp op) r) (hr : UnS X.K r d) (ha : PE X a (lowE X.K ta)) : PE X (.UnaryOp op a pos) (lowE X.K (dUn d ta)) := PE.by (pe_un ho ha) (low_un hr)
theorem e_cmp {op : CmpOp} {r : R2} {d : D2} (ho : OpR X (compareOp op) r) (hr : OpS X.K r d) (ha : PE X a (lowE X.K ta)) (hb : PE X b (lowE X.K tb)) (hm : behindInMarks op b = false) : PE X (.Compare a [op] [b] pos) (lowE X.K (dOp d ta tb)) := PE.by (pe_cmpR ho ha hb hm) (low_op hr)
theorem e_ix {r : R2} {d : D2} (ho : IxR X r) (hr : OpS X.K r d) (ha : PE X a (lowE X.K ta)) (hb : PE X b (lowE X.K tb)) (hs : PlainIx b := by exact fun _ _ => rfl) : PE X (.Subscript a b pos) (lowE X.K (dOp d ta tb)) := PE.by (pe_ix ho ha hb hs) (low_op hr)

/-! ### tests -/
def dTest (t : DE) : DT := fun g O R => t g O fun x O1 => match x with | .bl b => R b O1 | _ => False
theorem low_test {K : PySem.W.Frag} {t : DE} : ∀ s H Q, lowT K (dTest t) s H Q → tTest (lowE K t) s H Q := fun s H Q ⟨G, O, g, R, rl, gr, h, k⟩ =>
  ⟨G, O, g, _, rl, gr, h, fun x O1 v G1 H1 go1 vr1 q1 => by
    cases vr1 <;> first | exact q1.elim | exact ⟨_, rfl, k _ _ _ _ go1 q1⟩⟩
theorem t_cmp {op : CmpOp} {r : R2} {d : D2} (ho : OpR X (compareOp op) r) (hr : OpS X.K r d) (ha : PE X a (lowE X.K ta)) (hb : PE X b (lowE X.K tb)) (hm : behindInMarks op b = false) : PT X (.Compare a [op] [b] pos) (lowT X.K (dTest (dOp d ta tb))) :=
  PT.by (pt_cmpR ho ha hb hm) fun s H Q h => by
    obtain ⟨G, O, g, R, rl, gr, h, k⟩ := low_test s H Q h
    exact low_op hr s H _ ⟨G, O, g, R, rl, gr, h, k⟩
theorem t_val (ha : PE X a (lowE X.K ta)) (he : ∀ whole, isTrue a X.env whole = (do let v ← whole; standAt a.pos; holding [v] (truthy v)) := by intro _; rfl) : PT X a (lowT X.K (dTest ta)) :=
  PT.by (pt_val ha he) fun s H Q h => low_test s H Q h
def dAndT (t u : DT) : DT := fun g O R => t g O fun c O1 => if c = true then u g O1 R else R false O1
def dOrT (t u : DT) : DT := fun g O R => t g O fun c O1 => if c = true then R true O1 else u g O1 R
def dNotT (t : DT) : DT := fun g O R => t g O fun c O1 => R (!c) O1
variable {e e' : Expr} {rest : List Expr} {tt tu : DT}
theorem w_and1 (ha : PT X a (lowT X.K tt)) : PW X (.BoolOp .And [a] pos) (lowT X.K tt) := pw_and1 ha
theorem w_or1 (ha : PT X a (lowT X.K tt)) : PW X (.BoolOp .Or [a] pos) (lowT X.K tt) := pw_or1 ha
theorem w_and (ha : PT X a (lowT X.K tt)) (hb : PW X (.BoolOp .And (b :: rest) pos) (lowT X.K tu)) : PW X (.BoolOp .And (a :: b :: rest) pos) (lowT X.K (dAndT tt tu)) := PW.by (pw_and ha hb) fun s H Q ⟨G, O, g, R, rl, gr, h, k⟩ =>
  ⟨G, O, g, _, rl, gr, h, fun x O1 G1 H1 go1 q1 => by
    cases x with
    | true => exact ⟨G1, O1, g, R, go1.rel, gr.mono go1.ex, q1, fun x O2 G2 H2 go2 q2 => k _ _ _ _ (go1.trans rl go2) q2⟩
    | false => exact k _ _ _ _ go1 q1⟩
theorem w_or (ha : PT X a (lowT X.K tt)) (hb : PW X (.BoolOp .Or (b :: rest) pos) (lowT X.K tu)) : PW X (.BoolOp .Or (a :: b :: rest) pos) (lowT X.K (dOrT tt tu)) := PW.by (pw_or ha hb) fun s H Q ⟨G, O, g, R, rl, gr, h, k⟩ =>
  ⟨G, O, g, _, rl, gr, h, fun x O1 G1 H1 go1 q1 => by
    cases x with
    | false => exact ⟨G1, O1, g, R, go1.rel, gr.mono go1.ex, q1, fun x O2 G2 H2 go2 q2 => k _ _ _ _ (go1.trans rl go2) q2⟩
    | true => exact k _ _ _ _ go1 q1⟩
theorem t_not (ha : PT X a (lowT X.K tt)) : PT X (.UnaryOp .Not a pos) (lowT X.K (dNotT tt)) := PT.by (pt_not ha) fun s H Q ⟨G, O, g, R, rl, gr, h, k⟩ =>
  ⟨G, O, g, _, rl, gr, h, fun x O1 G1 H1 go1 q1 => k _ _ _ _ go1 q1⟩
def dTru (O : Om) (x : D) (R : Bool → Prop) : Prop := match x with
  | .non => R false
  | .bl b => R b
  | .int i => R (i != 0)
  | .str y => y.length ≤ sizeLine ∧ R ((y.length : Int) != 0)
  | .tup xs => R (!xs.isEmpty)
  | .lst xs => R (!xs.isEmpty)
  | .ref a => match O a with | some (.lst xs) => R (!xs.isEmpty) | some (.dK kvs) => R (!kvs.isEmpty) | _ => False
  | _ => False
def dTruth (t : DE) : DT := fun g O R => t g O fun x O1 => dTru O1 x fun b => R b O1
theorem isEmpty_vr {K : PySem.W.Frag} {G : Hp} {vs : List V} {xs : List D} (h : VRs K G vs xs) : (!xs.isEmpty) = !vs.isEmpty := by cases h <;> rfl
theorem t_truth (ha : PE X a (lowE X.K ta)) (he : ∀ whole, isTrue a X.env whole = (do let v ← whole; standAt a.pos; holding [v] (truthy v)) := by intro _; rfl) : PT X a (lowT X.K (dTruth ta)) :=
  PT.by (pt_truth ha he) fun s H Q ⟨G, O, g, R, rl, gr, h, k⟩ => ⟨G, O, g, _, rl, gr, h, fun x O1 v G1 H1 go1 vr1 q1 => by
    have q1 : dTru O1 x fun b => R b O1 := q1
    cases vr1 with
    | non => exact ⟨_, rfl, k _ _ _ _ go1 q1⟩
    | bl b => exact ⟨_, rfl, k _ _ _ _ go1 q1⟩
    | int b => exact ⟨_, rfl, k _ _ _ _ go1 q1⟩
    | str b => exact ⟨_, ⟨q1.1, rfl⟩, k _ _ _ _ go1 q1.2⟩
    | ty b => exact q1.elim
    | ptup _ _ => exact q1.elim
    | tup h1 h2 => exact ⟨_, .inr (.inl ⟨_, Evl.ex_t go1.rel.g h1, rfl⟩), k _ _ _ _ go1 (by rw [← isEmpty_vr h2]; exact q1)⟩
    | lst h1 h2 => exact ⟨_, .inl ⟨_, Evl.ex_l go1.rel.g h1, rfl⟩, k _ _ _ _ go1 (by rw [← isEmpty_vr h2]; exact q1)⟩
    | ref a =>
      have q1 : (match O1 a with | some (.lst xs) => R (!xs.isEmpty) O1 | some (.dK kvs) => R (!kvs.isEmpty) O1 | _ => False) := q1
      cases e : O1 a with
      | none => simp only [e] at q1
      | some o =>
        cases o with
        | lst xs =>
          simp only [e] at q1
          obtain ⟨vs, h1, h2⟩ := go1.rel.lst e
          exact ⟨_, .inl ⟨_, SqL.of h1, rfl⟩, k _ _ _ _ go1 (by rw [← isEmpty_vr h2]; exact q1)⟩
        | dK kvs =>
          simp only [e] at q1
          obtain ⟨_, u, hu, q⟩ := go1.rel.o _ _ e
          cases u with
          | dK ks =>
            refine ⟨_, .inr (.inr ⟨_, hu, rfl⟩), k _ _ _ _ go1 ?_⟩
            have q : PR X.K G1 ks kvs := q
            cases q <;> exact q1
          | _ => exact False.elim q
        | _ => simp only [e] at q1⟩
/-! ### and, or, not, if as values -/
def dAndV (ta tb : DE) : DE := fun g O R => ta g O fun x O1 => match x with | .bl true => tb g O1 R | .bl false => R (.bl false) O1 | _ => False
def dOrV (ta tb : DE) : DE := fun g O R => ta g O fun x O1 => match x with | .bl false => tb g O1 R | .bl true => R (.bl true) O1 | _ => False
def dNotV (ta : DE) : DE := fun g O R => ta g O fun x O1 => match x with | .bl b => R (.bl (!b)) O1 | _ => False
theorem e_one {op} (ha : PE X a (lowE X.K ta)) : PE X (.BoolOp op [a] pos) (lowE X.K ta) := pe_one ha
theorem e_and (ha : PE X a (lowE X.K ta)) (hb : PE X (.BoolOp .And (b :: rest) pos) (lowE X.K tb)) : PE X (.BoolOp .And (a :: b :: rest) pos) (lowE X.K (dAndV ta tb)) := PE.by (pe_and ha hb) fun s H Q ⟨G, O, g, R, rl, gr, h, k⟩ =>
  ⟨G, O, g, _, rl, gr, h, fun x O1 v G1 H1 go1 vr1 q1 => by
    cases vr1 with
    | bl b =>
      cases b with
      | true => exact ⟨true, rfl, by rw [if_pos rfl]; exact ⟨G1, O1, g, R, go1.rel, gr.mono go1.ex, q1, fun x O2 v G2 H2 go2 vr q2 => k _ _ _ _ _ (go1.trans rl go2) vr q2⟩⟩
      | false => exact ⟨false, rfl, by rw [if_neg Bool.false_ne_true]; exact k _ _ _ _ _ go1 (.bl false) q1⟩
    | _ => exact False.elim q1⟩
theorem e_or (ha : PE X a (lowE X.K ta)) (hb : PE X (.BoolOp .Or (b :: rest) pos) (lowE X.K tb)) : PE X (.BoolOp .Or (a :: b :: rest) pos) (lowE X.K (dOrV ta tb)) := PE.by (pe_or ha hb) fun s H Q ⟨G, O, g, R, rl, gr, h, k⟩ =>
  ⟨G, O, g, _, rl, gr, h, fun x O1 v G1 H1 go1 vr1 q1 => by
    cases vr1 with
    | bl b =>
      cases b with
      | false => exact ⟨false, rfl, by rw [if_neg Bool.false_ne_true]; exact ⟨G1, O1, g, R, go1.rel, gr.mono go1.ex, q1, fun x O2 v G2 H2 go2 vr q2 => k _ _ _ _ _ (go1.trans rl go2) vr q2⟩⟩
      | true => exact ⟨true, rfl, by rw [if_pos rfl]; exact k _ _ _ _ _ go1 (.bl true) q1⟩
    | _ => exact False.elim q1⟩
theorem e_not (ha : PE X a (lowE X.K ta)) : PE X (.UnaryOp .Not a pos) (lowE X.K (dNotV ta)) := PE.by (pe_not ha) fun s H Q ⟨G, O, g, R, rl, gr, h, k⟩ =>
  ⟨G, O, g, _, rl, gr, h, fun x O1 v G1 H1 go1 vr1 q1 => by
    cases vr1 with
    | bl b => exact ⟨b, rfl, k _ _ _ _ _ go1 (.bl _) q1⟩
    | _ => exact False.elim q1⟩
def dIf (t : DT) (ta tb : DE) : DE := fun g O R => t g O fun c O1 => if c = true then ta g O1 R else tb g O1 R
theorem e_if (hc : PT X c (lowT X.K tt)) (ha : PE X a (lowE X.K ta)) (hb : PE X b (lowE X.K tb)) : PE X (.IfExp c a b pos) (lowE X.K (dIf tt ta tb)) := PE.by (pe_ifExp hc ha hb) fun s H Q ⟨G, O, g, R, rl, gr, h, k⟩ =>
  ⟨G, O, g, _, rl, gr, h, fun x O1 G1 H1 go1 q1 => by
    cases x with
    | true => rw [if_pos rfl]; exact ⟨G1, O1, g, R, go1.rel, gr.mono go1.ex, q1, fun x O2 v G2 H2 go2 vr q2 => k _ _ _ _ _ (go1.trans rl go2) vr q2⟩
    | false => rw [if_neg Bool.false_ne_true]; exact ⟨G1, O1, g, R, go1.rel, gr.mono go1.ex, q1, fun x O2 v G2 H2 go2 vr q2 => k _ _ _ _ _ (go1.trans rl go2) vr q2⟩⟩
/-! ### a < b < c -/
def dChain (d d' : D2) (ta tb tc : DE) : DE := fun g O R => ta g O fun x O1 => tb g O1 fun y O2 => d x y O2 fun z O3 => match z with | .bl true => (tc g O3 fun w O4 => d' y w O4 R) | .bl false => R (.bl false) O3 | _ => False
theorem low_chain {K : PySem.W.Frag} {r r' : R2} {d d' : D2} {ta tb tc : DE} (hr : OpS K r d) (hr' : OpS K r' d') : ∀ s H Q, lowE K (dChain d d' ta tb tc) s H Q → tChain r r' (lowE K ta) (lowE K tb) (lowE K tc) s H Q := fun s H Q ⟨G, O, g, R, rl, gr, h, k⟩ =>
  ⟨G, O, g, _, rl, gr, h, fun x O1 v G1 H1 go1 vr1 q1 => ⟨G1, O1, g, _, go1.rel, gr.mono go1.ex, q1, fun y O2 u G2 H2 go2 vr2 q2 =>
    hr go2.rel (vr1.mono go2.ex) vr2 q2 fun z O3 w G3 H3 go3 vr3 q3 => by
      have g12 := go1.trans rl go2
      have g13 := g12.trans rl go3
      cases vr3 with
      | bl b =>
        cases b with
        | false => exact ⟨false, rfl, by rw [if_neg Bool.false_ne_true]; exact k _ _ _ _ _ g13 (.bl false) q3⟩
        | true =>
          refine ⟨true, rfl, ?_⟩
          rw [if_pos rfl]
          exact ⟨G3, O3, g, _, go3.rel, gr.mono g13.ex, q3, fun z' O4 w' G4 H4 go4 vr4 q4 => hr' go4.rel ((vr2.mono go3.ex).mono go4.ex) vr4 q4 fun z2 O5 w5 G5 H5 go5 vr5 q5 => k z2 O5 w5 G5 H5 ((g13.trans rl go4).trans rl go5) vr5 q5⟩
      | _ => exact False.elim q3⟩⟩
theorem e_chain {op op' : CmpOp} {r r' : R2} {d d' : D2} (ho : OpR X (compareOp op) r) (hr : OpS X.K r d) (ho' : OpR X (compareOp op') r') (hr' : OpS X.K r' d') (ha : PE X a (lowE X.K ta)) (hb : PE X b (lowE X.K tb)) (hc : PE X c (lowE X.K tc))
    (hm : lastMarks [op, op'] [b, c] = false := by with_unfolding_all rfl) : PE X (.Compare a [op, op'] [b, c] pos) (lowE X.K (dChain d d' ta tb tc)) := PE.by (pe_chain ho ho' ha hb hc hm) (low_chain hr hr')
theorem t_chain {op op' : CmpOp} {r r' : R2} {d d' : D2} (ho : OpR X (compareOp op) r) (hr : OpS X.K r d) (ho' : OpR X (compareOp op') r') (hr' : OpS X.K r' d') (ha : PE X a (lowE X.K ta)) (hb : PE X b (lowE X.K tb)) (hc : PE X c (lowE X.K tc))
    (hm : lastMarks [op, op'] [b, c] = false := by with_unfolding_all rfl) : PT X (.Compare a [op, op'] [b, c] pos) (lowT X.K (dTest (dChain d d' ta tb tc))) := PT.by (pt_chain ho ho' ha hb hc hm) fun s H Q h => by
    obtain ⟨G, O, g, R, rl, gr, h, k⟩ := low_test s H Q h
    exact low_chain hr hr' s H _ ⟨G, O, g, R, rl, gr, h, k⟩
/-! ### arguments, tuples, lists -/
def dNil : DA := fun _ O R => R [] O
def dCons (t : DE) (u : DA) : DA := fun g O R => t g O fun x O1 => u g O1 fun xs O2 => R (x :: xs) O2
def dTup (t : DA) : DE := fun g O R => t g O fun xs O1 => R (.tup xs) O1
def dLst (t : DA) : DE := fun g O R => t g O fun xs O1 => ∀ p, O1 p = none → R (.ref p) (up O1 p (.lst xs))
variable {es : List Expr} {tA : DA} {n : Nat}
theorem a_nil : PA X [] (lowA X.K 0 dNil) := PA.by pa_nil fun s H Q ⟨G, O, g, R, rl, gr, h, k⟩ => k [] O [] G H (Go.refl rl) .nil rfl h
theorem a_cons (ha : PE X e (lowE X.K ta)) (hr : PA X es (lowA X.K n tA)) (hs : starEach (e :: es) X.env = (false, eval e X.env) :: starEach es X.env := by rfl) : PA X (e :: es) (lowA X.K (n + 1) (dCons ta tA)) :=
  PA.by (pa_cons ha hr hs) fun s H Q ⟨G, O, g, R, rl, gr, h, k⟩ => ⟨G, O, g, _, rl, gr, h, fun x O1 v G1 H1 go1 vr1 q1 => ⟨G1, O1, g, _, go1.rel, gr.mono go1.ex, q1, fun xs O2 vs G2 H2 go2 vr2 hl q2 =>
    k _ _ _ _ _ (go1.trans rl go2) (.cons (vr1.mono go2.ex) vr2) (by rw [List.length_cons, hl]) q2⟩⟩
theorem e_tup {x1} (h : PA X es (lowA X.K n tA)) (hn : n ≤ 1000 := by decide) : PE X (.Tuple es x1 pos) (lowE X.K (dTup tA)) := PE.by (pe_tup h) fun s H Q ⟨G, O, g, R, rl, gr, h, k⟩ =>
  ⟨G, O, g, _, rl, gr, h, fun xs O1 vs G1 H1 go1 vr1 hl q1 => ⟨by rw [vr1.length, hl]; exact Nat.le_trans hn (by decide), fun p hp => by
    have b : Bk X.K G1 O1 H1 R Q := fun x O2 v G2 H2 go2 vr q2 => k _ _ _ _ _ (go1.trans rl go2) vr q2
    exact b.tup go1.rel vr1 q1 p hp⟩⟩
theorem e_lst (h : PA X es (lowA X.K n tA)) (hn : n ≤ 1000 := by decide) : PE X (.List es pos) (lowE X.K (dLst tA)) := PE.by (pe_lst h) fun s H Q ⟨G, O, g, R, rl, gr, h, k⟩ =>
  ⟨G, O, g, _, rl, gr, h, fun xs O1 vs G1 H1 go1 vr1 hl q1 => ⟨by rw [vr1.length, hl]; exact Nat.le_trans hn (by decide), fun p hp => by
    have b : Bk X.K G1 O1 H1 R Q := fun x O2 v G2 H2 go2 vr q2 => k _ _ _ _ _ (go1.trans rl go2) vr q2
    exact b.lst go1.rel vr1 q1 p hp⟩⟩
end

/-! ### the ints -/
section
variable {K : PySem.W.Frag}
def dI (g : Int → Int → D) : D2 := fun x y O R => match x, y with | .int i, .int j => R (g i j) O | _, _ => False
def dIc (C : Int → Int → Prop) (g : Int → Int → D) : D2 := fun x y O R => match x, y with | .int i, .int j => C i j ∧ R (g i j) O | _, _ => False
theorem sI {f : Int → Int → V} {g : Int → Int → D} (h : ∀ G i j, VR K G (f i j) (g i j)) : OpS K (rI0 f) (dI g) := fun {G O H x y v u R Q} rl hx hy h' k => by
  cases hx <;> cases hy <;> first | exact h'.elim | exact ⟨_, _, rfl, rfl, k.here rl (h _ _ _) h'⟩
theorem sIc {C C' : Int → Int → Prop} {f : Int → Int → V} {g : Int → Int → D} (h : ∀ G i j, VR K G (f i j) (g i j)) (hc : ∀ i j, C i j → C' i j) : OpS K (rI C' f) (dIc C g) := fun {G O H x y v u R Q} rl hx hy h' k => by
  cases hx <;> cases hy <;> first | exact h'.elim | exact ⟨_, _, rfl, rfl, hc _ _ h'.1, k.here rl (h _ _ _) h'.2⟩
end
end DL
set_option Elab.async false
set_option linter.all false
set_option maxRecDepth 100000
set_option maxHeartbeats 2000000
namespace DL
open PySem L2
open Evl (Ex)

theorem PS.by {X : Cx} {e : Stmt} {t t' : TS} (h : PS X e t) (k : ∀ D s H, t' D s H → t D s H) : PS X e t' := ⟨fun pins s σ H D I q => h.run pins s σ H D I (k D σ H q)⟩
theorem PSs.by {X : Cx} {e : List Stmt} {t t' : TS} (h : PSs X e t) (k : ∀ D s H, t' D s H → t D s H) : PSs X e t' := ⟨fun pins s σ H D I q => h.run pins s σ H D I (k D σ H q)⟩
theorem PG.by {X : Cx} {e : Expr} {t t' : TG} (h : PG X e t) (k : ∀ v s H Q, t' v s H Q → t v s H Q) : PG X e t' := ⟨fun pins s σ H v u Q I r q => h.run pins s σ H v u Q I r (k v σ H Q q)⟩
theorem PGs.by {X : Cx} {e : List Expr} {t t' : TGs} (h : PGs X e t) (k : ∀ v s H Q, t' v s H Q → t v s H Q) : PGs X e t' := ⟨fun pins s σ H v u Q I r q => h.run pins s σ H v u Q I r (k v σ H Q q)⟩
theorem PI.by {X : Cx} {tg e : Expr} {t t' : TI} (h : PI X tg e t) (k : ∀ s H R, t' s H R → t s H R) : PI X tg e t' := ⟨fun pins s σ H R I q => h.run pins s σ H R I (k σ H R q)⟩

/-! ### statements -/
def dNext : DS := fun F g O => F.nx g O
def dSeq (t u : DS) : DS := fun F g O => t { F with nx := u F } g O
def dBreak : DS := fun F g O => F.bk g O
def dCont : DS := fun F g O => F.ct g O
def dDrop (t : DE) : DS := fun F g O => t g O fun _ O1 => F.nx g O1
def dRet (t : DE) : DS := fun F g O => t g O F.rt
def dRetN : DS := fun F _ O => F.rt .non O
def dIfS (c : DT) (t u : DS) : DS := fun F g O => c g O fun b O1 => if b = true then t F g O1 else u F g O1
abbrev DG := D → Gm → Om → (Gm → Om → Prop) → Prop
abbrev DGs := List D → Gm → Om → (Gm → Om → Prop) → Prop
def gN (i : Nat) : DG := fun x g O R => R (g.set i (some x)) O
def gsNil : DGs := fun xs g O R => match xs with | [] => R g O | _ => False
def gsCons (t : DG) (u : DGs) : DGs := fun xs g O R => match xs with | x :: xs => t x g O fun g1 O1 => u xs g1 O1 R | _ => False
def gT (n : Nat) (t : DGs) : DG := fun x g O R => match x with | .tup xs => xs.length = n ∧ t xs g O R | _ => False
def dAsg (t : DE) (u : DG) : DS := fun F g O => t g O fun x O1 => u x g O1 F.nx
abbrev dSet (i : Nat) (t : DE) : DS := dAsg t (gN i)
def dPar (i j : Nat) (t : DA) : DS := fun F g O => t g O fun xs O1 => match xs with | [x, y] => F.nx ((g.set i (some x)).set j (some y)) O1 | _ => False
def lowG (K : PySem.W.Frag) (t : DG) : TG := fun v s H Q => ∃ (G : Hp) (O : Om) (g : Gm) (x : D) (R : Gm → Om → Prop), Rel K G O H ∧ GR K G s g ∧ VR K G v x ∧ t x g O R ∧ ∀ s' g' O' G' H', Go K G O H G' O' H' → GR K G' s' g' → R g' O' → Q s' H'
def lowGs (K : PySem.W.Frag) (t : DGs) : TGs := fun v s H Q => ∃ (G : Hp) (O : Om) (g : Gm) (x : List D) (R : Gm → Om → Prop), Rel K G O H ∧ GR K G s g ∧ VRs K G v x ∧ t x g O R ∧ ∀ s' g' O' G' H', Go K G O H G' O' H' → GR K G' s' g' → R g' O' → Q s' H'
section
variable {X : Cx} {W : WX} {st : Stmt} {rest : List Stmt} {t u : DS} {e : Expr} {te : DE} {pos : Pos}
theorem EndsR.with {K : PySem.W.Frag} {W : WX} {G : Hp} {O : Om} {H : Hp} {F : DEnds} {E : Ends} (h : EndsR K W G O H F E) {n : Gm → Om → Prop} {n' : St → Hp → Prop} (k : ∀ s' g' O' G' H', Go K G O H G' O' H' → GR K G' s' g' → n g' O' → n' s' H') : EndsR K W G O H { F with nx := n } { E with nx := n' } := ⟨k, h.bk, h.ct, h.rt, h.xc⟩
theorem s_nil : PSs X [] (lowS X.K W dNext) := PSs.by pss_nil fun E s H ⟨G, O, g, F, rl, gr, h, k⟩ => k.nx _ _ _ _ _ (Go.refl rl) gr h
theorem s_cons (h1 : PS X st (lowS X.K W t)) (h2 : PSs X rest (lowS X.K W u)) : PSs X (st :: rest) (lowS X.K W (dSeq t u)) := PSs.by (pss_cons h1 h2) fun E s H ⟨G, O, g, F, rl, gr, h, k⟩ =>
  ⟨G, O, g, _, rl, gr, h, k.with fun s' g' O' G' H' go gr' q => ⟨G', O', g', F, go.rel, gr', q, k.from rl go⟩⟩
theorem s_one (h1 : PS X st (lowS X.K W t)) : PSs X [st] (lowS X.K W t) := pss_one h1
theorem s_pass : PS X (.Pass pos) (lowS X.K W dNext) := PS.by ps_pass fun E s H ⟨G, O, g, F, rl, gr, h, k⟩ => k.nx _ _ _ _ _ (Go.refl rl) gr h
theorem s_break : PS X (.Break pos) (lowS X.K W dBreak) := PS.by ps_break fun E s H ⟨G, O, g, F, rl, gr, h, k⟩ => k.bk _ _ _ _ _ (Go.refl rl) gr h
theorem s_continue : PS X (.Continue pos) (lowS X.K W dCont) := PS.by ps_continue fun E s H ⟨G, O, g, F, rl, gr, h, k⟩ => k.ct _ _ _ _ _ (Go.refl rl) gr h
theorem s_expr (he : PE X e (lowE X.K te)) (hs : swapsWith e none pos.line X.env = pure false := by rfl) : PS X (.Expr e pos) (lowS X.K W (dDrop te)) := PS.by (ps_expr he hs) fun E s H ⟨G, O, g, F, rl, gr, h, k⟩ =>
  ⟨G, O, g, _, rl, gr, h, fun x O1 v G1 H1 go1 vr1 q1 => k.nx _ _ _ _ _ go1 (gr.mono go1.ex) q1⟩
theorem s_ret (he : PE X e (lowE X.K te)) : PS X (.Return (some e) pos) (lowS X.K W (dRet te)) := PS.by (ps_ret he) fun E s H ⟨G, O, g, F, rl, gr, h, k⟩ =>
  ⟨G, O, g, _, rl, gr, h, fun x O1 v G1 H1 go1 vr1 q1 => k.rt _ _ _ _ _ go1 vr1 q1⟩
theorem s_retN : PS X (.Return none pos) (lowS X.K W dRetN) := PS.by ps_retN fun E s H ⟨G, O, g, F, rl, gr, h, k⟩ => k.rt _ _ _ _ _ (Go.refl rl) .non h
theorem s_if {c : Expr} {a b : List Stmt} {tc : DT} (hc : PT X c (lowT X.K tc)) (ha : PSs X a (lowS X.K W t)) (hb : PSs X b (lowS X.K W u)) : PS X (.If c a b pos) (lowS X.K W (dIfS tc t u)) := PS.by (ps_if hc ha hb) fun E s H ⟨G, O, g, F, rl, gr, h, k⟩ =>
  ⟨G, O, g, _, rl, gr, h, fun x O1 G1 H1 go1 q1 => by
    cases x with
    | true => exact ⟨G1, O1, g, F, go1.rel, gr.mono go1.ex, q1, k.from rl go1⟩
    | false => exact ⟨G1, O1, g, F, go1.rel, gr.mono go1.ex, q1, k.from rl go1⟩⟩
def dNever : DS := fun _ _ _ => False
theorem s_never : PS X st (lowS X.K W dNever) := PS.by ps_never fun E s H ⟨_, _, _, _, _, _, h, _⟩ => h.elim
theorem ss_never {sts : List Stmt} : PSs X sts (lowS X.K W dNever) := PSs.by pss_never fun E s H ⟨_, _, _, _, _, _, h, _⟩ => h.elim
/-! ### targets -/
theorem g_name {i : Nat} {x : Str} (hN : X.N.Nodup) (hi : X.N[i]? = some x) (hx : Loc X.env.scope x) (hf : X.fn x = true ∨ X.env.scope.names.lookup x = some .local := by first | exact .inl rfl | exact .inr rfl | assumption) : PG X (.Name x pos) (lowG X.K (gN i)) :=
  PG.by (pg_name hN hi hx hf) fun v s H Q ⟨G, O, g, x, R, rl, gr, vr, h, k⟩ => k _ _ _ _ _ (Go.refl rl) (gr.set i vr) h
theorem gs_nil : PGs X [] (lowGs X.K gsNil) := PGs.by pgs_nil fun v s H Q ⟨G, O, g, x, R, rl, gr, vr, h, k⟩ => by
  cases vr with
  | nil => exact ⟨rfl, k _ _ _ _ _ (Go.refl rl) gr h⟩
  | cons _ _ => exact False.elim h
theorem gs_cons {es : List Expr} {t : DG} {u : DGs} (h1 : PG X e (lowG X.K t)) (h2 : PGs X es (lowGs X.K u))
    (hs : (assignEach (e :: es) X.env).map (·.2) = assign e X.env :: (assignEach es X.env).map (·.2) := by rfl) : PGs X (e :: es) (lowGs X.K (gsCons t u)) := PGs.by (pgs_cons h1 h2 hs) fun v s H Q ⟨G, O, g, x, R, rl, gr, vr, h, k⟩ => by
  cases vr with
  | nil => exact False.elim h
  | cons hv hr => exact ⟨_, _, rfl, G, O, g, _, _, rl, gr, hv, h, fun s1 g1 O1 G1 H1 go1 gr1 q1 => ⟨G1, O1, g1, _, R, go1.rel, gr1, hr.mono go1.ex, q1, fun s2 g2 O2 G2 H2 go2 gr2 q2 => k _ _ _ _ _ (go1.trans rl go2) gr2 q2⟩⟩
theorem g_tup {es : List Expr} {k : Nat} {t : DGs} {n : Nat} (hc : X.calm = true) (h : PGs X es (lowGs X.K t))
    (hn : (assignEach es X.env).length = n := by rfl) (hst : (assignEach es X.env).findIdx? (·.1) = none := by rfl) : PG X (.Tuple es k pos) (lowG X.K (gT n t)) := PG.by (pg_tup hc h hn hst) fun v s H Q ⟨G, O, g, x, R, rl, gr, vr, h, k⟩ => by
  cases vr with
  | tup h1 h2 => exact ⟨_, _, rfl, Evl.ex_t rl.g h1, h2.length.trans h.1, G, O, g, _, R, rl, gr, h2, h.2, k⟩
  | _ => exact False.elim h
theorem s_asg {tg : Expr} {u : DG} (he : PE X e (lowE X.K te)) (hg : PG X tg (lowG X.K u)) (hs : swapsWithSole [tg] e pos.line X.env = pure false := by rfl) (hw : swappedStores [tg] e X.env = pure none := by rfl)
    (h1 : (assignEach [tg] X.env).map (·.2) = [assign tg X.env] := by rfl) : PS X (.Assign [tg] e pos) (lowS X.K W (dAsg te u)) := PS.by (ps_asg he hg hs hw h1) fun E s H ⟨G, O, g, F, rl, gr, h, k⟩ =>
  ⟨G, O, g, _, rl, gr, h, fun x O1 v G1 H1 go1 vr1 q1 => ⟨G1, O1, g, x, _, go1.rel, gr.mono go1.ex, vr1, q1, fun s2 g2 O2 G2 H2 go2 gr2 q2 => k.nx _ _ _ _ _ (go1.trans rl go2) gr2 q2⟩⟩
theorem s_set {i : Nat} {x : Str} {pos' : Pos} (hN : X.N.Nodup) (hi : X.N[i]? = some x) (hx : Loc X.env.scope x) (he : PE X e (lowE X.K te)) (hs : swapsWith e (some (.Name x pos')) pos.line X.env = pure false := by rfl) (hf : X.fn x = true ∨ X.env.scope.names.lookup x = some .local := by first | exact .inl rfl | exact .inr rfl | assumption) :
    PS X (.Assign [.Name x pos'] e pos) (lowS X.K W (dSet i te)) := PS.by (ps_set hN hi hx he hs hf) fun E s H ⟨G, O, g, F, rl, gr, h, k⟩ =>
  ⟨G, O, g, _, rl, gr, h, fun x O1 v G1 H1 go1 vr1 q1 => k.nx _ _ _ _ _ go1 ((gr.mono go1.ex).set i vr1) q1⟩
theorem s_par {i j : Nat} {x y : Str} {a b : Expr} {tA : DA} {px py pt : Pos} {kt k2 pt2} {n : Nat} (hc : X.calm = true) (hN : X.N.Nodup) (hi : X.N[i]? = some x) (hj : X.N[j]? = some y) (hij : i ≠ j)
    (hx : X.env.scope.names.lookup x = some .local) (hy : X.env.scope.names.lookup y = some .local) (ha : PA X [a, b] (lowA X.K n tA))
    (hw : swappedStores [.Tuple [.Name x px, .Name y py] kt pt] (.Tuple [a, b] k2 pt2) X.env = pure (some [x, y]))
    (hs : swapsWithSole [.Tuple [.Name x px, .Name y py] kt pt] (.Tuple [a, b] k2 pt2) pos.line X.env = pure false := by rfl) :
    PS X (.Assign [.Tuple [.Name x px, .Name y py] kt pt] (.Tuple [a, b] k2 pt2) pos) (lowS X.K W (dPar i j tA)) := PS.by (ps_par hc hN hi hj hij hx hy ha hw hs) fun E s H ⟨G, O, g, F, rl, gr, h, k⟩ =>
  ⟨G, O, g, _, rl, gr, h, fun xs O1 vs G1 H1 go1 vr1 hl q1 => by
    match xs, vr1, q1 with
    | [x, y], vr1, q1 =>
      obtain ⟨v, u, rfl, hv, hu⟩ := vr1.two
      exact ⟨v, u, rfl, k.nx _ _ _ _ _ go1 (((gr.mono go1.ex).set i hv).set j hu) q1⟩⟩
/-! ### name op= e -/
def dAug (i : Nat) (te : DE) (d : D2) : DS := fun F g O => match g[i]? with | some (some x) => (te g O fun y O1 => d x y O1 fun z O2 => F.nx (g.set i (some z)) O2) | _ => False
theorem s_aug {i : Nat} {x : Str} {op : Operator} {ti : TIp} {d : D2} {pos' : Pos} (hN : X.N.Nodup) (hi : X.N[i]? = some x) (hx : Loc X.env.scope x) (he : PE X e (lowE X.K te)) (ho : PIp X op ti) (hr : OpS X.K ti d) (hf : X.fn x = true ∨ X.env.scope.names.lookup x = some .local := by first | exact .inl rfl | exact .inr rfl | assumption) :
    PS X (.AugAssign (.Name x pos') op e pos) (lowS X.K W (dAug i te d)) := PS.by (ps_aug hN hi hx he ho hf) fun E s H ⟨G, O, g, F, rl, gr, h, k⟩ => by
  unfold dAug at h
  split at h
  · rename_i x' e'
    obtain ⟨v, h1, h2⟩ := gr.get i x' e'
    exact ⟨v, h1, G, O, g, _, rl, gr, h, fun y O1 u G1 H1 go1 vr1 q1 => hr go1.rel (h2.mono go1.ex) vr1 q1 fun z O2 w G2 H2 go2 vr2 q2 => k.nx _ _ _ _ _ (go1.trans rl go2) ((gr.mono (go1.ex.trans go2.ex)).set i vr2) q2⟩
  · exact h.elim
/-! ### o[i] = v -/
abbrev D3 := D → D → D → Om → (Om → Prop) → Prop
def SeS (K : PySem.W.Frag) (r : TSet) (d : D3) : Prop := ∀ {G O H x y z v u w} {R : Om → Prop} {Q : Hp → Prop}, Rel K G O H → VR K G v x → VR K G u y → VR K G w z → d x y z O R → (∀ O' G' H', Go K G O H G' O' H' → R O' → Q H') → r v u w H Q
def gSubD (to ti : DE) (d : D3) : DG := fun x g O R => to g O fun o O1 => ti g O1 fun i O2 => d o i x O2 fun O3 => R g O3
theorem g_sub {o i : Expr} {to ti : DE} {t : TSet} {d : D3} (ho : PE X o (lowE X.K to)) (hi : PE X i (lowE X.K ti)) (hs : PSet X t) (hr : SeS X.K t d)
    (ha : ∀ v, assign (.Subscript o i pos) X.env v = (do
      let ov ← holding [v] (eval o X.env)
      let iv ← holding [v, ov] (eval i X.env)
      standAt pos
      holding [v, ov, iv] (setItem ov iv v)
      release [v, ov, iv] []) := by intro _; rfl) : PG X (.Subscript o i pos) (lowG X.K (gSubD to ti d)) := PG.by (pg_sub ho hi hs ha) fun v s H Q ⟨G, O, g, x, R, rl, gr, vr, h, k⟩ =>
  ⟨G, O, g, _, rl, gr, h, fun x1 O1 v1 G1 H1 go1 vr1 q1 => ⟨G1, O1, g, _, go1.rel, gr.mono go1.ex, q1, fun x2 O2 v2 G2 H2 go2 vr2 q2 =>
    have e12 := go1.ex.trans go2.ex
    hr go2.rel (vr1.mono go2.ex) vr2 (vr.mono e12) q2 fun O3 G3 H3 go3 q3 => k _ _ _ _ _ ((go1.trans rl go2).trans rl go3) (gr.mono (e12.trans go3.ex)) q3⟩⟩
def dSetL : D3 := fun o i v O R => match o, i with | .ref a, .int k => (match O a with | some (.lst xs) => (match ixN xs.length k with | some j => R (up O a (.lst (xs.set j v))) | none => False) | _ => False) | _, _ => False
theorem sSetL {K : PySem.W.Frag} : SeS K rSetL dSetL := fun {G O H x y z v u w R Q} rl hx hy hz h k => by
  cases hx <;> cases hy <;> first | exact h.elim | skip
  rename_i a i
  have h : (match O a with | some (.lst xs) => (match ixN xs.length i with | some j => R (up O a (.lst (xs.set j z))) | none => False) | _ => False) := h
  cases e : O a with
  | none => simp only [e] at h
  | some o =>
    cases o with
    | lst xs =>
      simp only [e] at h
      obtain ⟨vs, h1, h2⟩ := rl.lst e
      cases e2 : ixN xs.length i with
      | none => simp only [e2] at h
      | some j =>
        simp only [e2] at h
        exact ⟨a, vs, i, j, rfl, rfl, h1, by rw [h2.length]; exact e2, k _ _ _ (Go.write rl e (o := .lst (xs.set j z)) (u := .lst (vs.set j w)) (h2.set hz j)) h⟩
    | _ => simp only [e] at h
end

/-! ### while -/
def dWhile (c : DT) (tb : DS) : DS := fun F g O => ∃ W : Nat → Gm → Om → Prop, (∃ m, W m g O) ∧ ∀ m g O, W m g O →
  c g O fun b O1 => if b = true then tb { F with nx := fun g' O' => ∃ m', m' < m ∧ W m' g' O', ct := fun g' O' => ∃ m', m' < m ∧ W m' g' O', bk := F.nx } g O1 else F.nx g O1
section
variable {X : Cx} {W : WX} {pos : Pos}
theorem s_while {c : Expr} {body : List Stmt} {tc : DT} {tb : DS} (hp : PassesOwn (model X.prog X.w) X.A X.env X.xe) (hc : PT X c (lowT X.K tc)) (hb : PSs X body (lowS X.K W tb)) : PS X (.While c body [] pos) (lowS X.K W (dWhile tc tb)) := PS.by (ps_while hp hc hb) fun E s H ⟨G, O, g, F, rl, gr, h, k⟩ => by
  obtain ⟨W', ⟨m0, w0⟩, turn⟩ := h
  refine ⟨fun m s' H' => ∃ G' O' g', Go X.K G O H G' O' H' ∧ GR X.K G' s' g' ∧ W' m g' O', ⟨m0, G, O, g, Go.refl rl, gr, w0⟩, ?_⟩
  rintro m s1 H1 ⟨G1, O1, g1, go1, gr1, w1⟩
  refine ⟨G1, O1, g1, _, go1.rel, gr1, turn m g1 O1 w1, fun b O2 G2 H2 go2 q2 => ?_⟩
  have g12 := go1.trans rl go2
  cases b with
  | false => exact k.nx _ _ _ _ _ g12 (gr1.mono go2.ex) q2
  | true =>
    refine ⟨fun s' H' => ∃ G' O' g', Go X.K G O H G' O' H' ∧ GR X.K G' s' g' ∧ ∃ m', m' < m ∧ W' m' g' O', ?_, G2, O2, g1, _, go2.rel, gr1.mono go2.ex, q2, ?_⟩
    · rintro s3 H3 ⟨G3, O3, g3, go3, gr3, m', hm, w3⟩
      exact ⟨m', hm, G3, O3, g3, go3, gr3, w3⟩
    · have k2 := k.from rl g12
      exact ⟨fun s' g' O' G' H' go gr q => ⟨G', O', g', g12.trans rl go, gr, q⟩, k2.nx, fun s' g' O' G' H' go gr q => ⟨G', O', g', g12.trans rl go, gr, q⟩, k2.rt, k2.xc⟩
end
/-- the while's word in proofs -/
theorem while_by {c : DT} {tb : DS} {F : DEnds} {g : Gm} {O : Om} (W : Nat → Gm → Om → Prop) (m : Nat) (h0 : W m g O)
    (hs : ∀ m g O, W m g O → c g O fun b O1 => if b = true then tb { F with nx := fun g' O' => ∃ m', m' < m ∧ W m' g' O', ct := fun g' O' => ∃ m', m' < m ∧ W m' g' O', bk := F.nx } g O1 else F.nx g O1) : dWhile c tb F g O := ⟨W, ⟨m, h0⟩, hs⟩

/-! ### what is walked -/
abbrev DI := Gm → Om → (List D → (Om → Prop) → Om → Prop) → Prop
structure ItR (K : PySem.W.Frag) (J : It) (G0 : Hp) (xs : List D) (ok : Om → Prop) : Prop where
  stop : ∀ G O H, Ex G0 G → Rel K G O H → ok O → J.stop xs.length H
  go : ∀ (i : Nat) (d : D) G O H, xs[i]? = some d → Ex G0 G → Rel K G O H → ok O → J.go i H
  yld : ∀ (i : Nat) (d : D) G O H x H', xs[i]? = some d → Ex G0 G → Rel K G O H → ok O → J.yld i H x H' → ∃ G', Go K G O H G' O H' ∧ VR K G' x d
def lowI (K : PySem.W.Frag) (t : DI) : TI := fun s H R => ∃ (G : Hp) (O : Om) (g : Gm) (R' : List D → (Om → Prop) → Om → Prop), Rel K G O H ∧ GR K G s g ∧ t g O R' ∧ ∀ xs ok O' J G' H', Go K G O H G' O' H' → ItR K J G' xs ok → R' xs ok O' → R J H'
def dLoop (u : DG) (tb : DS) (ok : Om → Prop) (F : DEnds) : List D → Gm → Om → Prop
  | [], g, O => ok O ∧ F.nx g O
  | x :: xs, g, O => ok O ∧ u x g O fun g1 O1 => tb { F with nx := dLoop u tb ok F xs, ct := dLoop u tb ok F xs, bk := F.nx } g1 O1
def dFor (it : DI) (u : DG) (tb : DS) : DS := fun F g O => it g O fun xs ok O1 => dLoop u tb ok F xs g O1
section
variable {X : Cx} {W : WX} {pos : Pos} {tg : Expr}
theorem drop_cons {A : Type} : ∀ {xs : List A} {i : Nat} {x : A} {r : List A}, xs.drop i = x :: r → xs[i]? = some x ∧ xs.drop (i + 1) = r
  | [], i, _, _, h => by simp at h
  | y :: ys, 0, x, r, h => by simp at h; exact ⟨by simp [h.1], by simp [h.2]⟩
  | y :: ys, i + 1, x, r, h => by simpa using drop_cons (xs := ys) (i := i) (by simpa using h)
theorem s_for {iter : Expr} {body : List Stmt} {it : DI} {u : DG} {tb : DS} (hp : PassesOwn (model X.prog X.w) X.A X.env X.xe) (hc : X.calm = true) (hi : PI X tg iter (lowI X.K it)) (hg : PG X tg (lowG X.K u)) (hb : PSs X body (lowS X.K W tb))
    (hs : ∀ x, foldedSetIterable iter X.env x = pure x := by intro _; rfl) : PS X (.For tg iter body [] pos) (lowS X.K W (dFor it u tb)) := PS.by (ps_for hp hc hi hg hb hs) fun E s H ⟨G, O, g, F, rl, gr, h, k⟩ => by
  refine ⟨G, O, g, _, rl, gr, h, fun xs ok O1 J G1 H1 go1 ir q1 => ?_⟩
  refine ⟨fun i m s' H' => ∃ G' O' g', Go X.K G1 O1 H1 G' O' H' ∧ GR X.K G' s' g' ∧ dLoop u tb ok F (xs.drop i) g' O' ∧ m = xs.length - i ∧ i ≤ xs.length, ⟨_, G1, O1, g, Go.refl go1.rel, gr.mono go1.ex, q1, rfl, Nat.zero_le _⟩, ?_⟩
  rintro i m s2 H2 ⟨G2, O2, g2, go2, gr2, q2, hm, hi⟩
  have g12 := go1.trans rl go2
  cases e : xs.drop i with
  | nil =>
    rw [e] at q2
    have hl : xs.length = i := by
      have := congrArg List.length e
      rw [List.length_drop, List.length_nil] at this
      omega
    refine .inl ⟨?_, k.nx _ _ _ _ _ g12 gr2 q2.2⟩
    rw [← hl]
    exact ir.stop G2 O2 H2 go2.ex go2.rel q2.1
  | cons x r =>
    rw [e] at q2
    obtain ⟨hx, hr⟩ := drop_cons e
    have hlt : i < xs.length := (List.getElem?_eq_some_iff.mp hx).1
    refine .inr ⟨ir.go i x G2 O2 H2 hx go2.ex go2.rel q2.1, fun s' H' => ∃ G' O' g', Go X.K G1 O1 H1 G' O' H' ∧ GR X.K G' s' g' ∧ dLoop u tb ok F r g' O', ?_, fun v H3 hy => ?_⟩
    · rintro s3 H3 ⟨G3, O3, g3, go3, gr3, q3⟩
      exact ⟨xs.length - (i + 1), by omega, G3, O3, g3, go3, gr3, by rw [hr]; exact q3, rfl, hlt⟩
    · obtain ⟨G3, go3, vr3⟩ := ir.yld i x G2 O2 H2 v H3 hx go2.ex go2.rel q2.1 hy
      refine ⟨G3, O2, g2, x, _, go3.rel, gr2.mono go3.ex, vr3, q2.2, fun s4 g4 O4 G4 H4 go4 gr4 q4 => ⟨G4, O4, g4, _, go4.rel, gr4, q4, ?_⟩⟩
      have g14 := (go2.trans go1.rel go3).trans go1.rel go4
      have k4 := k.from rl (go1.trans rl g14)
      exact ⟨fun s' g' O' G' H' go gr q => ⟨G', O', g', g14.trans go1.rel go, gr, q⟩, k4.nx, fun s' g' O' G' H' go gr q => ⟨G', O', g', g14.trans go1.rel go, gr, q⟩, k4.rt, k4.xc⟩
/-- a loop by its invariant over what was taken -/
theorem loop_by {u : DG} {tb : DS} {ok : Om → Prop} {F : DEnds} (I : List D → Gm → Om → Prop) {xs : List D} {g : Gm} {O : Om} (h0 : I [] g O) (hok : ∀ pre g O, I pre g O → ok O)
    (hs : ∀ pre x post g O (N : Gm → Om → Prop), xs = pre ++ x :: post → I pre g O → (∀ g' O', I (pre ++ [x]) g' O' → N g' O') → u x g O fun g1 O1 => tb { F with nx := N, ct := N, bk := F.nx } g1 O1)
    (hd : ∀ g O, I xs g O → F.nx g O) : dLoop u tb ok F xs g O := by
  have key : ∀ (post pre : List D) (g : Gm) (O : Om), xs = pre ++ post → I pre g O → dLoop u tb ok F post g O := by
    intro post
    induction post with
    | nil =>
      intro pre g O e h
      rw [List.append_nil] at e
      subst e
      exact ⟨hok _ _ _ h, hd g O h⟩
    | cons x post ih =>
      intro pre g O e h
      exact ⟨hok _ _ _ h, hs pre x post g O _ e h fun g1 O1 h1 => ih (pre ++ [x]) g1 O1 (by rw [e, List.append_assoc]; rfl) h1⟩
  exact key xs [] g O rfl h0
/-- a loop whose word doesn't speak of what was taken -/
theorem loop_all {u : DG} {tb : DS} {ok : Om → Prop} {F : DEnds} (I : Gm → Om → Prop) {xs : List D} {g : Gm} {O : Om} (h0 : I g O) (hok : ∀ g O, I g O → ok O)
    (hs : ∀ x g O (N : Gm → Om → Prop), x ∈ xs → I g O → (∀ g' O', I g' O' → N g' O') → u x g O fun g1 O1 => tb { F with nx := N, ct := N, bk := F.nx } g1 O1)
    (hd : ∀ g O, I g O → F.nx g O) : dLoop u tb ok F xs g O :=
  loop_by (fun _ => I) h0 (fun _ => hok) (fun pre x post g O N e h k => hs x g O N (by rw [e]; simp) h k) hd
end
end DL
set_option Elab.async false
set_option linter.all false
set_option maxRecDepth 100000
set_option maxHeartbeats 2000000
namespace DL
open PySem L2
open Evl (Ex)
abbrev Tr : Om → Prop := fun _ => True

/-! ### walks -/
section
variable {X : Cx} {tg : Expr} {K : PySem.W.Frag} {G : Hp}
theorem ItR.tup {a : Addr} {vs : List V} {xs : List D} (h : SqT K G a vs) (r : VRs K G vs xs) : ItR K (Itt K a) G xs Tr where
  stop := fun G1 O H ex rl _ => ⟨vs, Evl.ex_t rl.g (Evl.ex_t ex h), Nat.le_of_eq r.length⟩
  go := fun i d G1 O H e ex rl _ => by
    obtain ⟨v, h1, _⟩ := r.get e
    exact ⟨vs, v, Evl.ex_t rl.g (Evl.ex_t ex h), h1⟩
  yld := fun i d G1 O H x H' e ex rl _ y => by
    obtain ⟨rfl, hy⟩ := y
    obtain ⟨v, h1, h2⟩ := r.get e
    have := hy vs (Evl.ex_t rl.g (Evl.ex_t ex h))
    rw [h1] at this; cases this
    exact ⟨G1, Go.refl rl, h2.mono ex⟩
theorem ItR.lst {a : Addr} {vs : List V} {xs : List D} (h : SqL K G a vs) (r : VRs K G vs xs) : ItR K (Itl K a) G xs Tr where
  stop := fun G1 O H ex rl _ => ⟨vs, Evl.ex_l rl.g (Evl.ex_l ex h), Nat.le_of_eq r.length⟩
  go := fun i d G1 O H e ex rl _ => by
    obtain ⟨v, h1, _⟩ := r.get e
    exact ⟨vs, v, Evl.ex_l rl.g (Evl.ex_l ex h), h1⟩
  yld := fun i d G1 O H x H' e ex rl _ y => by
    obtain ⟨rfl, hy⟩ := y
    obtain ⟨v, h1, h2⟩ := r.get e
    have := hy vs (Evl.ex_l rl.g (Evl.ex_l ex h))
    rw [h1] at this; cases this
    exact ⟨G1, Go.refl rl, h2.mono ex⟩
theorem ItR.own {a : Addr} {xs : List D} : ItR K (Itl K a) G xs (fun O => O a = some (.lst xs)) where
  stop := fun G1 O H ex rl e => by
    obtain ⟨vs, h1, h2⟩ := rl.lst e
    exact ⟨vs, SqL.of h1, Nat.le_of_eq h2.length⟩
  go := fun i d G1 O H e ex rl eo => by
    obtain ⟨vs, h1, h2⟩ := rl.lst eo
    obtain ⟨v, h3, _⟩ := h2.get e
    exact ⟨vs, v, SqL.of h1, h3⟩
  yld := fun i d G1 O H x H' e ex rl eo y => by
    obtain ⟨rfl, hy⟩ := y
    obtain ⟨vs, h1, h2⟩ := rl.lst eo
    obtain ⟨v, h3, h4⟩ := h2.get e
    have := hy vs (SqL.of h1)
    rw [h3] at this; cases this
    exact ⟨G1, Go.refl rl, h4⟩
theorem ItR.rng {lo : Int} {n : Nat} : ItR K (Itr lo n) G ((List.range n).map fun k => D.int (lo + (k : Nat))) Tr where
  stop := fun G1 O H ex rl e => by simp [Itr]
  go := fun i d G1 O H e ex rl eo => by
    have := (List.getElem?_eq_some_iff.mp e).1
    simpa [Itr] using this
  yld := fun i d G1 O H x H' e ex rl eo y => by
    obtain ⟨rfl, rfl⟩ := y
    have hi : i < n := by simpa using (List.getElem?_eq_some_iff.mp e).1
    rw [List.getElem?_map, List.getElem?_range hi] at e
    cases e
    exact ⟨G1, Go.refl rl, .int _⟩
theorem ItR.rngC {lo c : Int} {n : Nat} : ItR K (Itc lo c n) G ((List.range n).map fun k => D.int (lo + (k : Nat) * c)) Tr where
  stop := fun G1 O H ex rl e => by simp [Itc]
  go := fun i d G1 O H e ex rl eo => by
    have := (List.getElem?_eq_some_iff.mp e).1
    simpa [Itc] using this
  yld := fun i d G1 O H x H' e ex rl eo y => by
    obtain ⟨rfl, rfl⟩ := y
    have hi : i < n := by simpa using (List.getElem?_eq_some_iff.mp e).1
    rw [List.getElem?_map, List.getElem?_range hi] at e
    cases e
    exact ⟨G1, Go.refl rl, .int _⟩
theorem ItR.str {z : Str} : ItR K (Its z) G (z.cps.toList.map fun c => D.str ⟨#[c]⟩) Tr where
  stop := fun G1 O H ex rl e => by simp [Its]
  go := fun i d G1 O H e ex rl eo => by
    have := (List.getElem?_eq_some_iff.mp e).1
    simpa [Its] using this
  yld := fun i d G1 O H x H' e ex rl eo y => by
    obtain ⟨rfl, c, hc, rfl⟩ := y
    rw [List.getElem?_map, Array.getElem?_toList, hc] at e
    cases e
    exact ⟨G1, Go.refl rl, .str _⟩

/-- a list, a tuple, a text -/
def dSeqI (te : DE) : DI := fun g O R => te g O fun x O1 => match x with
  | .tup xs => R xs Tr O1
  | .lst xs => R xs Tr O1
  | .str z => R (z.cps.toList.map fun c => D.str ⟨#[c]⟩) Tr O1
  | .ref a => match O1 a with | some (.lst xs) => R xs (fun O => O a = some (.lst xs)) O1 | _ => False
  | _ => False
def iSeq (K : PySem.W.Frag) (tl : TE) : TI := fun σ H R => tl σ H fun x H1 => (∃ a, x = .ref a ∧ (∃ xs, SqL K H1 a xs) ∧ R (Itl K a) H1) ∨ (∃ a, x = .ref a ∧ (∃ xs, SqT K H1 a xs) ∧ R (Itt K a) H1) ∨ (∃ z, x = .str z ∧ R (Its z) H1)
theorem pi_seq {l : Expr} {tl : TE} (hl : PE X l tl) : PI X tg l (iSeq X.K tl) := by
  refine ⟨fun pins s σ H R I h => ?_⟩
  refine thn (hl.run pins s σ H _ I h) fun v s1 ⟨x, H1, I1, r1, q1⟩ => ?_
  rcases q1 with ⟨a, e, ⟨xs, hq⟩, q⟩ | ⟨a, e, ⟨xs, hq⟩, q⟩ | ⟨z, e, q⟩
  · subst e
    cases r1
    obtain ⟨its, rv, p, hz⟩ := I1.list hq
    refine wpAny_pyIter_list p.isList ?_
    refine ⟨s1.heap.objs.size, [s1.heap.objs.size], _, _, H1, rfl, I1.kept (t' := s1.toks) fun b o e => Heap.get?_push_of_some _ e, turn_list a _, ⟨_, Heap.get?_push_size _ rfl, rfl, rfl⟩, fun b hb => ?_, q⟩
    have e : b = s1.heap.objs.size := by simpa using hb
    subst e
    exact I1.fpOk (Nat.le_refl _) (I1.hok.fresh (Nat.le_refl _))
  · subst e
    cases r1
    obtain ⟨its, rv, p, hz⟩ := I1.tuple hq
    refine wpAny_pyIter_tuple (show s1.heap.IsTuple a its.toArray from p) ?_
    refine ⟨s1.heap.objs.size, [s1.heap.objs.size], _, _, H1, rfl, I1.kept (t' := s1.toks) fun b o e => Heap.get?_push_of_some _ e, turn_tuple a _, ⟨_, Heap.get?_push_size _ rfl, rfl, rfl⟩, fun b hb => ?_, q⟩
    have e : b = s1.heap.objs.size := by simpa using hb
    subst e
    exact I1.fpOk (Nat.le_refl _) (I1.hok.fresh (Nat.le_refl _))
  · subst e
    obtain ⟨t, rfl⟩ := r1
    cases ha : z.cps.all (· < 128)
    · exact wpAny_pyIter_wide ha (pi_one (tk := s1.toks) I1 _ (turn_str _ z t "str_iterator" (.inr rfl)) ⟨_, Heap.get?_push_size _ rfl, rfl, rfl⟩ q)
    · exact wpAny_pyIter_ascii ha (pi_one (tk := s1.toks) I1 _ (turn_str _ z t "str_ascii_iterator" (.inl rfl)) ⟨_, Heap.get?_push_size _ rfl, rfl, rfl⟩ q)
theorem i_seq {l : Expr} {te : DE} (hl : PE X l (lowE X.K te)) : PI X tg l (lowI X.K (dSeqI te)) := PI.by (pi_seq hl) fun s H R ⟨G, O, g, R', rl, gr, h, k⟩ =>
  ⟨G, O, g, _, rl, gr, h, fun x O1 v G1 H1 go1 vr1 q1 => by
    cases vr1 with
    | tup h1 h2 => exact .inr (.inl ⟨_, rfl, ⟨_, Evl.ex_t go1.rel.g h1⟩, k _ _ _ _ _ _ go1 (ItR.tup h1 h2) q1⟩)
    | lst h1 h2 => exact .inl ⟨_, rfl, ⟨_, Evl.ex_l go1.rel.g h1⟩, k _ _ _ _ _ _ go1 (ItR.lst h1 h2) q1⟩
    | str z => exact .inr (.inr ⟨z, rfl, k _ _ _ _ _ _ go1 ItR.str q1⟩)
    | ref a =>
      have q1 : (match O1 a with | some (.lst xs) => R' xs (fun O => O a = some (.lst xs)) O1 | _ => False) := q1
      cases e : O1 a with
      | none => simp only [e] at q1
      | some o =>
        cases o with
        | lst xs =>
          simp only [e] at q1
          obtain ⟨vs, h1, h2⟩ := go1.rel.lst e
          exact .inl ⟨a, rfl, ⟨vs, SqL.of h1⟩, k _ _ _ _ _ _ go1 ItR.own q1⟩
        | _ => simp only [e] at q1
    | _ => exact False.elim q1⟩
def rgD (lo : Int) (n : Nat) : List D := (List.range n).map fun k => D.int (lo + (k : Nat))
def dRng1 (t : DA) : DI := fun g O R => t g O fun xs O1 => match xs with | [.int j] => -(2 ^ 62) ≤ j ∧ j < 2 ^ 62 ∧ R (rgD 0 j.toNat) Tr O1 | _ => False
def dRng2 (t : DA) : DI := fun g O R => t g O fun xs O1 => match xs with | [.int i, .int j] => (-(2 ^ 62) ≤ i ∧ i < 2 ^ 62 ∧ -(2 ^ 62) ≤ j ∧ j < 2 ^ 62) ∧ R (rgD i (j - i).toNat) Tr O1 | _ => False
def dRng3 (t : DA) : DI := fun g O R => t g O fun xs O1 => match xs with | [.int i, .int j, .int c] => c = -1 ∧ (-(2 ^ 62) ≤ i ∧ i < 2 ^ 62 ∧ -(2 ^ 62) ≤ j ∧ j < 2 ^ 62) ∧ R ((List.range (i - j).toNat).map fun k => D.int (i - (k : Nat))) Tr O1 | _ => False
theorem i_range1 {a : Expr} {ta : DA} {p pos : Pos} {n : Nat} (hm : X.mg "range" = none) (ha : PA X [a] (lowA X.K n ta)) (hg : Gl X "range" := by rfl) (hs : starEach [a] X.env = [(false, eval a X.env)] := by rfl) : PI X tg (.Call (.Name "range" p) [a] [] pos) (lowI X.K (dRng1 ta)) :=
  PI.by (pi_range1 hg hm ha hs) fun s H R ⟨G, O, g, R', rl, gr, h, k⟩ => ⟨G, O, g, _, rl, gr, h, fun xs O1 vs G1 H1 go1 vr1 hl q1 => by
    match xs, vr1, q1 with
    | [.int j], vr1, q1 =>
      obtain ⟨v, rfl, hv⟩ := vr1.one
      cases hv
      exact ⟨j, rfl, q1.1, q1.2.1, k _ _ _ _ _ _ go1 ItR.rng q1.2.2⟩⟩
theorem i_range2 {a b : Expr} {ta : DA} {p pos : Pos} {n : Nat} (hm : X.mg "range" = none) (ha : PA X [a, b] (lowA X.K n ta)) (hg : Gl X "range" := by rfl) (hs : starEach [a, b] X.env = [(false, eval a X.env), (false, eval b X.env)] := by rfl) (hs2 : starEach [b] X.env = [(false, eval b X.env)] := by rfl) : PI X tg (.Call (.Name "range" p) [a, b] [] pos) (lowI X.K (dRng2 ta)) :=
  PI.by (pi_range2 hg hm ha hs hs2) fun s H R ⟨G, O, g, R', rl, gr, h, k⟩ => ⟨G, O, g, _, rl, gr, h, fun xs O1 vs G1 H1 go1 vr1 hl q1 => by
    match xs, vr1, q1 with
    | [.int i, .int j], vr1, q1 =>
      obtain ⟨v, u, rfl, hv, hu⟩ := vr1.two
      cases hv; cases hu
      exact ⟨i, j, rfl, q1.1, k _ _ _ _ _ _ go1 ItR.rng q1.2⟩⟩
theorem i_range3 {a b c : Expr} {ta : DA} {p pos : Pos} {n : Nat} (hm : X.mg "range" = none) (ha : PA X [a, b, c] (lowA X.K n ta)) (hg : Gl X "range" := by rfl) (hs : starEach [a, b, c] X.env = (false, eval a X.env) :: starEach [b, c] X.env := by rfl) (hpl : (backTo pos (starEach [b, c] X.env)).any (·.1) = false := by rfl) : PI X tg (.Call (.Name "range" p) [a, b, c] [] pos) (lowI X.K (dRng3 ta)) :=
  PI.by (pi_range3 hg hm ha hs hpl) fun s H R ⟨G, O, g, R', rl, gr, h, k⟩ => ⟨G, O, g, _, rl, gr, h, fun xs O1 vs G1 H1 go1 vr1 hl q1 => by
    match xs, vr1, q1 with
    | [.int i, .int j, .int c], vr1, q1 =>
      obtain ⟨rfl, ⟨h1, h2, h3, h4⟩, q1⟩ := q1
      cases vr1 with
      | cons hv r =>
        obtain ⟨u, w, rfl, hu, hw⟩ := r.two
        cases hv; cases hu; cases hw
        refine ⟨i, j, -1, _, rfl, RgC.neg h1 h2 h3 h4, k _ _ _ _ _ _ go1 ItR.rngC ?_⟩
        have e : ((List.range (i - j).toNat).map fun k => D.int (i - (k : Nat))) = ((List.range (i - j).toNat).map fun k => D.int (i + (k : Nat) * (-1))) := List.map_congr_left fun k _ => by
          congr 1; omega
        rw [← e]; exact q1⟩
/-- enumerate(list) -/
def enD (xs : List D) : List D := (xs.zipIdx).map fun p => D.tup [.int (p.2 : Nat), p.1]
theorem ItR.enum {a : Addr} {xs : List D} {ok : Om → Prop} (h : ∀ G1 O H, Ex G G1 → Rel K G1 O H → ok O → ∃ vs, SqL K H a vs ∧ VRs K G1 vs xs) : ItR K (Ite K a) G (enD xs) ok where
  stop := fun G1 O H ex rl eo => by
    obtain ⟨vs, h1, h2⟩ := h G1 O H ex rl eo
    exact ⟨vs, h1, by rw [h2.length]; simp [enD]⟩
  go := fun i d G1 O H e ex rl eo => by
    obtain ⟨vs, h1, h2⟩ := h G1 O H ex rl eo
    have hi : i < xs.length := by simpa [enD] using (List.getElem?_eq_some_iff.mp e).1
    obtain ⟨v, h3, _⟩ := h2.get (List.getElem?_eq_getElem hi)
    exact ⟨vs, v, h1, h3⟩
  yld := fun i d G1 O H x H' e ex rl eo y => by
    obtain ⟨T, w, rfl, hT, rfl, hw⟩ := y
    obtain ⟨vs, h1, h2⟩ := h G1 O H ex rl eo
    have hi : i < xs.length := by simpa [enD] using (List.getElem?_eq_some_iff.mp e).1
    obtain ⟨v, h3, h4⟩ := h2.get (List.getElem?_eq_getElem hi)
    have := hw vs h1
    rw [h3] at this; cases this
    have ed : d = D.tup [.int (i : Nat), xs[i]] := by
      unfold enD at e
      rw [List.getElem?_map, List.getElem?_zipIdx, List.getElem?_eq_getElem hi] at e
      simp at e
      exact e.symm
    subst ed
    have g := Go.data rl (u := .tup [.int (i : Nat), w]) hT
    exact ⟨_, g, .tup (SqT.of upd_same) (.cons (.int _) (.cons (h4.mono g.ex) .nil))⟩
def dEnum (t : DE) : DI := fun g O R => t g O fun x O1 => match x with
  | .lst xs => R (enD xs) Tr O1
  | .ref a => match O1 a with | some (.lst xs) => R (enD xs) (fun O => O a = some (.lst xs)) O1 | _ => False
  | _ => False
theorem i_enumL {e : Expr} {te : DE} {p pos tpos : Pos} {elts : List Expr} {kk : Nat} (hm : X.mg "enumerate" = none) (he : PE X e (lowE X.K te)) (hg : Gl X "enumerate" := by rfl) (hs : starEach [e] X.env = [(false, eval e X.env)] := by rfl) : PI X (.Tuple elts kk tpos) (.Call (.Name "enumerate" p) [e] [] pos) (lowI X.K (dEnum te)) :=
  PI.by (pi_enum hg hm (pa_cons he pa_nil hs) hs) fun s H R ⟨G, O, g, R', rl, gr, h, k⟩ => ⟨G, O, g, _, rl, gr, h, fun x O1 v G1 H1 go1 vr1 q1 => by
    cases vr1 with
    | lst h1 h2 => exact ⟨_, _, rfl, Evl.ex_l go1.rel.g h1, k _ _ _ _ _ _ go1 (ItR.enum (a := _) fun G2 O2 H2 ex rl2 _ => ⟨_, Evl.ex_l rl2.g (Evl.ex_l ex h1), h2.mono ex⟩) q1⟩
    | ref a =>
      have q1 : (match O1 a with | some (.lst xs) => R' (enD xs) (fun O => O a = some (.lst xs)) O1 | _ => False) := q1
      cases e : O1 a with
      | none => simp only [e] at q1
      | some o =>
        cases o with
        | lst xs =>
          simp only [e] at q1
          obtain ⟨vs, h1, h2⟩ := go1.rel.lst e
          exact ⟨a, vs, rfl, SqL.of h1, k _ _ _ _ _ _ go1 (ItR.enum (a := a) fun G2 O2 H2 ex rl2 eo => by
            obtain ⟨vs, h1, h2⟩ := rl2.lst eo
            exact ⟨vs, SqL.of h1, h2⟩) q1⟩
        | _ => simp only [e] at q1
    | _ => exact False.elim q1⟩
/-- reversed(list or tuple) -/
theorem rev_get {A : Type} {xs : List A} {i : Nat} (h : i < xs.length) : xs.reverse[i]? = xs[xs.length - 1 - i]? := by
  rw [List.getElem?_reverse h]
def dRev (t : DE) : DI := fun g O R => t g O fun x O1 => match x with
  | .tup xs => R xs.reverse Tr O1
  | .lst xs => R xs.reverse Tr O1
  | .ref a => match O1 a with | some (.lst xs) => R xs.reverse (fun O => O a = some (.lst xs)) O1 | _ => False
  | _ => False
end

/-! ### comprehensions -/
def wipeD (g : Gm) : List Nat → Gm
  | [] => g
  | v :: vs => (wipeD g vs).set v none
theorem GR.wipe {K : PySem.W.Frag} {G : Hp} {s : St} {g : Gm} (h : GR K G s g) : ∀ vs : List Nat, GR K G (wipe s vs) (wipeD g vs)
  | [] => h
  | v :: vs => (GR.wipe h vs).forget v none
theorem wipe_set {s : St} {v : Option V} {i : Nat} : ∀ {vs : List Nat}, i ∈ vs → L2.wipe (s.set i v) vs = L2.wipe s vs
  | [], h => by simp at h
  | w :: vs, h => by
    unfold L2.wipe
    by_cases e : i ∈ vs
    · rw [wipe_set e]
    · have hw : i = w := by simpa [e] using h
      subst hw
      have comm : ∀ (us : List Nat), i ∉ us → L2.wipe (s.set i v) us = (L2.wipe s us).set i v := by
        intro us
        induction us with
        | nil => intro _; rfl
        | cons u us ih =>
          intro hu
          unfold L2.wipe
          rw [ih (fun z => hu (List.mem_cons_of_mem _ z)), List.set_comm _ _ (fun z => hu (by rw [z]; exact List.mem_cons_self))]
      rw [comm vs e, List.set_set]
def lowGw (K : PySem.W.Frag) (vs : List Nat) (t : DG) : TG := fun v s H Q => ∃ (G : Hp) (O : Om) (g : Gm) (x : D) (R : Gm → Om → Prop), Rel K G O H ∧ GR K G s g ∧ VR K G v x ∧ t x g O R ∧ ∀ s' g' O' G' H', Go K G O H G' O' H' → GR K G' s' g' → L2.wipe s' vs = L2.wipe s vs → R g' O' → Q s' H'
def lowGsw (K : PySem.W.Frag) (vs : List Nat) (t : DGs) : TGs := fun v s H Q => ∃ (G : Hp) (O : Om) (g : Gm) (x : List D) (R : Gm → Om → Prop), Rel K G O H ∧ GR K G s g ∧ VRs K G v x ∧ t x g O R ∧ ∀ s' g' O' G' H', Go K G O H G' O' H' → GR K G' s' g' → L2.wipe s' vs = L2.wipe s vs → R g' O' → Q s' H'
section
variable {X : Cx} {pos : Pos} {vs : List Nat}
theorem gw_name {i : Nat} {x : Str} (hN : X.N.Nodup) (hi : X.N[i]? = some x) (hx : Loc X.env.scope x) (hv : i ∈ vs := by decide) (hf : X.fn x = true ∨ X.env.scope.names.lookup x = some .local := by first | exact .inl rfl | exact .inr rfl | assumption) : PG X (.Name x pos) (lowGw X.K vs (gN i)) :=
  PG.by (pg_name hN hi hx hf) fun v s H Q ⟨G, O, g, x, R, rl, gr, vr, h, k⟩ => k _ _ _ _ _ (Go.refl rl) (gr.set i vr) (wipe_set hv) h
theorem gsw_nil : PGs X [] (lowGsw X.K vs gsNil) := PGs.by pgs_nil fun v s H Q ⟨G, O, g, x, R, rl, gr, vr, h, k⟩ => by
  cases vr with
  | nil => exact ⟨rfl, k _ _ _ _ _ (Go.refl rl) gr rfl h⟩
  | cons _ _ => exact False.elim h
theorem gsw_cons {e : Expr} {es : List Expr} {t : DG} {u : DGs} (h1 : PG X e (lowGw X.K vs t)) (h2 : PGs X es (lowGsw X.K vs u))
    (hs : (assignEach (e :: es) X.env).map (·.2) = assign e X.env :: (assignEach es X.env).map (·.2) := by rfl) : PGs X (e :: es) (lowGsw X.K vs (gsCons t u)) := PGs.by (pgs_cons h1 h2 hs) fun v s H Q ⟨G, O, g, x, R, rl, gr, vr, h, k⟩ => by
  cases vr with
  | nil => exact False.elim h
  | cons hv hr => exact ⟨_, _, rfl, G, O, g, _, _, rl, gr, hv, h, fun s1 g1 O1 G1 H1 go1 gr1 w1 q1 => ⟨G1, O1, g1, _, R, go1.rel, gr1, hr.mono go1.ex, q1, fun s2 g2 O2 G2 H2 go2 gr2 w2 q2 => k _ _ _ _ _ (go1.trans rl go2) gr2 (w2.trans w1) q2⟩⟩
theorem gw_tup {es : List Expr} {k : Nat} {t : DGs} {n : Nat} (hc : X.calm = true) (h : PGs X es (lowGsw X.K vs t))
    (hn : (assignEach es X.env).length = n := by rfl) (hst : (assignEach es X.env).findIdx? (·.1) = none := by rfl) : PG X (.Tuple es k pos) (lowGw X.K vs (gT n t)) := PG.by (pg_tup hc h hn hst) fun v s H Q ⟨G, O, g, x, R, rl, gr, vr, h, k⟩ => by
  cases vr with
  | tup h1 h2 => exact ⟨_, _, rfl, Evl.ex_t rl.g h1, h2.length.trans h.1, G, O, g, _, R, rl, gr, h2, h.2, k⟩
  | _ => exact False.elim h
def dYes : DT := fun _ O R => R true O
theorem PTs.by {X : Cx} {e : List Expr} {t t' : TT} (h : PTs X e t) (k : ∀ s H Q, t' s H Q → t s H Q) : PTs X e t' := ⟨fun pins s σ H Q I q => h.run pins s σ H Q I (k σ H Q q)⟩
theorem ts_nil : PTs X [] (lowT X.K dYes) := PTs.by pts_nil fun s H Q ⟨G, O, g, R, rl, gr, h, k⟩ => k _ _ _ _ (Go.refl rl) h
theorem ts_one {c : Expr} {t : DT} (h : PT X c (lowT X.K t)) : PTs X [c] (lowT X.K t) := pts_one h
end
def dComp (u : DG) (tt : DT) (te : DE) (ok : Om → Prop) (g : Gm) (R : List D → Om → Prop) : List D → List D → Om → Prop
  | [], acc, O => ok O ∧ R acc O
  | x :: xs, acc, O => ok O ∧ u x g O fun g1 O1 => tt g1 O1 fun b O2 => if b = true then te g1 O2 fun y O3 => acc.length < sizeLine ∧ dComp u tt te ok g R xs (acc ++ [y]) O3 else dComp u tt te ok g R xs acc O2
def dLc (it : DI) (u : DG) (tt : DT) (te : DE) (vs : List Nat) : DE := fun g O R => it g O fun xs ok O1 => dComp u tt te ok (wipeD g vs) (fun ys O2 => ∀ p, O2 p = none → R (.ref p) (up O2 p (.lst ys))) xs [] O1
section
variable {X : Cx} {pos : Pos} {tg : Expr}
theorem low_lc {K : PySem.W.Frag} {it : DI} {u : DG} {tt : DT} {te : DE} {vs : List Nat} : ∀ s H Q, lowE K (dLc it u tt te vs) s H Q → tLc (lowI K it) (lowGw K vs u) (lowT K tt) (lowE K te) vs s H Q := fun s H Q ⟨G, O, g, R, rl, gr, h, k⟩ => by
  refine ⟨G, O, g, _, rl, gr, h, fun xs ok O1 J G1 H1 go1 ir q1 => ?_⟩
  intro Dl hD
  obtain ⟨hO, hG⟩ := go1.rel.fresh hD
  have g0 : Go K G1 O1 H1 G1 (up O1 Dl (.lst [])) (upd H1 Dl (.lst [])) := Go.new go1.rel (o := .lst []) (u := .lst []) hD .nil
  have less : ∀ {O' : Om} {o : DO}, O' Dl = none → ∀ a w, O' a = some w → up O' Dl o a = some w := fun {O' o} n a w e => by rw [up_ne (fun z => by subst z; rw [n] at e; cases e)]; exact e
  refine ⟨fun i m H' => ∃ G' O' acc, Go K G1 O1 H1 G' (up O' Dl (.lst acc)) H' ∧ O' Dl = none ∧ dComp u tt te ok (wipeD g vs) (fun ys O2 => ∀ p, O2 p = none → R (.ref p) (up O2 p (.lst ys))) (xs.drop i) acc O' ∧ m = xs.length - i ∧ i ≤ xs.length,
    ⟨_, G1, O1, [], g0, hO, q1, rfl, Nat.zero_le _⟩, ?_⟩
  rintro i m H2 ⟨G2, O2, acc, go2, nO2, q2, hm, hi⟩
  have r2 : Rel K G2 O2 H2 := go2.rel.less (less nO2)
  obtain ⟨nG2, uu, hh, qq⟩ := go2.rel.o Dl _ up_same
  cases e : xs.drop i with
  | nil =>
    rw [e] at q2
    have hl : xs.length = i := by
      have := congrArg List.length e
      rw [List.length_drop, List.length_nil] at this
      omega
    refine .inl ⟨?_, k _ _ _ _ _ (go1.trans rl go2) (.ref Dl) (q2.2 Dl nO2)⟩
    rw [← hl]
    exact ir.stop G2 O2 H2 go2.ex r2 q2.1
  | cons x r =>
    rw [e] at q2
    obtain ⟨hx, hr⟩ := drop_cons e
    have hlt : i < xs.length := (List.getElem?_eq_some_iff.mp hx).1
    refine .inr ⟨ir.go i x G2 O2 H2 hx go2.ex r2 q2.1, fun H' => ∃ G' O' acc, Go K G1 O1 H1 G' (up O' Dl (.lst acc)) H' ∧ O' Dl = none ∧ dComp u tt te ok (wipeD g vs) (fun ys O2 => ∀ p, O2 p = none → R (.ref p) (up O2 p (.lst ys))) r acc O', ?_, fun v H3 hy => ?_⟩
    · rintro H3 ⟨G3, O3, acc3, go3, n3, q3⟩
      exact ⟨xs.length - (i + 1), by omega, G3, O3, acc3, go3, n3, by rw [hr]; exact q3, rfl, hlt⟩
    · obtain ⟨G3, go3, vr3⟩ := ir.yld i x G2 O2 H2 v H3 hx go2.ex r2 q2.1 hy
      refine ⟨G3, O2, wipeD g vs, x, _, go3.rel, (gr.mono (go1.ex.trans (go2.ex.trans go3.ex))).wipe vs, vr3, q2.2, fun s4 g4 O4 G4 H4 go4 gr4 w4 q4 => ⟨w4.trans ?_, G4, O4, g4, _, go4.rel, gr4, q4, fun b O5 G5 H5 go5 q5 => ?_⟩⟩
      · have wipe2 : ∀ us : List Nat, (∀ a ∈ us, a ∈ vs) → L2.wipe (L2.wipe s us) vs = L2.wipe s vs := by
          intro us
          induction us with
          | nil => intro _; rfl
          | cons a us ih =>
            intro ha
            show L2.wipe ((L2.wipe s us).set a none) vs = _
            rw [wipe_set (ha a List.mem_cons_self)]
            exact ih fun b hb => ha b (List.mem_cons_of_mem _ hb)
        exact wipe2 vs fun _ z => z
      · have g25 : Go K G2 O2 H2 G5 O5 H5 := (go3.trans r2 go4).trans r2 go5
        cases b with
        | false =>
          obtain ⟨n5, h5, f5⟩ := g25.frame nO2 nG2 hh qq
          exact ⟨G5, O5, acc, go2.trans go1.rel f5, n5, q5⟩
        | true =>
          refine ⟨G5, O5, g4, _, go5.rel, gr4.mono go5.ex, q5, fun y O6 w G6 H6 go6 vr6 q6 => ?_⟩
          have g26 := g25.trans r2 go6
          obtain ⟨n6, h6, f6⟩ := g26.frame nO2 nG2 hh qq
          have g16 := go2.trans go1.rel f6
          obtain ⟨_, u6, h6', q6'⟩ := g16.rel.o Dl _ up_same
          cases u6 with
          | lst vacc =>
            have hv : VRs K G6 vacc acc := q6'
            have gw := Go.write g16.rel (a := Dl) (o := .lst (acc ++ [y])) (u := .lst (vacc ++ [w])) up_same (hv.append (.cons vr6 .nil))
            rw [up_up] at gw
            exact ⟨vacc, h6', by rw [hv.length]; exact q6.1, G6, O6, acc ++ [y], g16.trans go1.rel gw, n6, q6.2⟩
          | _ => exact False.elim q6'
theorem e_lc {elt iter : Expr} {ifs : List Expr} {scope : Scope} {own : List (Str × Nat)} {it : DI} {u : DG} {tt : DT} {te : DE} (hc : X.calm = true) (hN : X.N.Nodup) (hi : PI X tg iter (lowI X.K it)) (ok : BlkOk X.N X.env.scope scope own)
    (hg : ∀ (s : Shared) (H : Hp) (C : Addr) (cl : List (Str × Addr)) (fp : List Addr), PG (X.blk s H scope (compEnvC scope cl C X.env) fp) tg (lowGw X.K (own.map (·.2)) u)) (ht : ∀ (s : Shared) (H : Hp) (C : Addr) (cl : List (Str × Addr)) (fp : List Addr), PTs (X.blk s H scope (compEnvC scope cl C X.env) fp) ifs (lowT X.K tt))
    (he : ∀ (s : Shared) (H : Hp) (C : Addr) (cl : List (Str × Addr)) (fp : List Addr), PE (X.blk s H scope (compEnvC scope cl C X.env) fp) elt (lowE X.K te)) (hs : ∀ x, foldedSetIterable iter X.env x = pure x := by intro _; rfl) :
    PE X (.ListComp elt [⟨tg, iter, ifs, 0⟩] scope pos) (lowE X.K (dLc it u tt te (own.map (·.2)))) := PE.by (pe_lc hc hN hi ok hg ht he hs) low_lc
theorem s_setLc {W : WX} {i : Nat} {y : Str} {py : Pos} {elt iter : Expr} {ifs : List Expr} {scope : Scope} {own : List (Str × Nat)} {spos : Pos} {it : DI} {u : DG} {tt : DT} {te : DE} (hc : X.calm = true) (hN : X.N.Nodup) (hy : X.N[i]? = some y) (hyl : X.env.scope.names.lookup y = some .local)
    (hsw : swapsWith (.ListComp elt [⟨tg, iter, ifs, 0⟩] scope pos) (some (.Name y py)) spos.line X.env = pure true) (hi : PI X tg iter (lowI X.K it)) (ok : BlkOk X.N X.env.scope scope own)
    (hg : ∀ (s : Shared) (H : Hp) (C : Addr) (cl : List (Str × Addr)) (fp : List Addr), PG (X.blk s H scope (compEnvC scope cl C X.env) fp) tg (lowGw X.K (own.map (·.2)) u)) (ht : ∀ (s : Shared) (H : Hp) (C : Addr) (cl : List (Str × Addr)) (fp : List Addr), PTs (X.blk s H scope (compEnvC scope cl C X.env) fp) ifs (lowT X.K tt))
    (he : ∀ (s : Shared) (H : Hp) (C : Addr) (cl : List (Str × Addr)) (fp : List Addr), PE (X.blk s H scope (compEnvC scope cl C X.env) fp) elt (lowE X.K te)) (hs : ∀ x, foldedSetIterable iter X.env x = pure x := by intro _; rfl) :
    PS X (.Assign [.Name y py] (.ListComp elt [⟨tg, iter, ifs, 0⟩] scope pos) spos) (lowS X.K W (dSet i (dLc it u tt te (own.map (·.2))))) := PS.by (ps_setLc hc hN hy hyl hsw hi ok hg ht he hs) fun E s H ⟨G, O, g, F, rl, gr, h, k⟩ =>
  low_lc s H _ ⟨G, O, g, _, rl, gr, h, fun x O1 v G1 H1 go1 vr1 q1 => k.nx _ _ _ _ _ go1 ((gr.mono go1.ex).set i vr1) q1⟩
end
/-- a comprehension whose every turn keeps I and gives f of the item -/
theorem comp_by {u : DG} {tt : DT} {te : DE} {ok : Om → Prop} {g : Gm} {R : List D → Om → Prop} (I : List D → List D → Om → Prop) {xs : List D} {O : Om} (h0 : I [] [] O) (hok : ∀ pre acc O, I pre acc O → ok O)
    (hs : ∀ pre x post acc O (N : List D → Om → Prop), xs = pre ++ x :: post → I pre acc O → (∀ acc' O', I (pre ++ [x]) acc' O' → N acc' O') → u x g O fun g1 O1 => tt g1 O1 fun b O2 => if b = true then te g1 O2 fun y O3 => acc.length < sizeLine ∧ N (acc ++ [y]) O3 else N acc O2)
    (hd : ∀ acc O, I xs acc O → R acc O) : dComp u tt te ok g R xs [] O := by
  have key : ∀ (post pre acc : List D) (O : Om), xs = pre ++ post → I pre acc O → dComp u tt te ok g R post acc O := by
    intro post
    induction post with
    | nil =>
      intro pre acc O e h
      rw [List.append_nil] at e
      subst e
      exact ⟨hok _ _ _ h, hd acc O h⟩
    | cons x post ih =>
      intro pre acc O e h
      exact ⟨hok _ _ _ h, hs pre x post acc O _ e h fun acc1 O1 h1 => ih (pre ++ [x]) acc1 O1 (by rw [e, List.append_assoc]; rfl) h1⟩
  exact key xs [] [] O rfl h0
end DL
set_option Elab.async false
set_option linter.all false
set_option maxRecDepth 100000
set_option maxHeartbeats 2000000
namespace DL
open PySem PySem.Spec PyProof.Rows L2
open Evl (Ex)

/-! ### promises -/
abbrev XD := Value → Option Addr → Om → Prop
abbrev DSp := List D → Om → (D → Om → Prop) → XD → Prop
abbrev X0 : XD := fun _ _ _ => False
abbrev W0 : WX := fun _ _ _ _ => False
def toSp (K : PySem.W.Frag) (d : DSp) : Sp := fun vs H Q E => ∃ (G : Hp) (O : Om) (xs : List D) (R : D → Om → Prop) (Z : XD), Rel K G O H ∧ VRs K G vs xs ∧ d xs O R Z ∧
  (∀ x O' v G' H', Go K G O H G' O' H' → VR K G' v x → R x O' → Q v H') ∧ ∀ c e O' G' H', Go K G O H G' O' H' → Z c e O' → E c e H'
/-- forgetting at the end -/
def Fin (R : D → Om → Prop) (x : D) (O : Om) : Prop := ∃ O', (∀ a o, O' a = some o → O a = some o) ∧ R x O'
theorem Fin.here {R : D → Om → Prop} {x : D} {O : Om} (h : R x O) : Fin R x O := ⟨O, fun _ _ e => e, h⟩
theorem sub_up {O O1 : Om} {a : Addr} {o : DO} (n : O a = none) (h : ∀ b w, O b = some w → O1 b = some w) : ∀ b w, O b = some w → up O1 a o b = some w := fun b w e => by
  rw [up_ne (fun z => by subst z; rw [n] at e; cases e)]
  exact h b w e
def ends (R : D → Om → Prop) : DEnds := { nx := fun _ O => Fin R .non O, rt := Fin R }
def startD (N : List Str) (xs : List D) : Gm := xs.map some ++ List.replicate (N.length - xs.length) none
theorem VRs.map_get {K : PySem.W.Frag} {G : Hp} {vs : List V} {xs : List D} (h : VRs K G vs xs) {i : Nat} {d : D} (e : (xs.map some)[i]? = some (some d)) : ∃ v, (vs.map some)[i]? = some (some v) ∧ VR K G v d := by
  rw [List.getElem?_map] at e
  cases q : xs[i]? with
  | none => rw [q] at e; cases e
  | some x =>
    rw [q] at e
    cases e
    obtain ⟨v, h1, h2⟩ := h.get q
    exact ⟨v, by rw [List.getElem?_map, h1]; rfl, h2⟩
theorem GR.start {K : PySem.W.Frag} {G : Hp} {N : List Str} {vs : List V} {xs : List D} (h : VRs K G vs xs) : GR K G (L2.start N vs) (startD N xs) := by
  have hl := h.length
  refine ⟨by unfold L2.start startD; simp [hl], fun i d e => ?_⟩
  unfold startD at e
  by_cases hi : i < xs.length
  · rw [List.getElem?_append_left (by simpa using hi)] at e
    obtain ⟨v, h1, h2⟩ := h.map_get e
    exact ⟨v, by unfold L2.start; rw [List.getElem?_append_left (by simpa [hl] using hi)]; exact h1, h2⟩
  · rw [List.getElem?_append_right (by simpa using hi), List.getElem?_replicate] at e
    split at e <;> cases e
section
variable {P : Program} {w : World} {K : PySem.W.Frag} {mg : Str → Option Value} {base : Heap}
/-- THE RULE: a def that lets nothing out -/
theorem fn_ok {x qual : Str} {params : Arguments} {body : List Stmt} {scope : Scope} {dvs : List V} {kws : List (Str × V)} {f : Addr} {fd : FuncData} {N ps : List Str} {k : Nat} {dsp : DSp} {t : DS} (F : FunD K x qual params body scope dvs kws f fd) (S : FnScope N ps scope)
    (len : ∀ xs O R Z, dsp xs O R Z → xs.length = ps.length)
    (hb : ∀ (cdv : Value) (A : Around) (outer : List Env) (s : Shared) (H : Hp) (E : XK), Room k (A.deeper (envOfC qual scope s.heap.objs.size f cdv)) → PSs (cxOf CX0 P w K mg base N qual scope f cdv A outer s H E).nox body (lowS K W0 t))
    (hd : ∀ xs O R Z, dsp xs O R Z → t (ends R) (startD N xs) O) : FnOk P w K mg base CX0 (k + 1) f fd ps (toSp K dsp) := by
  refine FunD.ok F S (fun vs H Q E h => ?_) (fun cdv A outer s H vs Q E hr h => ⟨lowS K W0 t, (hb cdv A outer s H E hr).nox, ?_⟩)
  · obtain ⟨G, O, xs, R, Z, rl, vr, hs, _⟩ := h
    rw [vr.length]
    exact len _ _ _ _ hs
  · obtain ⟨G, O, xs, R, Z, rl, vr, hs, k, _⟩ := h
    refine ⟨G, O, startD N xs, ends R, rl, GR.start vr, hd _ _ _ _ hs, ⟨fun s' g' O' G' H' go gr q => ?_, fun _ _ _ _ _ _ _ q => q, fun _ _ _ _ _ _ _ q => q, fun x O' v G' H' go vr q => ?_, fun _ _ _ _ _ _ _ _ _ q => q⟩⟩
    · obtain ⟨O2, h1, h2⟩ := q
      exact k _ _ _ _ _ (go.less h1) .non h2
    · obtain ⟨O2, h1, h2⟩ := q
      exact k _ _ _ _ _ (go.less h1) vr h2
end
/-! ### calls -/
inductive Src where
  | p (i : Nat) | k (i : Nat) | d (i : Nat)
def Src.get {A : Type} (us ws ds : List A) : Src → Option A
  | .p i => us[i]?
  | .k i => ws[i]?
  | .d i => ds[i]?
def pick {A : Type} (us ws ds : List A) (l : List Src) : List A := l.filterMap (Src.get us ws ds)
structure Bnd (K : PySem.W.Frag) (fd : FuncData) (ps : List Str) (n : Nat) (ks : List Str) (srcs : List Src) (dvs : List V) : Prop where
  to : ∃ ds : List Value, Vals dvs ds ∧ ∀ (s : Shared) (us ws : List Value), K.In s.heap → us.length = n → ws.length = ks.length → BindsTo s fd ⟨us, ks.zip ws⟩ (ps.zip (pick us ws ds srcs))
theorem Vals.ixO {vs : List V} {us : List Value} (h : Vals vs us) (i : Nat) : match vs[i]?, us[i]? with | some v, some u => RelV v u | none, none => True | _, _ => False := by
  cases e : vs[i]? with
  | none => rw [h.none_of e]; trivial
  | some v => obtain ⟨u, h1, h2⟩ := h.get e; rw [h1]; exact h2
theorem pick_vals {vs zs dvs : List V} {us ws ds : List Value} (h1 : Vals vs us) (h2 : Vals zs ws) (h3 : Vals dvs ds) : ∀ l : List Src, Vals (pick vs zs dvs l) (pick us ws ds l)
  | [] => .nil
  | x :: l => by
    have ih := pick_vals h1 h2 h3 l
    have q : match x.get vs zs dvs, x.get us ws ds with | some v, some u => RelV v u | none, none => True | _, _ => False := by
      cases x
      · exact Vals.ixO h1 _
      · exact Vals.ixO h2 _
      · exact Vals.ixO h3 _
    unfold pick
    rw [List.filterMap_cons, List.filterMap_cons]
    cases e1 : x.get vs zs dvs <;> cases e2 : x.get us ws ds <;> rw [e1, e2] at q
    · exact ih
    · exact q.elim
    · exact q.elim
    · exact .cons q ih
theorem VRs.ixO {K : PySem.W.Frag} {G : Hp} {vs : List V} {us : List D} (h : VRs K G vs us) (i : Nat) : match vs[i]?, us[i]? with | some v, some u => VR K G v u | none, none => True | _, _ => False := by
  cases e : us[i]? with
  | none =>
    have hl : vs[i]? = none := List.getElem?_eq_none (by rw [h.length]; exact List.getElem?_eq_none_iff.mp e)
    rw [hl]; trivial
  | some v => obtain ⟨u, h1, h2⟩ := h.get e; rw [h1]; exact h2
theorem pick_vrs {K : PySem.W.Frag} {G : Hp} {vs zs dvs : List V} {us ws ds : List D} (h1 : VRs K G vs us) (h2 : VRs K G zs ws) (h3 : VRs K G dvs ds) : ∀ l : List Src, VRs K G (pick vs zs dvs l) (pick us ws ds l)
  | [] => .nil
  | x :: l => by
    have ih := pick_vrs h1 h2 h3 l
    have q : match x.get vs zs dvs, x.get us ws ds with | some v, some u => VR K G v u | none, none => True | _, _ => False := by
      cases x
      · exact VRs.ixO h1 _
      · exact VRs.ixO h2 _
      · exact VRs.ixO h3 _
    unfold pick
    rw [List.filterMap_cons, List.filterMap_cons]
    cases e1 : x.get vs zs dvs <;> cases e2 : x.get us ws ds <;> rw [e1, e2] at q
    · exact ih
    · exact q.elim
    · exact q.elim
    · exact .cons q ih
section
variable {K : PySem.W.Frag} {x qual : Str} {params : Arguments} {body : List Stmt} {scope : Scope} {dvs : List V} {kws : List (Str × V)} {f : Addr} {fd : FuncData} {ps ks : List Str} {n : Nat} {srcs : List Src}
/-- nothing is filled up -/
theorem bnd0 (F : FunD K x qual params body scope [] kws f fd)
    (h : ∀ (kV doc pm : Value) (an : Option Addr) (cdv ct : Value) (us ws : List Value), us.length = n → ws.length = ks.length → bindArgs (PySem.W.fnOf x qual params body scope .none kV doc pm an cdv ct) ⟨us, ks.zip ws⟩ = pure (ps.zip (pick us ws [] srcs))) : Bnd K fd ps n ks srcs [] := by
  obtain ⟨oc, od, dV, kV, doc, pm, an, cdv, ct, osl, rfl, lk, hcd, hD, hK⟩ := F.ex
  rcases hD with ⟨_, rfl⟩ | ⟨z, _⟩
  · exact ⟨[], .nil, fun s us ws _ h1 h2 => .of_eq (h kV doc pm an cdv ct us ws h1 h2)⟩
  · exact absurd rfl z
/-- some positional defaults -/
theorem bnd1 (F : FunD K x qual params body scope dvs kws f fd) (hd : dvs ≠ [])
    (h : ∀ (T : Addr) (kV doc pm : Value) (an : Option Addr) (cdv ct : Value) (us ws its : List Value), us.length = n → ws.length = ks.length → its.length = dvs.length →
      ∃ k, bindArgs (PySem.W.fnOf x qual params body scope (.ref T) kV doc pm an cdv ct) ⟨us, ks.zip ws⟩ = seqItems? (.ref T) >>= k ∧ k (some its.toArray) = pure (ps.zip (pick us ws its srcs))) : Bnd K fd ps n ks srcs dvs := by
  obtain ⟨oc, od, dV, kV, doc, pm, an, cdv, ct, osl, rfl, lk, hcd, hD, hK⟩ := F.ex
  rcases hD with ⟨e, _⟩ | ⟨_, T, o, its, m, rfl, lT, oT, rT⟩
  · exact absurd e hd
  · refine ⟨its, rT, fun s us ws X h1 h2 => ?_⟩
    obtain ⟨k, e1, e2⟩ := h T kV doc pm an cdv ct us ws its h1 h2 rT.length.symm
    refine BindsTo.of_looks fun M => ?_
    rw [e1]
    exact looks_items X lT oT (.of_pure e2)
/-- some keyword-only defaults, those of ms -/
theorem bnd2 (F : FunD K x qual params body scope dvs kws f fd) (ms : List (Str × V)) (hms : ∀ q ∈ ms, q ∈ kws) (hk : kws ≠ [])
    (h : ∀ (D : Addr) (dV doc pm : Value) (an : Option Addr) (cdv ct : Value) (us ws qs : List Value), us.length = n → ws.length = ks.length → qs.length = ms.length →
      KwChain D ((ms.map (·.1)).zip qs) (bindArgs (PySem.W.fnOf x qual params body scope dV (.ref D) doc pm an cdv ct) ⟨us, ks.zip ws⟩) (ps.zip (pick us ws qs srcs))) : Bnd K fd ps n ks srcs (ms.map (·.2)) := by
  obtain ⟨oc, od, dV, kV, doc, pm, an, cdv, ct, osl, rfl, lk, hcd, hD, hK⟩ := F.ex
  rcases hK with e | ⟨D, rfl, hq⟩
  · exact absurd e hk
  · obtain ⟨qs, hl, rk, hks⟩ := kwd_vals (ms := ms) fun q hq' => hq q (hms q hq')
    refine ⟨qs, rk, fun s us ws X h1 h2 => ?_⟩
    refine BindsTo.of_looks fun M => ?_
    exact KwChain.looks X hks (h D dV doc pm an cdv ct us ws qs h1 h2 hl)
end
def lowK (K : PySem.W.Frag) (n : Nat) (t : DA) : TA := lowA K n t
def dCall (d : DSp) (srcs : List Src) (ds : List D) (t tk : DA) : DE := fun g O R => t g O fun xs O1 => tk g O1 fun ys O2 => d (pick xs ys ds srcs) O2 R X0
section
variable {X : Cx} {CX : CXT} {k : Nat} {f : Addr} {fd : FuncData} {ps ks : List Str} {dsp : DSp} {srcs : List Src} {dvs : List V} {ds : List D} {x : Str} {p pos kpos : Pos} {e : Expr} {es : List Expr} {kws : List Keyword} {te : DE} {t tk : DA} {n m : Nat} {nm : Option Str}
theorem PK.by {X : Cx} {e : List Keyword} {t t' : TA} (h : PK X e t) (k : ∀ s H Q, t' s H Q → t s H Q) : PK X e t' := ⟨fun p pins s σ H Q I q => h.run p pins s σ H Q I (k σ H Q q)⟩
theorem k_nil : PK X [] (lowA X.K 0 dNil) := PK.by pk_nil fun s H Q ⟨G, O, g, R, rl, gr, h, k⟩ => k [] O [] G H (Go.refl rl) .nil rfl h
theorem k_cons (ha : PE X e (lowE X.K te)) (hr : PK X kws (lowA X.K n t)) : PK X (⟨nm, e, kpos⟩ :: kws) (lowA X.K (n + 1) (dCons te t)) :=
  PK.by (pk_cons ha hr) fun s H Q ⟨G, O, g, R, rl, gr, h, k⟩ => ⟨G, O, g, _, rl, gr, h, fun x O1 v G1 H1 go1 vr1 q1 => ⟨G1, O1, g, _, go1.rel, gr.mono go1.ex, q1, fun xs O2 vs G2 H2 go2 vr2 hl q2 =>
    k _ _ _ _ _ (go1.trans rl go2) (.cons (vr1.mono go2.ex) vr2) (by rw [List.length_cons, hl]) q2⟩⟩
/-- the callee runs -/
theorem run_call {pins : List (Addr × Obj)} {σ : L2.St} {H : Hp} {s : Shared} {Q : VK} {us ws : List Value} {vs zs : List V} {E : XK} (F : FnOk X.prog X.w X.K X.mg X.base CX k f fd ps (toSp X.K dsp)) (hr : Room k X.A) (hb : Bnd X.K fd ps n ks srcs dvs) (hx : Passes CX X E)
    (I : Inv X pins σ H s) (r : Vals vs us) (rz : Vals zs ws) (hn : vs.length = n) (hm : zs.length = ks.length) (h : toSp X.K dsp (pick vs zs dvs srcs) H Q E) : wpAny (model X.prog X.w) X.A (call (.ref f) us (ks.zip ws)) (EP X pins σ Q) X.xe s := by
  obtain ⟨ds, rd, hb⟩ := hb.to
  have r2 := pick_vals r rz rd srcs
  refine wpAny_call (codeAny_mono (F.run X.A X.stack s H ⟨us, ks.zip ws⟩ (pick us ws ds srcs) (pick vs zs dvs srcs) Q E hr I.env0 (hb s us ws I.kIn (by rw [← r.length]; exact hn) (by rw [← rz.length]; exact hm)) r2 h) fun r s' hq => ?_)
  cases r with
  | error e => exact hx pins σ H s e s' I hq
  | ok fl =>
    cases fl with
    | ret u => exact I.after hq
    | next => exact False.elim hq
    | brk => exact False.elim hq
    | cont => exact False.elim hq
theorem low_call {K : PySem.W.Frag} {hn : n = n} (hd : ∀ G, VRs K G dvs ds) : ∀ s H Q, lowE K (dCall dsp srcs ds t tk) s H Q → lowA K n t s H fun vs H1 => lowA K m tk s H1 fun zs H2 => vs.length = n ∧ zs.length = m ∧ toSp K dsp (pick vs zs dvs srcs) H2 Q E0 := fun s H Q ⟨G, O, g, R, rl, gr, h, k⟩ =>
  ⟨G, O, g, _, rl, gr, h, fun xs O1 vs G1 H1 go1 vr1 hl1 q1 => ⟨G1, O1, g, _, go1.rel, gr.mono go1.ex, q1, fun ys O2 zs G2 H2 go2 vr2 hl2 q2 =>
    ⟨by rw [vr1.length, hl1], by rw [vr2.length, hl2], G2, O2, _, _, _, go2.rel, pick_vrs (vr1.mono go2.ex) vr2 (hd G2) srcs, q2, fun x O3 v G3 H3 go3 vr3 q3 => k _ _ _ _ _ ((go1.trans rl go2).trans rl go3) vr3 q3, fun _ _ _ _ _ _ z => z⟩⟩⟩
/-- f(e, .., k = v, ..) -/
theorem e_call (F : FnOk X.prog X.w X.K X.mg X.base CX0 k f fd ps (toSp X.K dsp)) (hr : Room k X.A) (hm : X.mg x = some (.ref f)) (hk : PySem.W.keepIn X.K (.ref f) = true) (hb : Bnd X.K fd ps n ks srcs dvs) (hd : ∀ G, VRs X.K G dvs ds)
    (ha : PA X (e :: es) (lowA X.K n t)) (hkw : PK X kws (lowA X.K m tk)) (hmk : m = ks.length := by rfl) (hg : Gl X x := by rfl) (hall : (backToKw pos (keywordEach kws X.env)).all (·.1.isSome) = true := by rfl) (hks : (backToKw pos (keywordEach kws X.env)).filterMap (·.1) = ks := by rfl)
    (hdb : (x == ("__debug__" : Str)) = false := by decide) (he : starEach (e :: es) X.env = (false, eval e X.env) :: starEach es X.env := by rfl)
    (hpl : ((backTo pos (starEach (e :: es) X.env)).any (·.1) || (backToKw pos (keywordEach kws X.env)).any (·.1.isNone)) = false := by rfl) :
    PE X (.Call (.Name x p) (e :: es) kws pos) (lowE X.K (dCall dsp srcs ds t tk)) := by
  refine ⟨fun pins s σ H Q I h => ?_⟩
  refine wpAny_Call_Name_kw (ld_glob I hg hm ?_ hdb)
  refine PySem.W.callWith_KW (h₀ := X.base) I.ok.mod.kin hk hall (thn (ha.run pos pins s σ H _ I (low_call (m := m) (hn := rfl) hd σ H Q h)) fun us s1 ⟨vs, H1, I1, r, q⟩ => ?_) hpl he
  refine thn (hkw.run pos pins s1 σ H1 _ I1 q) fun ws s2 ⟨zs, H2, I2, rz, q2⟩ => ⟨I2.kIn, ?_⟩
  rw [hks]
  exact run_call F hr hb pass0 I2 r rz q2.1 (q2.2.1.trans hmk) q2.2.2
/-- f(k = v, ..), f() -/
theorem e_call0 (F : FnOk X.prog X.w X.K X.mg X.base CX0 k f fd ps (toSp X.K dsp)) (hr : Room k X.A) (hm : X.mg x = some (.ref f)) (hk : PySem.W.keepIn X.K (.ref f) = true) (hb : Bnd X.K fd ps 0 ks srcs dvs) (hd : ∀ G, VRs X.K G dvs ds)
    (hkw : PK X kws (lowA X.K m tk)) (hmk : m = ks.length := by rfl) (hg : Gl X x := by rfl) (hall : (backToKw pos (keywordEach kws X.env)).all (·.1.isSome) = true := by rfl) (hks : (backToKw pos (keywordEach kws X.env)).filterMap (·.1) = ks := by rfl)
    (hdb : (x == ("__debug__" : Str)) = false := by decide)
    (hpl : ((backTo pos (starEach [] X.env)).any (·.1) || (backToKw pos (keywordEach kws X.env)).any (·.1.isNone)) = false := by rfl) :
    PE X (.Call (.Name x p) [] kws pos) (lowE X.K (dCall dsp srcs ds dNil tk)) := by
  refine ⟨fun pins s σ H Q I h => ?_⟩
  refine wpAny_Call_Name_kw (ld_glob I hg hm ?_ hdb)
  obtain ⟨G, O, g, R, rl, gr, h, kk⟩ := h
  have h2 : lowA X.K m tk σ H fun zs H2 => zs.length = m ∧ toSp X.K dsp (pick [] zs dvs srcs) H2 Q E0 := ⟨G, O, g, _, rl, gr, h, fun ys O2 zs G2 H2 go2 vr2 hl2 q2 =>
    ⟨by rw [vr2.length, hl2], G2, O2, _, _, _, go2.rel, pick_vrs .nil vr2 (hd G2) srcs, q2, fun x O3 v G3 H3 go3 vr3 q3 => kk _ _ _ _ _ (go2.trans rl go3) vr3 q3, fun _ _ _ _ _ _ z => z⟩⟩
  refine PySem.W.callWith_KW0 (h₀ := X.base) I.ok.mod.kin hk hall (thn (hkw.run pos pins s σ H _ I h2) fun ws s2 ⟨zs, H2, I2, rz, q2⟩ => ⟨I2.kIn, ?_⟩) hpl
  rw [hks]
  exact run_call (us := []) (vs := []) F hr hb pass0 I2 .nil rz rfl (q2.1.trans hmk) q2.2
end
end DL
set_option Elab.async false
set_option linter.all false
set_option maxRecDepth 100000
set_option maxHeartbeats 2000000
namespace DL
open PySem PySem.Spec PyProof.Rows L2
open Evl (Ex)
/-! ### arithmetic -/
def Mok (i j : Int) : Prop := CMul i j ∨ i.natAbs.log2 + j.natAbs.log2 < 130000000
theorem Mok.ok {i j : Int} (h : Mok i j) : IntMulOk i j := by
  rcases h with h | h
  · exact h.ok
  have b : ∀ x : Int, Builtin.Int.intBits x ≤ x.natAbs.log2 + 1 := fun x => by
    unfold Builtin.Int.intBits
    split <;> omega
  have h1 := b i
  have h2 := b j
  have h3 : i.natAbs.log2 + j.natAbs.log2 < 130000000 := h
  have e : bitsLine = 134217728 := by decide
  unfold IntMulOk
  intro z
  rw [Bool.and_eq_true] at z
  have z2 := z.2
  unfold Builtin.Int.intTooBig at z2
  have z3 := of_decide_eq_true z2
  rw [e] at z3
  omega
theorem log2_lt {i : Int} {a : Nat} (h0 : 0 < a) (h : i.natAbs < 2 ^ a) : i.natAbs.log2 < a := PySem.Flt.log2_lt_of h0 h
theorem Mok.of {i j : Int} {a b : Nat} (ha : i.natAbs < 2 ^ a) (hb : j.natAbs < 2 ^ b) (h0 : 0 < a) (h1 : 0 < b) (h : a + b ≤ 130000000) : Mok i j := by
  have x := log2_lt h0 ha
  have y := log2_lt h1 hb
  exact .inr (by omega)
theorem Mok.l {i j : Int} (h1 : -1000000000000000000 ≤ i) (h2 : i ≤ 1000000000000000000) : Mok i j := .inl (.inl ⟨by omega, by omega⟩)
theorem Mok.r {i j : Int} (h1 : -1000000000000000000 ≤ j) (h2 : j ≤ 1000000000000000000) : Mok i j := .inl (.inr ⟨by omega, by omega⟩)
/-- // by a positive divisor -/
def Dok (i j : Int) : Prop := 0 < j ∧ Builtin.divisionGoesByPylong i j = false
theorem Dok.of {i j : Int} (h : 0 < j) (hb : j.natAbs.log2 < 9000) : Dok i j := ⟨h, PyProof.noPylong_of_log2 hb⟩
theorem Dok.small {i j : Int} (h : 0 < j) (hb : j < 1073741824) : Dok i j := ⟨h, PyProof.noPylong_small (by omega)⟩
section
variable {X : Cx}
theorem op_mulX : OpR X (binaryOp .Mult) (rI Mok fun i j => .int (i * j)) := opI fun _ _ _ _ _ _ _ hc q => mul_int q hc.ok
theorem op_fdivX : OpR X (binaryOp .FloorDiv) (rI Dok fun i j => .int (i / j)) := opI fun i j _ _ _ _ _ hc q => by
  have h1 : (0 : Int) < j := hc.1
  exact floordiv_int (by omega) (by rw [Int.fdiv_eq_ediv_of_nonneg i (by omega)]; exact q) (.inl hc.2)
end
def Pok (i j : Int) : Prop := CPow i j
def dAdd : D2 := fun x y O R => match x, y with
  | .int i, .int j => R (.int (i + j)) O
  | .str a, .str b => a.length + b.length ≤ sizeLine ∧ R (.str (a ++ b)) O
  | .tup xs, .tup ys => xs.length + ys.length ≤ sizeLine ∧ R (.tup (xs ++ ys)) O
  | .ref a, .ref b => (match O a, O b with | some (.lst xs), some (.lst ys) => xs.length + ys.length ≤ sizeLine ∧ ∀ p, O p = none → R (.ref p) (up O p (.lst (xs ++ ys))) | _, _ => False)
  | _, _ => False
def dSub : D2 := dI fun i j => .int (i - j)
def dMul : D2 := dIc Mok fun i j => .int (i * j)
def dFd : D2 := dIc Dok fun i j => .int (i / j)
def dMod : D2 := dIc (fun _ j => 0 < j) fun i j => .int (i % j)
def dPow : D2 := dIc Pok fun i j => .int (i ^ j.toNat)
section
variable {X : Cx} {a b : Expr} {ta tb : DE} {pos : Pos} {K : PySem.W.Frag}
abbrev rPlus (K : PySem.W.Frag) : R2 := fun x y H Q => (rI0 fun i j => .int (i + j)) x y H Q ∨ (fun x y H Q => (∃ a b : Str, x = .str a ∧ y = .str b ∧ a.length + b.length ≤ sizeLine ∧ Q (.str (a ++ b)) H) ∨ (fun x y H Q => rCatA K x y H Q ∨ rCat x y H Q) x y H Q) x y H Q
theorem sAdd : OpS K (rPlus K) dAdd := fun {G O H x y v u R Q} rl hx hy h k => by
  cases hx with
  | int i => cases hy <;> first | exact h.elim | exact .inl ⟨_, _, rfl, rfl, k.here rl (.int _) h⟩
  | str i => cases hy <;> first | exact h.elim | exact .inr (.inl ⟨_, _, rfl, rfl, h.1, k.here rl (.str _) h.2⟩)
  | tup h1 h2 =>
    cases hy with
    | tup h3 h4 =>
      obtain ⟨hz, h⟩ := h
      refine .inr (.inr (.inl ⟨_, _, _, _, rfl, rfl, Evl.ex_t rl.g h1, Evl.ex_t rl.g h3, by rw [h2.length, h4.length]; exact hz, fun e => ?_, fun e1 e2 => ?_, fun _ _ => ?_⟩))
      · subst e; cases h2; exact k.here rl (.tup h3 h4) h
      · subst e2; cases h4; rw [List.append_nil] at h; exact k.here rl (.tup h1 h2) h
      · exact k.tup rl (h2.append h4) h
    | _ => exact h.elim
  | ref a =>
    cases hy with
    | ref b =>
      have h : (match O a, O b with | some (.lst xs), some (.lst ys) => xs.length + ys.length ≤ sizeLine ∧ ∀ p, O p = none → R (.ref p) (up O p (.lst (xs ++ ys))) | _, _ => False) := h
      cases e1 : O a with
      | none => simp only [e1] at h
      | some o1 =>
        cases e2 : O b with
        | none => simp only [e1, e2] at h
        | some o2 =>
          cases o1 with
          | lst xs =>
            cases o2 with
            | lst ys =>
              simp only [e1, e2] at h
              obtain ⟨vs, h1, h2⟩ := rl.lst e1
              obtain ⟨us, h3, h4⟩ := rl.lst e2
              exact .inr (.inr (.inr ⟨a, b, vs, us, rfl, rfl, h1, h3, by rw [h2.length, h4.length]; exact h.1, k.lst rl (h2.append h4) h.2⟩))
            | _ => simp only [e1, e2] at h
          | _ => simp only [e1, e2] at h
    | _ => exact h.elim
  | _ => cases hy <;> exact h.elim
theorem opPlus : OpR X (binaryOp .Add) (rPlus X.K) := OpR.or op_add (OpR.or op_add_str (OpR.or op_catA op_cat))
theorem e_add (ha : PE X a (lowE X.K ta)) (hb : PE X b (lowE X.K tb)) : PE X (.BinOp a .Add b pos) (lowE X.K (dOp dAdd ta tb)) := e_op opPlus sAdd ha hb
theorem e_sub (ha : PE X a (lowE X.K ta)) (hb : PE X b (lowE X.K tb)) : PE X (.BinOp a .Sub b pos) (lowE X.K (dOp dSub ta tb)) := e_op op_sub (sI fun _ _ _ => .int _) ha hb
theorem e_mul (ha : PE X a (lowE X.K ta)) (hb : PE X b (lowE X.K tb)) : PE X (.BinOp a .Mult b pos) (lowE X.K (dOp dMul ta tb)) := e_op op_mulX (sIc (fun _ _ _ => .int _) fun _ _ h => h) ha hb
theorem e_fd (ha : PE X a (lowE X.K ta)) (hb : PE X b (lowE X.K tb)) : PE X (.BinOp a .FloorDiv b pos) (lowE X.K (dOp dFd ta tb)) := e_op op_fdivX (sIc (fun _ _ _ => .int _) fun _ _ h => h) ha hb
theorem e_mod (ha : PE X a (lowE X.K ta)) (hb : PE X b (lowE X.K tb)) : PE X (.BinOp a .Mod b pos) (lowE X.K (dOp dMod ta tb)) := e_op op_mod (sIc (fun _ _ _ => .int _) fun _ _ h => h) ha hb
theorem e_pow (ha : PE X a (lowE X.K ta)) (hb : PE X b (lowE X.K tb)) : PE X (.BinOp a .Pow b pos) (lowE X.K (dOp dPow ta tb)) := e_op op_pow (sIc (fun _ _ _ => .int _) fun _ _ h => h) ha hb
def dNeg : D1 := fun x O R => match x with | .int i => R (.int (-i)) O | _ => False
theorem e_neg (ha : PE X a (lowE X.K ta)) : PE X (.UnaryOp .USub a pos) (lowE X.K (dUn dNeg ta)) := e_un un_neg (fun {G O H x v R Q} rl hx h k => by
  cases hx <;> first | exact h.elim | exact ⟨_, rfl, k.here rl (.int _) h⟩) ha
/-! ### comparisons -/
def dLt : D2 := dI fun i j => .bl (decide (i < j))
def dLe : D2 := dI fun i j => .bl (decide (i ≤ j))
def dGt : D2 := dI fun i j => .bl (decide (i > j))
def dGe : D2 := dI fun i j => .bl (decide (i ≥ j))
end
end DL
set_option Elab.async false
set_option linter.all false
set_option maxRecDepth 100000
set_option maxHeartbeats 2000000
namespace DL
open PySem PySem.Spec PyProof.Rows L2
open Evl (Ex)
section
variable {X : Cx} {a b : Expr} {ta tb : DE} {pos : Pos} {K : PySem.W.Frag}
/-! ### comparisons of ints -/
theorem sLt : OpS K (rI0 fun i j => .bl (decide (i < j))) dLt := sI fun _ _ _ => .bl _
theorem sLe : OpS K (rI0 fun i j => .bl (decide (i ≤ j))) dLe := sI fun _ _ _ => .bl _
theorem sGt : OpS K (rI0 fun i j => .bl (decide (j < i))) dGt := sI fun _ _ _ => .bl _
theorem sGe : OpS K (rI0 fun i j => .bl (decide (j ≤ i))) dGe := sI fun _ _ _ => .bl _
/-! ### data as it is compared -/
mutual
inductive Vw (O : Om) : D → PyData → Prop
  | non : Vw O .non .none
  | bl (b : Bool) : Vw O (.bl b) (.bool b)
  | int (i : Int) : Vw O (.int i) (.int i)
  | str (x : Str) : Vw O (.str x) (.str x)
  | tup {xs : List D} {ds : List PyData} : Vws O xs ds → Vw O (.tup xs) (.tuple ds)
  | lst {xs : List D} {ds : List PyData} : Vws O xs ds → Vw O (.lst xs) (.list ds)
  | ref {a : Addr} {xs : List D} {ds : List PyData} : O a = some (.lst xs) → Vws O xs ds → Vw O (.ref a) (.list ds)
inductive Vws (O : Om) : List D → List PyData → Prop
  | nil : Vws O [] []
  | cons {x : D} {xs : List D} {d : PyData} {ds : List PyData} : Vw O x d → Vws O xs ds → Vws O (x :: xs) (d :: ds)
end
mutual
theorem Vw.dp {G : Hp} {O : Om} {H : Hp} (rl : Rel K G O H) : ∀ {x : D} {d : PyData} {v : V}, Vw O x d → VR K G v x → Dp K H v d
  | _, _, _, .non, h => by cases h; exact .non
  | _, _, _, .bl b, h => by cases h; exact .bl b
  | _, _, _, .int b, h => by cases h; exact .int b
  | _, _, _, .str b, h => by cases h; exact .str b
  | _, _, _, .tup q, h => by
    cases h with
    | tup h1 h2 => exact .tup (Evl.ex_t rl.g h1) (Vws.dp rl q h2)
  | _, _, _, .lst q, h => by
    cases h with
    | lst h1 h2 => exact .lst (Evl.ex_l rl.g h1) (Vws.dp rl q h2)
  | _, _, _, .ref e q, h => by
    cases h
    obtain ⟨vs, h1, h2⟩ := rl.lst e
    exact .lst (SqL.of h1) (Vws.dp rl q h2)
theorem Vws.dp {G : Hp} {O : Om} {H : Hp} (rl : Rel K G O H) : ∀ {xs : List D} {ds : List PyData} {vs : List V}, Vws O xs ds → VRs K G vs xs → DpAll K H vs ds
  | _, _, _, .nil, h => by cases h; exact .nil
  | _, _, _, .cons q r, h => by
    cases h with
    | cons h1 h2 => exact .cons (Vw.dp rl q h1) (Vws.dp rl r h2)
end
def dEqD (n : Bool) : D2 := fun x y O R => ∃ d e, Vw O x d ∧ Vw O y e ∧ SeqAt.shaped d = true ∧ SeqAt.shaped e = true ∧ R (.bl (PyData.eqv d e != n)) O
def dEq : D2 := fun x y O R => match x, y with
  | .int i, .int j => R (.bl (decide (i = j))) O
  | .str i, .str j => R (.bl (decide (i = j))) O
  | .bl i, .bl j => R (.bl (decide (i = j))) O
  | x, y => dEqD false x y O R
def dNe : D2 := fun x y O R => match x, y with
  | .int i, .int j => R (.bl (!decide (i = j))) O
  | .str i, .str j => R (.bl (!decide (i = j))) O
  | .bl i, .bl j => R (.bl (!decide (i = j))) O
  | x, y => dEqD true x y O R
theorem dec_inj {A B : Type} [DecidableEq A] [DecidableEq B] {f : A → B} (hf : ∀ x y, f x = f y → x = y) (x y : A) : decide (f x = f y) = decide (x = y) := by
  rw [Bool.eq_iff_iff]
  simp only [decide_eq_true_eq]
  exact ⟨hf x y, fun e => by rw [e]⟩
theorem sEqD : OpS K (rEqD K) (dEqD false) := fun {G O H x y v u R Q} rl hx hy h k => by
  obtain ⟨d, e, h1, h2, h3, h4, h5⟩ := h
  exact ⟨d, e, h1.dp rl hx, h2.dp rl hy, h3, h4, k.here rl (.bl _) (by simpa using h5)⟩
theorem sNeD : OpS K (rNeD K) (dEqD true) := fun {G O H x y v u R Q} rl hx hy h k => by
  obtain ⟨d, e, h1, h2, h3, h4, h5⟩ := h
  exact ⟨d, e, h1.dp rl hx, h2.dp rl hy, h3, h4, k.here rl (.bl _) (by simpa using h5)⟩
abbrev rEqA (K : PySem.W.Frag) : R2 := fun x y H Q => rEq x y H Q ∨ rEqD K x y H Q
abbrev rNeA (K : PySem.W.Frag) : R2 := fun x y H Q => rNe x y H Q ∨ rNeD K x y H Q
theorem sEq : OpS K (rEqA K) dEq := fun {G O H x y v u R Q} rl hx hy h k => by
  have fb : dEqD false x y O R → rEqA K v u H Q := fun h => .inr (sEqD rl hx hy h k)
  cases hx with
  | int i => cases hy with
    | int j => exact .inl ⟨rfl, by rw [dec_inj (f := V.int) (fun _ _ e => by cases e; rfl)]; exact k.here rl (.bl _) h⟩
    | _ => exact fb h
  | str i => cases hy with
    | str j => exact .inl ⟨rfl, by rw [dec_inj (f := V.str) (fun _ _ e => by cases e; rfl)]; exact k.here rl (.bl _) h⟩
    | _ => exact fb h
  | bl i => cases hy with
    | bl j => exact .inl ⟨rfl, by rw [dec_inj (f := V.bl) (fun _ _ e => by cases e; rfl)]; exact k.here rl (.bl _) h⟩
    | _ => exact fb h
  | _ => cases hy <;> exact fb h
theorem sNe : OpS K (rNeA K) dNe := fun {G O H x y v u R Q} rl hx hy h k => by
  have fb : dEqD true x y O R → rNeA K v u H Q := fun h => .inr (sNeD rl hx hy h k)
  cases hx with
  | int i => cases hy with
    | int j => exact .inl ⟨rfl, by rw [dec_inj (f := V.int) (fun _ _ e => by cases e; rfl)]; exact k.here rl (.bl _) h⟩
    | _ => exact fb h
  | str i => cases hy with
    | str j => exact .inl ⟨rfl, by rw [dec_inj (f := V.str) (fun _ _ e => by cases e; rfl)]; exact k.here rl (.bl _) h⟩
    | _ => exact fb h
  | bl i => cases hy with
    | bl j => exact .inl ⟨rfl, by rw [dec_inj (f := V.bl) (fun _ _ e => by cases e; rfl)]; exact k.here rl (.bl _) h⟩
    | _ => exact fb h
  | _ => cases hy <;> exact fb h
theorem opEq {k : Nat} (hr : Room k X.A) : OpR X (compareOp .Eq) (rEqA X.K) := OpR.or op_eq (op_eqD (by have := hr.un; omega))
theorem opNe {k : Nat} (hr : Room k X.A) : OpR X (compareOp .NotEq) (rNeA X.K) := OpR.or op_ne (op_neD (by have := hr.un; omega))
/-! ### is None -/
def isNon : D → Bool
  | .non => true
  | _ => false
def dIsN : D2 := fun x y O R => match y with | .non => R (.bl (isNon x)) O | _ => False
def dNotN : D2 := fun x y O R => match y with | .non => R (.bl (!isNon x)) O | _ => False
theorem isNon_vr {G : Hp} {v : V} {x : D} (h : VR K G v x) : decide (v = .non) = isNon x := by
  cases h <;> first | rfl | exact decide_eq_false (fun z => by cases z)
theorem sIsN : OpS K (fun x y H Q => y = .non ∧ Q (.bl (decide (x = .non))) H) dIsN := fun {G O H x y v u R Q} rl hx hy h k => by
  cases hy <;> first | exact h.elim | exact ⟨rfl, by rw [isNon_vr hx]; exact k.here rl (.bl _) h⟩
theorem sNotN : OpS K (fun x y H Q => y = .non ∧ Q (.bl (!decide (x = .non))) H) dNotN := fun {G O H x y v u R Q} rl hx hy h k => by
  cases hy <;> first | exact h.elim | exact ⟨rfl, by rw [isNon_vr hx]; exact k.here rl (.bl _) h⟩
/-! ### a[i] -/
def dIx : D2 := fun x y O R => match y with
  | .int i => (match x with
    | .str z => z.length ≤ sizeLine ∧ (match atI z.cps.toList i with | some c => R (.str ⟨#[c]⟩) O | none => False)
    | x => (match seqOf O x with | some xs => (match atI xs i with | some z => R z O | none => False) | none => False))
  | _ => False
theorem atI_vr {G : Hp} {vs : List V} {xs : List D} {i : Int} {z : D} (h : VRs K G vs xs) (e : atI xs i = some z) : ∃ v, atI vs i = some v ∧ VR K G v z := by
  unfold atI at e ⊢
  rw [h.length]
  cases q : ixN xs.length i with
  | none => rw [q] at e; cases e
  | some j =>
    rw [q] at e
    exact h.get e
theorem sIx : OpS K (rIx K) dIx := fun {G O H x y v u R Q} rl hx hy h k => by
  cases hy with
  | int i =>
    have gen : (match seqOf O x with | some xs => (match atI xs i with | some z => R z O | none => False) | none => False) → rIx K v (.int i) H Q := fun h => by
      cases e : seqOf O x with
      | none => simp only [e] at h
      | some xs =>
        simp only [e] at h
        cases e2 : atI xs i with
        | none => simp only [e2] at h
        | some z =>
          simp only [e2] at h
          obtain ⟨a, vs, rfl, hq, hv⟩ := rl.seqOf hx e
          obtain ⟨w, hw, hz⟩ := atI_vr hv e2
          rcases hq with hq | hq
          · exact .inl ⟨a, vs, i, w, rfl, rfl, hq, hw, k.here rl hz h⟩
          · exact .inr (.inl ⟨a, vs, i, w, rfl, rfl, hq, hw, k.here rl hz h⟩)
    cases hx with
    | str z =>
      obtain ⟨h1, h⟩ := h
      cases e : atI z.cps.toList i with
      | none => simp only [e] at h
      | some c => simp only [e] at h; exact .inr (.inr ⟨z, i, c, rfl, rfl, h1, e, k.here rl (.str _) h⟩)
    | _ => exact gen h
  | _ => exact h.elim
theorem e_ixS (ha : PE X a (lowE X.K ta)) (hb : PE X b (lowE X.K tb)) (hs : PlainIx b := by exact fun _ _ => rfl) : PE X (.Subscript a b pos) (lowE X.K (dOp dIx ta tb)) := e_ix ix_seq sIx ha hb hs
/-! ### a[lo:hi] -/
abbrev DOp := Gm → Om → (Option Int → Om → Prop) → Prop
def dNoPart : DOp := fun _ O R => R none O
def dPart (t : DE) : DOp := fun g O R => t g O fun x O1 => match x with | .int i => R (some i) O1 | _ => False
def lowO (K : PySem.W.Frag) (t : DOp) : TO := fun s H Q => ∃ (G : Hp) (O : Om) (g : Gm) (R : Option Int → Om → Prop), Rel K G O H ∧ GR K G s g ∧ t g O R ∧ ∀ b O' G' H', Go K G O H G' O' H' → R b O' → Q b H'
theorem PO.by {X : Cx} {e : Option Expr} {t t' : TO} (h : PO X e t) (k : ∀ s H Q, t' s H Q → t s H Q) : PO X e t' := ⟨fun pins s σ H Q I q => h.run pins s σ H Q I (k σ H Q q)⟩
theorem o_none : PO X none (lowO X.K dNoPart) := PO.by po_none fun s H Q ⟨G, O, g, R, rl, gr, h, k⟩ => k _ _ _ _ (Go.refl rl) h
theorem o_some (ha : PE X a (lowE X.K ta)) : PO X (some a) (lowO X.K (dPart ta)) := PO.by (po_some ha) fun s H Q ⟨G, O, g, R, rl, gr, h, k⟩ => ⟨G, O, g, _, rl, gr, h, fun x O1 v G1 H1 go1 vr1 q1 => by
  cases vr1 <;> first | exact q1.elim | exact ⟨_, rfl, k _ _ _ _ go1 q1⟩⟩
def cutD (xs : List D) (lo hi : Option Int) : List D := (xs.drop (HT.sIx xs.length 0 lo)).take (HT.sIx xs.length xs.length hi - HT.sIx xs.length 0 lo)
theorem cut_vr {G : Hp} {vs : List V} {xs : List D} {lo hi : Option Int} (h : VRs K G vs xs) : VRs K G (cutV vs lo hi) (cutD xs lo hi) := by
  unfold cutV cutD
  rw [h.length]
  exact (h.drop _).take _
def dSl (te : DE) (tl th : DOp) : DE := fun g O R => te g O fun x O1 => tl g O1 fun l O2 => th g O2 fun u O3 => match x with
  | .str z => z.length ≤ sizeLine ∧ R (.str (cutS z l u)) O3
  | .tup xs => R (.tup (cutD xs l u)) O3
  | x => match lstOf O3 x with | some xs => ∀ p, O3 p = none → R (.ref p) (up O3 p (.lst (cutD xs l u))) | none => False
theorem e_slice {lo hi : Option Expr} {tl th : DOp} {p2 : Pos} (he : PE X a (lowE X.K ta)) (hl : PO X lo (lowO X.K tl)) (hu : PO X hi (lowO X.K th)) : PE X (.Subscript a (.Slice lo hi none p2) pos) (lowE X.K (dSl ta tl th)) :=
  PE.by (pe_slice (SlR.or sl_list (SlR.or sl_tupA sl_str)) he hl hu) fun s H Q ⟨G, O, g, R, rl, gr, h, k⟩ => ⟨G, O, g, _, rl, gr, h, fun x O1 v G1 H1 go1 vr1 q1 => ⟨G1, O1, g, _, go1.rel, gr.mono go1.ex, q1, fun l O2 G2 H2 go2 q2 =>
    ⟨G2, O2, g, _, go2.rel, gr.mono (go1.ex.trans go2.ex), q2, fun u O3 G3 H3 go3 q3 => by
      have g13 := (go1.trans rl go2).trans rl go3
      have bk : Bk X.K G3 O3 H3 R Q := fun x O4 v G4 H4 go4 vr q4 => k _ _ _ _ _ (g13.trans rl go4) vr q4
      have vr3 := vr1.mono (go2.ex.trans go3.ex)
      have gen : (match lstOf O3 x with | some xs => ∀ p, O3 p = none → R (.ref p) (up O3 p (.lst (cutD xs l u))) | none => False) → rSlL X.K v l u H3 Q := fun h => by
        cases e : lstOf O3 x with
        | none => simp only [e] at h
        | some xs =>
          simp only [e] at h
          obtain ⟨a, vs, rfl, hq, hv⟩ := go3.rel.lstOf vr3 e
          exact ⟨a, vs, rfl, hq, bk.lst go3.rel (cut_vr hv) h⟩
      cases vr3 with
      | str z => exact .inr (.inr ⟨z, rfl, q3.1, bk.here go3.rel (.str _) q3.2⟩)
      | tup h1 h2 =>
        refine .inr (.inl ⟨_, _, rfl, Evl.ex_t go3.rel.g h1, fun hw => ?_, fun _ => bk.tup go3.rel (cut_vr h2) q3⟩)
        rename_i aa vs ds
        have q3' : R (.tup (cutD ds l u)) O3 := q3
        have hc : cutD ds l u = ds := by
          unfold cutD
          rw [← h2.length, hw.1, hw.2, List.drop_zero, Nat.sub_zero, h2.length, List.take_length]
        rw [hc] at q3'
        exact bk.here go3.rel (.tup h1 h2) q3'
      | _ => exact .inl (gen q3)⟩⟩⟩
/-! ### built-in calls -/
def dCB (d : DC) (t : DA) : DE := fun g O R => t g O fun xs O1 => d xs O1 R
theorem low_cb {K : PySem.W.Frag} {n : Nat} {r : List V → Hp → VK → Prop} {d : DC} {t : DA} (hr : CaS K r d) : ∀ s H Q, lowE K (dCB d t) s H Q → tCB r (lowA K n t) s H Q := fun s H Q ⟨G, O, g, R, rl, gr, h, k⟩ =>
  ⟨G, O, g, _, rl, gr, h, fun xs O1 vs G1 H1 go1 vr1 hl q1 => hr go1.rel vr1 q1 fun z O3 w G3 H3 go3 vr3 q3 => k z O3 w G3 H3 (go1.trans rl go3) vr3 q3⟩
variable {x : Str} {p : Pos} {e : Expr} {es : List Expr} {t : DA} {id T : String} {r : List V → Hp → VK → Prop} {d : DC} {n : Nat}
theorem e_callB (hc : CallR X (.builtin id) r) (hr : CaS X.K r d) (hm : X.mg x = none) (hv : bootBuiltins x = some (.builtin id)) (ha : PA X (e :: es) (lowA X.K n t)) (hg : Gl X x := by rfl) (hn : x ≠ "__name__" := by decide) (hdb : (x == ("__debug__" : Str)) = false := by decide)
    (he : starEach (e :: es) X.env = (false, eval e X.env) :: starEach es X.env := by rfl) (hpl : (backTo pos (starEach es X.env)).any (·.1) = false := by rfl) : PE X (.Call (.Name x p) (e :: es) [] pos) (lowE X.K (dCB d t)) := PE.by (pe_callB hc hg hm hv ha hn hdb he hpl) (low_cb hr)
theorem e_callTy (hc : CallR X (.type T) r) (hr : CaS X.K r d) (hm : X.mg x = none) (hv : bootBuiltins x = some (.type T)) (ha : PA X (e :: es) (lowA X.K n t)) (hg : Gl X x := by rfl) (hn : x ≠ "__name__" := by decide) (hdb : (x == ("__debug__" : Str)) = false := by decide)
    (he : starEach (e :: es) X.env = (false, eval e X.env) :: starEach es X.env := by rfl) (hpl : (backTo pos (starEach es X.env)).any (·.1) = false := by rfl) : PE X (.Call (.Name x p) (e :: es) [] pos) (lowE X.K (dCB d t)) := PE.by (pe_callTy hc hg hm hv ha hn hdb he hpl) (low_cb hr)
theorem e_bltn {x : Str} {v : V} {u : Value} {d : D} {pos : Pos} (hm : X.mg x = none) (hv : bootBuiltins x = some u) (r : RelV v u) (hvr : ∀ G, VR X.K G v d) (hg : Gl X x := by rfl) (hn : x ≠ "__name__" := by decide) (hd : (x == ("__debug__" : Str)) = false := by decide) : PE X (.Name x pos) (lowE X.K (dC d)) :=
  PE.by (pe_bltn hg hm hv r hn hd) (low_c hvr)
/-- len -/
def dLen : DC := fun xs O R => match xs with
  | [x] => (match x with
    | .str y => y.length ≤ sizeLine ∧ R (.int (y.length : Nat)) O
    | .ref a => (match O a with | some (.lst xs) => R (.int (xs.length : Nat)) O | some (.dK kvs) => R (.int (kvs.length : Nat)) O | _ => False)
    | .tup xs => R (.int (xs.length : Nat)) O
    | .lst xs => R (.int (xs.length : Nat)) O
    | _ => False)
  | _ => False
abbrev rLenA (K : PySem.W.Frag) : List V → Hp → VK → Prop := fun xs H Q => (∃ x n, xs = [x] ∧ LenV K x H n ∧ Q (.int n) H) ∨ (∃ a kvs, xs = [V.ref a] ∧ H a = some (.dK kvs) ∧ Q (.int kvs.length) H)
theorem callLen : CallR X (.builtin "len") (rLenA X.K) := CallR.or call_len call_lenD
theorem sLen : CaS K (rLenA K) dLen := fun {G O H xs vs R Q} rl hv h k => by
  match xs, hv, h with
  | [x], hv, h =>
    obtain ⟨v, rfl, hw⟩ := hv.one
    cases hw with
    | str y => exact .inl ⟨_, _, rfl, ⟨h.1, rfl⟩, k.here rl (.int _) h.2⟩
    | tup h1 h2 => exact .inl ⟨_, _, rfl, .inr ⟨_, Evl.ex_t rl.g h1, rfl⟩, k.here rl (.int _) (by rw [h2.length]; exact h)⟩
    | lst h1 h2 => exact .inl ⟨_, _, rfl, .inl ⟨_, Evl.ex_l rl.g h1, rfl⟩, k.here rl (.int _) (by rw [h2.length]; exact h)⟩
    | ref a =>
      have h : (match O a with | some (.lst xs) => R (.int (xs.length : Nat)) O | some (.dK kvs) => R (.int (kvs.length : Nat)) O | _ => False) := h
      cases e : O a with
      | none => simp only [e] at h
      | some o =>
        cases o with
        | lst xs =>
          simp only [e] at h
          obtain ⟨vs, h1, h2⟩ := rl.lst e
          exact .inl ⟨_, _, rfl, .inl ⟨_, SqL.of h1, rfl⟩, k.here rl (.int _) (by rw [h2.length]; exact h)⟩
        | dK kvs =>
          simp only [e] at h
          obtain ⟨_, u, hu, q⟩ := rl.o _ _ e
          cases u with
          | dK ks =>
            refine .inr ⟨a, ks, rfl, hu, k.here rl (.int _) ?_⟩
            have hl : ks.length = kvs.length := Paired.length (show PR K G ks kvs from q)
            rw [hl]; exact h
          | _ => exact False.elim q
        | _ => simp only [e] at h
    | _ => exact False.elim h
/-- abs -/
def dAbs : DC := fun xs O R => match xs with | [.int i] => R (.int (if i < 0 then -i else i)) O | _ => False
theorem sAbs : CaS K (fun xs H Q => ∃ i, xs = [.int i] ∧ Q (.int (if i < 0 then -i else i)) H) dAbs := fun {G O H xs vs R Q} rl hv h k => by
  match xs, hv, h with
  | [.int i], hv, h =>
    obtain ⟨v, rfl, hw⟩ := hv.one
    cases hw
    exact ⟨i, rfl, k.here rl (.int _) h⟩
/-- list(x), tuple(x) -/
def dList : DC := fun xs O R => match xs with | [x] => (match seqOf O x with | some ys => ∀ p, O p = none → R (.ref p) (up O p (.lst ys)) | none => False) | _ => False
theorem sList : CaS K (fun xs H Q => ∃ p ys, xs = [.ref p] ∧ (SqL K H p ys ∨ SqT K H p ys) ∧ ∀ l, H l = none → Q (.ref l) (upd H l (.lst ys))) dList := fun {G O H xs vs R Q} rl hv h k => by
  match xs, hv, h with
  | [x], hv, h =>
    obtain ⟨v, rfl, hw⟩ := hv.one
    have h : (match seqOf O x with | some ys => ∀ p, O p = none → R (.ref p) (up O p (.lst ys)) | none => False) := h
    cases e : seqOf O x with
    | none => simp only [e] at h
    | some ys =>
      simp only [e] at h
      obtain ⟨a, vs, rfl, hq, hv2⟩ := rl.seqOf hw e
      exact ⟨a, vs, rfl, hq, k.lst rl hv2 h⟩
def dTuple : DC := fun xs O R => match xs with | [x] => (match seqOf O x with | some ys => R (.tup ys) O | none => False) | _ => False
theorem sTuple : CaS K (fun xs H Q => ∃ p ys, xs = [.ref p] ∧ ((SqL K H p ys ∧ ∀ l, H l = none → Q (.ref l) (upd H l (.tup ys))) ∨ (SqT K H p ys ∧ Q (.ref p) H))) dTuple := fun {G O H xs vs R Q} rl hv h k => by
  match xs, hv, h with
  | [x], hv, h =>
    obtain ⟨v, rfl, hw⟩ := hv.one
    have h : (match seqOf O x with | some ys => R (.tup ys) O | none => False) := h
    cases hw with
    | tup h1 h2 => exact ⟨_, _, rfl, .inr ⟨Evl.ex_t rl.g h1, k.here rl (.tup h1 h2) h⟩⟩
    | lst h1 h2 => exact ⟨_, _, rfl, .inl ⟨Evl.ex_l rl.g h1, k.tup rl h2 h⟩⟩
    | ref a =>
      have h : (match (match O a with | some (.lst xs) => some xs | _ => none) with | some ys => R (.tup ys) O | none => False) := h
      cases e : O a with
      | none => simp only [e] at h
      | some o =>
        cases o with
        | lst xs =>
          simp only [e] at h
          obtain ⟨vs, h1, h2⟩ := rl.lst e
          exact ⟨_, _, rfl, .inl ⟨SqL.of h1, k.tup rl h2 h⟩⟩
        | _ => simp only [e] at h
    | _ => exact False.elim h
/-- bools of a row, ints of a row -/
def blsOf : List D → Option (List Bool)
  | [] => some []
  | .bl b :: r => (blsOf r).map (b :: ·)
  | _ => none
def intsOf : List D → Option (List Int)
  | [] => some []
  | .int b :: r => (intsOf r).map (b :: ·)
  | _ => none
theorem blsOf_eq : ∀ {xs : List D} {bs : List Bool}, blsOf xs = some bs → xs = bs.map D.bl
  | [], _, h => by cases h; rfl
  | .bl b :: r, _, h => by
    unfold blsOf at h
    cases e : blsOf r with
    | none => rw [e] at h; cases h
    | some bs => rw [e] at h; cases h; rw [blsOf_eq e]; rfl
  | .non :: _, _, h => by cases h
  | .int _ :: _, _, h => by cases h
  | .str _ :: _, _, h => by cases h
  | .tup _ :: _, _, h => by cases h
  | .lst _ :: _, _, h => by cases h
  | .ref _ :: _, _, h => by cases h
  | .ty _ :: _, _, h => by cases h
  | .ptup _ :: _, _, h => by cases h
theorem intsOf_eq : ∀ {xs : List D} {bs : List Int}, intsOf xs = some bs → xs = bs.map D.int
  | [], _, h => by cases h; rfl
  | .int b :: r, _, h => by
    unfold intsOf at h
    cases e : intsOf r with
    | none => rw [e] at h; cases h
    | some bs => rw [e] at h; cases h; rw [intsOf_eq e]; rfl
  | .non :: _, _, h => by cases h
  | .bl _ :: _, _, h => by cases h
  | .str _ :: _, _, h => by cases h
  | .tup _ :: _, _, h => by cases h
  | .lst _ :: _, _, h => by cases h
  | .ref _ :: _, _, h => by cases h
  | .ty _ :: _, _, h => by cases h
  | .ptup _ :: _, _, h => by cases h
theorem blsOf_map (bs : List Bool) : blsOf (bs.map D.bl) = some bs := by
  induction bs with
  | nil => rfl
  | cons b bs ih => show (blsOf (bs.map D.bl)).map (b :: ·) = _; rw [ih]; rfl
theorem intsOf_map (bs : List Int) : intsOf (bs.map D.int) = some bs := by
  induction bs with
  | nil => rfl
  | cons b bs ih => show (intsOf (bs.map D.int)).map (b :: ·) = _; rw [ih]; rfl
def dBls (f : List Bool → Bool) : DC := fun xs O R => match xs with | [x] => (match lstOf O x with | some ys => (match blsOf ys with | some bs => R (.bl (f bs)) O | none => False) | none => False) | _ => False
theorem sBls {f : List Bool → Bool} : CaS K (fun vs H Q => ∃ (a : Addr) (bs : List Bool), vs = [V.ref a] ∧ SqL K H a (bs.map V.bl) ∧ Q (.bl (f bs)) H) (dBls f) := fun {G O H xs vs R Q} rl hv h k => by
  match xs, hv, h with
  | [x], hv, h =>
    obtain ⟨v, rfl, hw⟩ := hv.one
    have h : (match lstOf O x with | some ys => (match blsOf ys with | some bs => R (.bl (f bs)) O | none => False) | none => False) := h
    cases e : lstOf O x with
    | none => simp only [e] at h
    | some ys =>
      simp only [e] at h
      cases e2 : blsOf ys with
      | none => simp only [e2] at h
      | some bs =>
        simp only [e2] at h
        obtain ⟨a, vs, rfl, hq, hv2⟩ := rl.lstOf hw e
        rw [blsOf_eq e2] at hv2
        exact ⟨a, bs, rfl, by rw [← hv2.bls]; exact hq, k.here rl (.bl _) h⟩
theorem callAll (hc : X.calm = true) : CallR X (.builtin "all") (fun vs H Q => ∃ (a : Addr) (bs : List Bool), vs = [V.ref a] ∧ SqL X.K H a (bs.map V.bl) ∧ Q (.bl (bs.all (fun b => b))) H) := cr_all hc
theorem callAny (hc : X.calm = true) : CallR X (.builtin "any") (fun vs H Q => ∃ (a : Addr) (bs : List Bool), vs = [V.ref a] ∧ SqL X.K H a (bs.map V.bl) ∧ Q (.bl (bs.any (fun b => b))) H) := cr_any hc
def dSum : DC := fun xs O R => match xs with | [x] => (match lstOf O x with | some ys => (match intsOf ys with | some bs => R (.int bs.sum) O | none => False) | none => False) | _ => False
theorem sSum : CaS K (rSum K) dSum := fun {G O H xs vs R Q} rl hv h k => by
  match xs, hv, h with
  | [x], hv, h =>
    obtain ⟨v, rfl, hw⟩ := hv.one
    have h : (match lstOf O x with | some ys => (match intsOf ys with | some bs => R (.int bs.sum) O | none => False) | none => False) := h
    cases e : lstOf O x with
    | none => simp only [e] at h
    | some ys =>
      simp only [e] at h
      cases e2 : intsOf ys with
      | none => simp only [e2] at h
      | some bs =>
        simp only [e2] at h
        obtain ⟨a, vs, rfl, hq, hv2⟩ := rl.lstOf hw e
        rw [intsOf_eq e2] at hv2
        exact ⟨a, bs, rfl, by rw [← hv2.ints]; exact hq, k.here rl (.int _) h⟩
/-! ### isinstance -/
inductive Ct where
  | non | bl | int | str | tup | lst | dct
  deriving DecidableEq
def Ct.name : Ct → String
  | .non => "NoneType" | .bl => "bool" | .int => "int" | .str => "str" | .tup => "tuple" | .lst => "list" | .dct => "dict"
def isC : Ct → Ct → Bool
  | .bl, .int => true
  | .non, .non => true | .bl, .bl => true | .int, .int => true | .str, .str => true | .tup, .tup => true | .lst, .lst => true | .dct, .dct => true
  | _, _ => false
def dtOf (O : Om) : D → Option Ct
  | .non => some .non
  | .bl _ => some .bl
  | .int _ => some .int
  | .str _ => some .str
  | .tup _ => some .tup
  | .lst _ => some .lst
  | .ref a => (match O a with | some (.lst _) => some .lst | some (.dK _) => some .dct | some (.dT _) => some .dct | _ => none)
  | .ty _ => none
  | .ptup _ => none
theorem isC_ok : ∀ (t c : Ct), c ≠ .non → kitB t.name c.name = some (isC t c) := by
  intro t c h
  cases c <;> first | exact absurd rfl h | (cases t <;> decide +kernel)
theorem dtOf_ok {G : Hp} {O : Om} {H : Hp} (rl : Rel K G O H) {v : V} {x : D} {t : Ct} (hv : VR K G v x) (h : dtOf O x = some t) : TyX K H v (.type t.name) := by
  cases hv with
  | non => cases h; exact .base .non
  | bl b => cases h; exact .base (.bl b)
  | int b => cases h; exact .base (.int b)
  | str b => cases h; exact .base (.str b)
  | ty b => cases h
  | ptup _ _ => cases h
  | tup h1 h2 =>
    cases h
    rcases Evl.ex_t rl.g h1 with (q | ⟨o, q⟩) | ⟨o, its, n, q, c, _⟩
    · exact .base (.tup q)
    · exact .fTuple q
    · exact .kTuple q c
  | lst h1 h2 =>
    cases h
    rcases Evl.ex_l rl.g h1 with (q | ⟨o, q⟩) | ⟨o, its, n, q, c, _⟩
    · exact .base (.lst q)
    · exact .base (.frz q)
    · exact .kList q c
  | ref a =>
    have h : (match O a with | some (.lst _) => some Ct.lst | some (.dK _) => some Ct.dct | some (.dT _) => some Ct.dct | _ => none) = some t := h
    cases e : O a with
    | none => rw [e] at h; cases h
    | some o =>
      obtain ⟨_, u, hu, q⟩ := rl.o _ _ e
      cases o with
      | lst xs => rw [e] at h; cases h; cases u <;> first | exact q.elim | exact .base (.lst hu)
      | dK xs => rw [e] at h; cases h; cases u <;> first | exact q.elim | exact .base (.dK hu)
      | dT xs => rw [e] at h; cases h; cases u <;> first | exact q.elim | exact .base (.dT hu)
      | _ => rw [e] at h; cases h
def dIsi (c : Ct) : D1 := fun x O R => match dtOf O x with | some t => R (.bl (isC t c)) O | none => False
def dIsi2 (c c' : Ct) : D1 := fun x O R => match dtOf O x with | some t => R (.bl (isC t c || isC t c')) O | none => False
theorem e_isi (c : Ct) (hc : c ≠ .non) {te : DE} {b : Expr} (hm : X.mg "isinstance" = none) (he : PE X e (lowE X.K te)) (hb : PE X b (lowE X.K (dC (.ty c.name)))) (hg : Gl X "isinstance" := by rfl) (hs : starEach [e, b] X.env = (false, eval e X.env) :: starEach [b] X.env := by rfl) (hs2 : starEach [b] X.env = (false, eval b X.env) :: starEach [] X.env := by rfl) (hpl : (backTo pos (starEach [b] X.env)).any (·.1) = false := by rfl) :
    PE X (.Call (.Name "isinstance" p) [e, b] [] pos) (lowE X.K (dUn (dIsi c) te)) := PE.by (pe_callB call_isi hg hm PyProof.Rows.boot_isinstance (pa_cons he (pa_cons hb pa_nil hs2) hs) (by decide) (by decide) hs hpl) fun s H Q ⟨G, O, g, R, rl, gr, h, k⟩ =>
  ⟨G, O, g, _, rl, gr, h, fun x O1 v G1 H1 go1 vr1 q1 => ⟨G1, O1, g, fun y O2 => y = .ty c.name ∧ O2 = O1, go1.rel, gr.mono go1.ex, ⟨rfl, rfl⟩, fun y O2 u G2 H2 go2 vr2 q2 => by
    obtain ⟨rfl, rfl⟩ := q2
    cases vr2
    have q1 : (match dtOf O2 x with | some t => R (.bl (isC t c)) O2 | none => False) := q1
    cases e : dtOf O2 x with
    | none => simp only [e] at q1
    | some t =>
      simp only [e] at q1
      exact ⟨v, .ty c.name, _, _, _, rfl, .ty _, dtOf_ok go2.rel (vr1.mono go2.ex) e, kit_ty (isC_ok t c hc), k _ _ _ _ _ (go1.trans rl go2) (.bl _) q1⟩⟩⟩
theorem e_isi2 (c c' : Ct) (hc : c ≠ .non) (hc' : c' ≠ .non) {te : DE} {b b' : Expr} {kk : Nat} {tp : Pos} (hm : X.mg "isinstance" = none) (he : PE X e (lowE X.K te)) (hb : PE X b (lowE X.K (dC (.ty c.name)))) (hb' : PE X b' (lowE X.K (dC (.ty c'.name)))) (hg : Gl X "isinstance" := by rfl)
    (hs : starEach [e, .Tuple [b, b'] kk tp] X.env = (false, eval e X.env) :: starEach [.Tuple [b, b'] kk tp] X.env := by rfl) (hs2 : starEach [.Tuple [b, b'] kk tp] X.env = (false, eval (.Tuple [b, b'] kk tp) X.env) :: starEach [] X.env := by rfl) (hpl : (backTo pos (starEach [.Tuple [b, b'] kk tp] X.env)).any (·.1) = false := by rfl)
    (hs3 : starEach [b, b'] X.env = (false, eval b X.env) :: starEach [b'] X.env := by rfl) (hs4 : starEach [b'] X.env = (false, eval b' X.env) :: starEach [] X.env := by rfl) :
    PE X (.Call (.Name "isinstance" p) [e, .Tuple [b, b'] kk tp] [] pos) (lowE X.K (dUn (dIsi2 c c') te)) := PE.by (pe_callB call_isiT hg hm PyProof.Rows.boot_isinstance (pa_cons he (pa_cons (pe_tup (pa_cons hb (pa_cons hb' pa_nil hs4) hs3)) pa_nil hs2) hs) (by decide) (by decide) hs hpl) fun s H Q ⟨G, O, g, R, rl, gr, h, k⟩ =>
  ⟨G, O, g, _, rl, gr, h, fun x O1 v G1 H1 go1 vr1 q1 => ⟨G1, O1, g, fun y O2 => y = .ty c.name ∧ O2 = O1, go1.rel, gr.mono go1.ex, ⟨rfl, rfl⟩, fun y O2 u G2 H2 go2 vr2 q2 => by
    obtain ⟨rfl, rfl⟩ := q2
    cases vr2
    refine ⟨G2, O2, g, fun y O3 => y = .ty c'.name ∧ O3 = O2, go2.rel, gr.mono (go1.ex.trans go2.ex), ⟨rfl, rfl⟩, fun y O3 u G3 H3 go3 vr3 q3 => ?_⟩
    obtain ⟨rfl, rfl⟩ := q3
    cases vr3
    refine ⟨by show 2 ≤ sizeLine; decide, fun tp hp => ?_⟩
    have q1 : (match dtOf O3 x with | some t => R (.bl (isC t c || isC t c')) O3 | none => False) := q1
    have gd := Go.data go3.rel (u := .tup [.ty c.name, .ty c'.name]) hp
    have g13 := ((go1.trans rl go2).trans rl go3).trans rl gd
    cases e : dtOf O3 x with
    | none => simp only [e] at q1
    | some t =>
      simp only [e] at q1
      refine ⟨v, tp, _, _, [.type c.name, .type c'.name], _, rfl, upd_same, .cons (.ty _) (.cons (.ty _) .nil), dtOf_ok gd.rel (((vr1.mono go2.ex).mono go3.ex).mono gd.ex) e, ?_, k _ _ _ _ _ g13 (.bl _) q1⟩
      have k1 : PySem.W.kitOne X.K (.type t.name) (.type c.name) = some (isC t c) := kit_ty (isC_ok t c hc)
      have k2 : PySem.W.kitOne X.K (.type t.name) (.type c'.name) = some (isC t c') := kit_ty (isC_ok t c' hc')
      cases e1 : isC t c with
      | true => exact kitAny_cons k1 (fun z => by rw [e1] at z; cases z) fun _ => rfl
      | false =>
        refine kitAny_cons k1 (fun _ => ?_) fun z => by rw [e1] at z; cases z
        cases e2 : isC t c' with
        | true => exact kitAny_cons k2 (fun z => by rw [e2] at z; cases z) fun _ => rfl
        | false => exact kitAny_cons k2 (fun _ => kitAny_nil) fun z => by rw [e2] at z; cases z⟩⟩
end
end DL
set_option Elab.async false
set_option linter.all false
set_option maxRecDepth 100000
set_option maxHeartbeats 2000000
namespace DL
open PySem PySem.Spec PyProof.Rows L2
open Evl (Ex)
def spBot : DSp := fun _ _ _ _ => False
theorem okBot {P : Program} {w : World} {K : PySem.W.Frag} {mg : Str → Option Value} {base : Heap} {k : Nat} {f : Addr} {fd : FuncData} {ps : List Str} : FnOk P w K mg base CX0 k f fd ps (toSp K spBot) :=
  ⟨fun _ _ _ _ ⟨_, _, _, _, _, _, _, h, _⟩ => h.elim, fun _ _ _ _ _ _ _ _ _ _ _ _ _ ⟨_, _, _, _, _, _, _, h, _⟩ => h.elim⟩
/-- a def of the text, and its promise -/
structure Df (P : Program) (w : World) (K : PySem.W.Frag) (mg : Str → Option Value) (base : Heap) (k : Nat) (st : Stmt) (x : Str) (ps : List Str) (dvs : List V) (kws : List (Str × V)) (dsp : DSp) (f : Addr) (fd : FuncData) : Prop where
  fn : FunD K x x (defArgs st) (defBody st) (defScope st) dvs kws f fd
  ok : FnOk P w K mg base CX0 k f fd ps (toSp K dsp)
  mg : mg x = some (.ref f)
/-- the law's end: nothing is owned, the script is data -/
theorem walkD {l : PySem.W.OpenLaw} {q : Program} {loose : List Str} {XP : (Str → Option Value) → Heap → Prop} {YP : World → Heap → Prop} {d : DefRec} {K : Params → PySem.W.Frag} {n k : Nat} {x : Str} {sp : DSp} (hn : l.most = some n) (hl : n ≤ sizeLine) (hdf : d.params.defaults = []) (hr : Room k callerA)
    (hY : ∀ (w : World) (h : Heap), YP w h → (K w.params).In h)
    (hs : ∀ (ns : List Int) (O : Om) (R : D → Om → Prop) (Z : XD), ns.length ≤ n → (∀ O', R (.bl true) O') → sp [.lst (ns.map D.int)] O R Z)
    (F : ∀ (w : World) (mg : Str → Option Value) (fa : Addr) (h : Heap), (K w.params).In h → h.Ns mainGlobals mg → mg d.name = some (.ref fa) →
      ∃ fd : FuncData, (∀ (s : Shared) (u : Value), BindsTo s fd ⟨[u], []⟩ [(x, u)]) ∧ ∀ base : Heap, (K w.params).In base → base.Ns mainGlobals mg → FnOk l.prog w (K w.params) mg base CX0 k fa fd [x] (toSp (K w.params) sp)) :
    PySem.W.WalkO q loose XP YP l.row.toRowW d [] (fun f vs => PySem.call f vs) := by
  refine L2.walk_of (n := n) (k := k) (x := x) (CX := fun _ => CX0) (sp := fun w => toSp (K w.params) sp) hn hl hdf hr hY F (fun w H a ns hl _ hS => ?_) fun _ _ _ _ _ z => z
  refine ⟨H, fun _ => none, [.lst (ns.map D.int)], fun x _ => x = .bl true, fun _ _ _ => False, ⟨fun _ _ z => z, fun _ _ z => by cases z⟩, .cons (.lst hS (VRs.ofInts ns)) .nil, hs ns _ _ _ hl fun _ => rfl, ?_, ?_⟩
  · rintro x O' v G' H' go vr rfl
    cases vr
    rfl
  · intro c e O' G' H' _ z
    exact z
end DL
set_option Elab.async false
set_option linter.all false
set_option maxRecDepth 100000
set_option maxHeartbeats 2000000
namespace DL
open PySem PySem.Spec PyProof.Rows L2
open Evl (Ex)
section
variable {X : Cx} {K : PySem.W.Frag} {a b c : Expr} {ta tb tc : DE} {pos : Pos}
/-! ### methods of a list -/
abbrev DM := D → List D → Om → (D → Om → Prop) → Prop
def MtS (K : PySem.W.Frag) (r : V → List V → Hp → VK → Prop) (d : DM) : Prop := ∀ {G O H x xs v vs R Q}, Rel K G O H → VR K G v x → VRs K G vs xs → d x xs O R → Bk K G O H R Q → r v vs H Q
def isL (O : Om) (x : D) : Prop := (lstOf O x).isSome = true
def dLM (d : DM) (to : DE) (t : DA) : DE := fun g O R => to g O fun x O1 => isL O1 x ∧ t g O1 fun xs O2 => d x xs O2 R
def dLM0 (d : DM) (to : DE) : DE := fun g O R => to g O fun x O1 => isL O1 x ∧ d x [] O1 R
theorem tyV_list {G : Hp} {O : Om} {H : Hp} {v : V} {x : D} (rl : Rel K G O H) (hv : VR K G v x) (h : isL O x) : tyV K "list" v H := by
  unfold isL at h
  cases e : lstOf O x with
  | none => rw [e] at h; cases h
  | some xs =>
    obtain ⟨a, vs, rfl, hq, _⟩ := rl.lstOf hv e
    exact .inl ⟨rfl, vs, hq⟩
theorem e_lm {o e : Expr} {es : List Expr} {to : DE} {t : DA} {n : Nat} {name : Str} {apos cpos : Pos} {id : String} {r : V → List V → Hp → VK → Prop} {d : DM} (slot : PySem.Slot "list" name id) (hty : typeOf (.builtin id) = pure (.type "method_descriptor")) (hm : MtM X id r) (hr : MtS X.K r d)
    (ho : PE X o (lowE X.K to)) (ha : PA X (e :: es) (lowA X.K n t)) (hb : attributeBase o name X.env (eval o X.env) = eval o X.env := by rfl)
    (hst : ((((backTo cpos (starEach (e :: es) X.env)).all fun x => !x.fst) && (backToKw cpos (keywordEach [] X.env)).all fun x => x.fst.isSome) && decide (((e :: es).length + ([] : List Keyword).length + if ([] : List Keyword).isEmpty = true then 0 else 1) < 30)) = true := by rfl)
    (hl : (apos.endLine == cpos.line) = true := by rfl) (he : starEach (e :: es) X.env = (false, eval e X.env) :: starEach es X.env := by rfl) (hpl : ((backTo cpos (starEach es X.env)).any fun x => x.fst) = false := by rfl) :
    PE X (.Call (.Attribute o name apos) (e :: es) [] cpos) (lowE X.K (dLM d to t)) :=
  PE.by (pe_bm PySem.F.plainAttrs_list slot hty hm ho ha hb hst hl he hpl) fun s H Q ⟨G, O, g, R, rl, gr, h, k⟩ =>
    ⟨G, O, g, _, rl, gr, h, fun x O1 v G1 H1 go1 vr1 q1 => ⟨tyV_list go1.rel vr1 q1.1, G1, O1, g, _, go1.rel, gr.mono go1.ex, q1.2, fun xs O2 vs G2 H2 go2 vr2 hl q2 =>
      hr go2.rel (vr1.mono go2.ex) vr2 q2 fun z O3 w G3 H3 go3 vr3 q3 => k z O3 w G3 H3 ((go1.trans rl go2).trans rl go3) vr3 q3⟩⟩
theorem e_lm0 {o : Expr} {to : DE} {name : Str} {apos cpos : Pos} {id : String} {r : V → List V → Hp → VK → Prop} {d : DM} (slot : PySem.Slot "list" name id) (hty : typeOf (.builtin id) = pure (.type "method_descriptor")) (hm : MtM X id r) (hr : MtS X.K r d)
    (ho : PE X o (lowE X.K to)) (hb : attributeBase o name X.env (eval o X.env) = eval o X.env := by rfl) (hl : (apos.endLine == cpos.line) = true := by rfl) :
    PE X (.Call (.Attribute o name apos) [] [] cpos) (lowE X.K (dLM0 d to)) :=
  PE.by (pe_bm0 PySem.F.plainAttrs_list slot hty hm ho hb hl) fun s H Q ⟨G, O, g, R, rl, gr, h, k⟩ =>
    ⟨G, O, g, _, rl, gr, h, fun x O1 v G1 H1 go1 vr1 q1 => ⟨tyV_list go1.rel vr1 q1.1, hr go1.rel vr1 .nil q1.2 fun z O3 w G3 H3 go3 vr3 q3 => k z O3 w G3 H3 (go1.trans rl go3) vr3 q3⟩⟩
def dAppend : DM := fun x vs O R => match x, vs with | .ref a, [y] => (match O a with | some (.lst xs) => xs.length < sizeLine ∧ R .non (up O a (.lst (xs ++ [y]))) | _ => False) | _, _ => False
theorem sAppend : MtS K rAppend dAppend := fun {G O H x xs v vs R Q} rl hx hv h k => by
  match x, xs, hx, hv, h with
  | .ref a, [y], hx, hv, h =>
    cases hx
    obtain ⟨u, rfl, hu⟩ := hv.one
    have h : (match O a with | some (.lst xs) => xs.length < sizeLine ∧ R .non (up O a (.lst (xs ++ [y]))) | _ => False) := h
    cases e : O a with
    | none => simp only [e] at h
    | some o =>
      cases o with
      | lst xs =>
        simp only [e] at h
        obtain ⟨ws, h1, h2⟩ := rl.lst e
        exact ⟨a, ws, u, rfl, rfl, h1, by rw [h2.length]; exact h.1, k _ _ _ _ _ (Go.write rl (o := .lst (xs ++ [y])) (u := .lst (ws ++ [u])) e (h2.append (.cons hu .nil))) .non h.2⟩
      | _ => simp only [e] at h
def dInsert : DM := fun x vs O R => match x, vs with | .ref a, [.int i, y] => (match O a with | some (.lst xs) => (xs.length < sizeLine ∧ 0 ≤ i ∧ i < 2 ^ 63) ∧ R .non (up O a (.lst (xs.take i.toNat ++ [y] ++ xs.drop i.toNat))) | _ => False) | _, _ => False
abbrev rInsert : V → List V → Hp → VK → Prop := fun x vs H Q => ∃ (l : Addr) (xs : List V) (i : Int) (y : V), x = .ref l ∧ vs = [.int i, y] ∧ H l = some (.lst xs) ∧ xs.length < sizeLine ∧ 0 ≤ i ∧ i < 2 ^ 63 ∧ Q .non (upd H l (.lst (xs.take i.toNat ++ [y] ++ xs.drop i.toNat)))
theorem sInsert : MtS K rInsert dInsert := fun {G O H x xs v vs R Q} rl hx hv h k => by
  match x, xs, hx, hv, h with
  | .ref a, [.int i, y], hx, hv, h =>
    cases hx
    obtain ⟨u, w, rfl, hu, hw⟩ := hv.two
    cases hu
    have h : (match O a with | some (.lst xs) => (xs.length < sizeLine ∧ 0 ≤ i ∧ i < 2 ^ 63) ∧ R .non (up O a (.lst (xs.take i.toNat ++ [y] ++ xs.drop i.toNat))) | _ => False) := h
    cases e : O a with
    | none => simp only [e] at h
    | some o =>
      cases o with
      | lst xs =>
        simp only [e] at h
        obtain ⟨ws, h1, h2⟩ := rl.lst e
        exact ⟨a, ws, i, w, rfl, rfl, h1, by rw [h2.length]; exact h.1.1, h.1.2.1, h.1.2.2, k _ _ _ _ _ (Go.write rl (o := .lst (xs.take i.toNat ++ [y] ++ xs.drop i.toNat)) (u := .lst (ws.take i.toNat ++ [w] ++ ws.drop i.toNat)) e (((h2.take _).append (.cons hw .nil)).append (h2.drop _))) .non h.2⟩
      | _ => simp only [e] at h
theorem VRs.dropLast {G : Hp} {xs : List V} {us : List D} (h : VRs K G xs us) : VRs K G xs.dropLast us.dropLast := by
  rw [List.dropLast_eq_take, List.dropLast_eq_take, h.length]
  exact h.take _
def dPop : DM := fun x vs O R => match x, vs with | .ref a, [] => (match O a with | some (.lst xs) => (match xs[xs.length - 1]? with | some y => R y (up O a (.lst xs.dropLast)) | none => False) | _ => False) | _, _ => False
theorem sPop : MtS K rPop dPop := fun {G O H x xs v vs R Q} rl hx hv h k => by
  match x, xs, hx, hv, h with
  | .ref a, [], hx, hv, h =>
    cases hx
    cases hv
    have h : (match O a with | some (.lst xs) => (match xs[xs.length - 1]? with | some y => R y (up O a (.lst xs.dropLast)) | none => False) | _ => False) := h
    cases e : O a with
    | none => simp only [e] at h
    | some o =>
      cases o with
      | lst xs =>
        simp only [e] at h
        obtain ⟨ws, h1, h2⟩ := rl.lst e
        cases e2 : xs[xs.length - 1]? with
        | none => simp only [e2] at h
        | some y =>
          simp only [e2] at h
          obtain ⟨u, hu, hv⟩ := h2.get e2
          rw [← h2.length] at hu
          have g := Go.write rl (o := .lst xs.dropLast) (u := .lst ws.dropLast) e h2.dropLast
          exact ⟨a, ws, u, rfl, rfl, h1, hu, k _ _ _ _ _ g (hv.mono g.ex) h⟩
      | _ => simp only [e] at h
theorem VRs.erase {G : Hp} : ∀ {xs : List V} {us : List D} (i : Nat), VRs K G xs us → VRs K G (xs.eraseIdx i) (us.eraseIdx i)
  | _, _, _, .nil => .nil
  | _, _, 0, .cons _ t => t
  | _, _, i + 1, .cons q t => .cons q (VRs.erase i t)
def dPopAt : DM := fun x vs O R => match x, vs with | .ref a, [.int i] => (match O a with | some (.lst xs) => (match seqIndex? i xs.length with | some k => (match xs[k]? with | some y => (-(2 ^ 63) ≤ i ∧ i < 2 ^ 63) ∧ R y (up O a (.lst (xs.eraseIdx k))) | none => False) | none => False) | _ => False) | _, _ => False
theorem sPopAt : MtS K rPopAt dPopAt := fun {G O H x xs v vs R Q} rl hx hv h k => by
  match x, xs, hx, hv, h with
  | .ref a, [.int i], hx, hv, h =>
    cases hx
    obtain ⟨u, rfl, hu⟩ := hv.one
    cases hu
    have h : (match O a with | some (.lst xs) => (match seqIndex? i xs.length with | some k => (match xs[k]? with | some y => (-(2 ^ 63) ≤ i ∧ i < 2 ^ 63) ∧ R y (up O a (.lst (xs.eraseIdx k))) | none => False) | none => False) | _ => False) := h
    cases e : O a with
    | none => simp only [e] at h
    | some o =>
      cases o with
      | lst xs =>
        simp only [e] at h
        obtain ⟨ws, h1, h2⟩ := rl.lst e
        cases e1 : seqIndex? i xs.length with
        | none => simp only [e1] at h
        | some m =>
          simp only [e1] at h
          cases e2 : xs[m]? with
          | none => simp only [e2] at h
          | some y =>
            simp only [e2] at h
            obtain ⟨u, hu, hv⟩ := h2.get e2
            have g := Go.write rl (o := .lst (xs.eraseIdx m)) (u := .lst (ws.eraseIdx m)) e (h2.erase m)
            exact ⟨a, ws, i, m, u, rfl, rfl, h1, h.1.1, h.1.2, by rw [h2.length]; exact e1, hu, k _ _ _ _ _ g (hv.mono g.ex) h.2⟩
      | _ => simp only [e] at h
theorem e_append {o e : Expr} {to : DE} {t : DA} {apos cpos : Pos} (ho : PE X o (lowE X.K to)) (ha : PA X [e] (lowA X.K 1 t)) (hb : attributeBase o "append" X.env (eval o X.env) = eval o X.env := by rfl)
    (hst : ((((backTo cpos (starEach [e] X.env)).all fun x => !x.fst) && (backToKw cpos (keywordEach [] X.env)).all fun x => x.fst.isSome) && decide (([e].length + ([] : List Keyword).length + if ([] : List Keyword).isEmpty = true then 0 else 1) < 30)) = true := by rfl)
    (hl : (apos.endLine == cpos.line) = true := by rfl) (he : starEach [e] X.env = (false, eval e X.env) :: starEach [] X.env := by rfl) (hpl : ((backTo cpos (starEach [] X.env)).any fun x => x.fst) = false := by rfl) :
    PE X (.Call (.Attribute o "append" apos) [e] [] cpos) (lowE X.K (dLM dAppend to t)) := e_lm PySem.F.slot_list_append PySem.F.type_list_append mt_append sAppend ho ha hb hst hl he hpl
/-! ### xs[::-1] -/
def dRevL (t : DE) : DE := fun g O R => t g O fun x O1 => match lstOf O1 x with | some xs => ∀ p, O1 p = none → R (.ref p) (up O1 p (.lst xs.reverse)) | none => False
theorem e_revL {k : Nat} {p1 p2 p3 : Pos} (ha : PE X a (lowE X.K ta)) : PE X (.Subscript a (.Slice none none (some (.UnaryOp .USub (.Constant (.int 1) k p1) p2)) p3) pos) (lowE X.K (dRevL ta)) :=
  PE.by (pe_revL ha) fun s H Q ⟨G, O, g, R, rl, gr, h, k⟩ => ⟨G, O, g, _, rl, gr, h, fun x O1 v G1 H1 go1 vr1 q1 => by
    cases e : lstOf O1 x with
    | none => simp only [e] at q1
    | some xs =>
      simp only [e] at q1
      obtain ⟨a, vs, rfl, hq, hv⟩ := go1.rel.lstOf vr1 e
      exact ⟨a, vs, rfl, hq, Bk.lst (fun z O3 w G3 H3 go3 vr3 q3 => k z O3 w G3 H3 (go1.trans rl go3) vr3 q3) go1.rel hv.reverse q1⟩⟩
/-! ### texts of numbers -/
def dStr : DC := fun xs O R => match xs with | [.int i] => i.natAbs.log2 < 1920 ∧ R (.str (toString i)) O | [.str z] => R (.str z) O | _ => False
theorem callStr : CallR X (.type "str") (fun xs H Q => (∃ i, xs = [.int i] ∧ i.natAbs.log2 < 1920 ∧ Q (.str (toString i)) H) ∨ (∃ a, xs = [.str a] ∧ Q (.str a) H)) := CallR.or call_str_int SkE.call_str_str
theorem sStr : CaS K (fun xs H Q => (∃ i, xs = [.int i] ∧ i.natAbs.log2 < 1920 ∧ Q (.str (toString i)) H) ∨ (∃ a, xs = [.str a] ∧ Q (.str a) H)) dStr := fun {G O H xs vs R Q} rl hv h k => by
  match xs, hv, h with
  | [.int i], hv, h =>
    obtain ⟨v, rfl, hw⟩ := hv.one
    cases hw
    exact .inl ⟨i, rfl, h.1, k.here rl (.str _) h.2⟩
  | [.str i], hv, h =>
    obtain ⟨v, rfl, hw⟩ := hv.one
    cases hw
    exact .inr ⟨i, rfl, k.here rl (.str _) h⟩
def dFmt : D1 := fun x O R => match x with | .str y => y.length ≤ sizeLine ∧ R (.str y) O | .int i => i.natAbs.log2 < 1920 ∧ R (.str (toString i)) O | _ => False
theorem e_fmt (ha : PE X a (lowE X.K ta)) : PE X (.FormattedValue a (-1) none pos) (lowE X.K (dUn dFmt ta)) :=
  PE.by (pe_fmt ha) fun s H Q ⟨G, O, g, R, rl, gr, h, k⟩ => ⟨G, O, g, _, rl, gr, h, fun x O1 v G1 H1 go1 vr1 q1 => by
    match x, vr1, q1 with
    | .str y, vr1, q1 => cases vr1; exact .inl ⟨y, rfl, q1.1, k _ _ _ _ _ go1 (.str _) q1.2⟩
    | .int i, vr1, q1 => cases vr1; exact .inr ⟨i, rfl, q1.1, k _ _ _ _ _ go1 (.str _) q1.2⟩⟩
def dJs : List DE → Str → DE
  | [], acc => fun _ O R => R (.str acc) O
  | t :: ts, acc => fun g O R => t g O fun x O1 => match x with | .str y => (acc ++ y).length ≤ sizeLine ∧ dJs ts (acc ++ y) g O1 R | _ => False
theorem low_js : ∀ (ts : List DE) (acc : Str) {s : L2.St} {G : Hp} {O : Om} {H : Hp} {g : Gm} {R : D → Om → Prop} {Q : Str → Hp → Prop}, Rel K G O H → GR K G s g → dJs ts acc g O R → (∀ y O' G' H', Go K G O H G' O' H' → R (.str y) O' → Q y H') → tJs (ts.map (lowE K)) acc s H Q
  | [], acc, _, _, _, _, _, _, _, rl, gr, h, k => k _ _ _ _ (Go.refl rl) h
  | t :: ts, acc, _, G, O, _, g, R, _, rl, gr, h, k => ⟨G, O, g, _, rl, gr, h, fun x O1 v G1 H1 go1 vr1 q1 => by
    match x, vr1, q1 with
    | .str y, vr1, q1 => cases vr1; exact ⟨y, rfl, q1.1, low_js ts _ go1.rel (gr.mono go1.ex) q1.2 fun z O2 G2 H2 go2 q2 => k z O2 G2 H2 (go1.trans rl go2) q2⟩⟩
theorem e_joined {v1 v2 : Expr} {rest : List Expr} {ts : List DE} (h : PJ X (v1 :: v2 :: rest) (ts.map (lowE X.K))) : PE X (.JoinedStr (v1 :: v2 :: rest) pos) (lowE X.K (dJs ts Str.empty)) :=
  PE.by (pe_joined h) fun s H Q ⟨G, O, g, R, rl, gr, h, k⟩ => low_js ts Str.empty rl gr h fun y O' G' H' go q => k _ _ _ _ _ go (.str y) q
theorem e_joined1 (ha : PE X a (lowE X.K ta)) : PE X (.JoinedStr [a] pos) (lowE X.K ta) := pe_joined1 ha
/-! ### max, min, sorted -/
def dMax2 : DC := fun xs O R => match xs with | [.int i, .int j] => R (.int (if j > i then j else i)) O | [x] => (match lstOf O x with | some ys => (match intsOf ys with | some ns => 0 < ns.length ∧ ∀ m, m ∈ ns → (∀ y, y ∈ ns → y ≤ m) → R (.int m) O | none => False) | none => False) | _ => False
def dMin2 : DC := fun xs O R => match xs with | [.int i, .int j] => R (.int (if j < i then j else i)) O | [x] => (match lstOf O x with | some ys => (match intsOf ys with | some ns => 0 < ns.length ∧ ∀ m, m ∈ ns → (∀ y, y ∈ ns → m ≤ y) → R (.int m) O | none => False) | none => False) | _ => False
abbrev rMaxA (K : PySem.W.Frag) : List V → Hp → VK → Prop := fun xs H Q => (∃ i j, xs = [.int i, .int j] ∧ Q (.int (if j > i then j else i)) H) ∨ rMax K xs H Q
abbrev rMinA (K : PySem.W.Frag) : List V → Hp → VK → Prop := fun xs H Q => (∃ i j, xs = [.int i, .int j] ∧ Q (.int (if j < i then j else i)) H) ∨ rMin K xs H Q
theorem callMax (hc : X.calm = true) : CallR X (.builtin "max") (rMaxA X.K) := CallR.or (call_max2 hc) (cr_max hc)
theorem callMin (hc : X.calm = true) : CallR X (.builtin "min") (rMinA X.K) := CallR.or (call_min2 hc) (cr_min hc)
theorem Rel.ints {G : Hp} {O : Om} {H : Hp} {v : V} {x : D} {ys : List D} {ns : List Int} (rl : Rel K G O H) (hv : VR K G v x) (e : DL.lstOf O x = some ys) (e2 : intsOf ys = some ns) : ∃ a, v = .ref a ∧ SqL K H a (ns.map V.int) := by
  obtain ⟨a, vs, rfl, hq, hv2⟩ := rl.lstOf hv e
  rw [intsOf_eq e2] at hv2
  exact ⟨a, rfl, by rw [← hv2.ints]; exact hq⟩
theorem sMax : CaS K (rMaxA K) dMax2 := fun {G O H xs vs R Q} rl hv h k => by
  unfold dMax2 at h
  split at h
  · obtain ⟨u, w, rfl, hu, hw⟩ := hv.two
    cases hu; cases hw
    exact .inl ⟨_, _, rfl, k.here rl (.int _) h⟩
  · rename_i x
    obtain ⟨v, rfl, hw⟩ := hv.one
    cases e : lstOf O x with
    | none => simp only [e] at h
    | some ys =>
      simp only [e] at h
      cases e2 : intsOf ys with
      | none => simp only [e2] at h
      | some ns =>
        simp only [e2] at h
        obtain ⟨a, rfl, hq⟩ := rl.ints hw e e2
        exact .inr ⟨a, ns, rfl, hq, h.1, fun m hm hy => k.here rl (.int _) (h.2 m hm hy)⟩
  · exact h.elim
theorem sMin : CaS K (rMinA K) dMin2 := fun {G O H xs vs R Q} rl hv h k => by
  unfold dMin2 at h
  split at h
  · obtain ⟨u, w, rfl, hu, hw⟩ := hv.two
    cases hu; cases hw
    exact .inl ⟨_, _, rfl, k.here rl (.int _) h⟩
  · rename_i x
    obtain ⟨v, rfl, hw⟩ := hv.one
    cases e : lstOf O x with
    | none => simp only [e] at h
    | some ys =>
      simp only [e] at h
      cases e2 : intsOf ys with
      | none => simp only [e2] at h
      | some ns =>
        simp only [e2] at h
        obtain ⟨a, rfl, hq⟩ := rl.ints hw e e2
        exact .inr ⟨a, ns, rfl, hq, h.1, fun m hm hy => k.here rl (.int _) (h.2 m hm hy)⟩
  · exact h.elim
def dSorted : DC := fun xs O R => match xs with | [x] => (match lstOf O x with | some ys => (match intsOf ys with | some ns => ∀ ms : List Int, ms.Perm ns → ms.Pairwise (· ≤ ·) → ∀ p, O p = none → R (.ref p) (up O p (.lst (ms.map D.int))) | none => False) | none => False) | _ => False
theorem sSorted : CaS K (rSortedI K) dSorted := fun {G O H xs vs R Q} rl hv h k => by
  match xs, hv, h with
  | [x], hv, h =>
    obtain ⟨v, rfl, hw⟩ := hv.one
    have h : (match lstOf O x with | some ys => (match intsOf ys with | some ns => ∀ ms : List Int, ms.Perm ns → ms.Pairwise (· ≤ ·) → ∀ p, O p = none → R (.ref p) (up O p (.lst (ms.map D.int))) | none => False) | none => False) := h
    cases e : lstOf O x with
    | none => simp only [e] at h
    | some ys =>
      simp only [e] at h
      cases e2 : intsOf ys with
      | none => simp only [e2] at h
      | some ns =>
        simp only [e2] at h
        obtain ⟨a, rfl, hq⟩ := rl.ints hw e e2
        exact ⟨a, ns, rfl, hq, fun ms p h1 h2 hp => k.lst rl (VRs.ofInts ms) (h ms h1 h2) p hp⟩
/-! ### constants of the module -/
def GC (K : PySem.W.Frag) (mg : Str → Option Value) (x : Str) (d : D) : Prop := ∃ v u, mg x = some u ∧ RelV v u ∧ ∀ G, VR K G v d
theorem e_gc {x : Str} {d : D} (h : GC X.K X.mg x d) (hg : Gl X x := by rfl) (hd : (x == ("__debug__" : Str)) = false := by decide) : PE X (.Name x pos) (lowE X.K (dC d)) := by
  obtain ⟨v, u, h1, h2, h3⟩ := h
  exact e_glob hg h1 h2 h3 hd
theorem GC.int {mg : Str → Option Value} {x : Str} {i : Int} {t : Tok} (h : mg x = some (.int i t)) : GC K mg x (.int i) := ⟨.int i, _, h, ⟨t, rfl⟩, fun _ => .int i⟩
theorem GC.str {mg : Str → Option Value} {x : Str} {i : Str} {t : Tok} (h : mg x = some (.str i t)) : GC K mg x (.str i) := ⟨.str i, _, h, ⟨t, rfl⟩, fun _ => .str i⟩
theorem GC.tup {mg : Str → Option Value} {x : Str} {a : Addr} {od : Option Addr} {its : List Value} {n : Nat} {sl : Array (Option Value)} {vs : List V} {ds : List D} (h : mg x = some (.ref a)) (l : K.lookup a = some ⟨.type "tuple", od, .seq its.toArray n, sl⟩) (hs : its.length ≤ sizeLine) (r : Vals vs its) (v : ∀ G, VRs K G vs ds) : GC K mg x (.tup ds) :=
  ⟨.ref a, _, h, rfl, fun G => .tup (.inr ⟨_, its.toArray, n, l, rfl, rfl, by simpa using hs, by simpa using r⟩) (v G)⟩
/-- some keyword-only defaults, no positional ones -/
theorem bnd2n {x qual : Str} {params : Arguments} {body : List Stmt} {scope : Scope} {kws : List (Str × V)} {f : Addr} {fd : FuncData} {ps ks : List Str} {n : Nat} {srcs : List Src} (F : FunD K x qual params body scope [] kws f fd) (ms : List (Str × V)) (hms : ∀ q ∈ ms, q ∈ kws) (hk : kws ≠ [])
    (h : ∀ (D : Addr) (doc pm : Value) (an : Option Addr) (cdv ct : Value) (us ws qs : List Value), us.length = n → ws.length = ks.length → qs.length = ms.length →
      KwChain D ((ms.map (·.1)).zip qs) (bindArgs (PySem.W.fnOf x qual params body scope .none (.ref D) doc pm an cdv ct) ⟨us, ks.zip ws⟩) (ps.zip (pick us ws qs srcs))) : Bnd K fd ps n ks srcs (ms.map (·.2)) := by
  obtain ⟨oc, od, dV, kV, doc, pm, an, cdv, ct, osl, rfl, lk, hcd, hD, hK⟩ := F.ex
  rcases hD with ⟨_, rfl⟩ | ⟨z, _⟩
  · rcases hK with e | ⟨D, rfl, hq⟩
    · exact absurd e hk
    · obtain ⟨qs, hl, rk, hks⟩ := kwd_vals (ms := ms) fun q hq' => hq q (hms q hq')
      refine ⟨qs, rk, fun s us ws X h1 h2 => ?_⟩
      refine BindsTo.of_looks fun M => ?_
      exact KwChain.looks X hks (h D doc pm an cdv ct us ws qs h1 h2 hl)
  · exact absurd rfl z
/-! ### reversed -/
theorem ItR.rev {a : Addr} {xs : List D} {n : Nat} {ok : Om → Prop} (hn : n = xs.length) (h : ∀ G1 O H, Ex G G1 → Rel K G1 O H → ok O → ∃ vs, SqL K H a vs ∧ VRs K G1 vs xs) : ItR K (Itv K a n) G xs.reverse ok where
  stop := fun G1 O H ex rl eo => by
    subst hn
    rw [List.length_reverse]
    exact Nat.le_refl _
  go := fun i d G1 O H e ex rl eo => by
    obtain ⟨vs, h1, h2⟩ := h G1 O H ex rl eo
    have hi : i < xs.length := by simpa using (List.getElem?_eq_some_iff.mp e).1
    rw [rev_get hi] at e
    obtain ⟨v, h3, _⟩ := h2.get e
    rw [← hn] at h3 hi
    exact ⟨hi, vs, v, h1, h3⟩
  yld := fun i d G1 O H x H' e ex rl eo y => by
    obtain ⟨rfl, hy⟩ := y
    obtain ⟨vs, h1, h2⟩ := h G1 O H' ex rl eo
    have hi : i < xs.length := by simpa using (List.getElem?_eq_some_iff.mp e).1
    rw [rev_get hi] at e
    obtain ⟨v, h3, h4⟩ := h2.get e
    have := hy vs h1
    rw [hn, h3] at this
    cases this
    exact ⟨G1, Go.refl rl, h4⟩
theorem ItR.revT {a : Addr} {xs : List D} {n : Nat} {ok : Om → Prop} (hn : n = xs.length) (h : ∀ G1 O H, Ex G G1 → Rel K G1 O H → ok O → ∃ vs, SqT K H a vs ∧ VRs K G1 vs xs) : ItR K (RT.ItvT K a n) G xs.reverse ok where
  stop := fun G1 O H ex rl eo => by
    subst hn
    rw [List.length_reverse]
    exact Nat.le_refl _
  go := fun i d G1 O H e ex rl eo => by
    obtain ⟨vs, h1, h2⟩ := h G1 O H ex rl eo
    have hi : i < xs.length := by simpa using (List.getElem?_eq_some_iff.mp e).1
    rw [rev_get hi] at e
    obtain ⟨v, h3, _⟩ := h2.get e
    rw [← hn] at h3 hi
    exact ⟨hi, vs, v, h1, h3⟩
  yld := fun i d G1 O H x H' e ex rl eo y => by
    obtain ⟨rfl, hy⟩ := y
    obtain ⟨vs, h1, h2⟩ := h G1 O H' ex rl eo
    have hi : i < xs.length := by simpa using (List.getElem?_eq_some_iff.mp e).1
    rw [rev_get hi] at e
    obtain ⟨v, h3, h4⟩ := h2.get e
    have := hy vs h1
    rw [hn, h3] at this
    cases this
    exact ⟨G1, Go.refl rl, h4⟩
theorem i_rev {tg e : Expr} {te : DE} {p : Pos} (hm : X.mg "reversed" = none) (he : PE X e (lowE X.K te)) (hg : Gl X "reversed" := by rfl) (hs : starEach [e] X.env = [(false, eval e X.env)] := by rfl) : PI X tg (.Call (.Name "reversed" p) [e] [] pos) (lowI X.K (dRev te)) :=
  PI.by (RT.pi_revA hg hm he hs) fun s H R ⟨G, O, g, R', rl, gr, h, k⟩ => ⟨G, O, g, _, rl, gr, h, fun x O1 v G1 H1 go1 vr1 q1 => by
    cases vr1 with
    | lst h1 h2 => exact ⟨_, _, rfl, .inl ⟨Evl.ex_l go1.rel.g h1, k _ _ _ _ _ _ go1 (ItR.rev h2.length fun G2 O2 H2 ex rl2 _ => ⟨_, Evl.ex_l rl2.g (Evl.ex_l ex h1), h2.mono ex⟩) q1⟩⟩
    | tup h1 h2 => exact ⟨_, _, rfl, .inr ⟨Evl.ex_t go1.rel.g h1, k _ _ _ _ _ _ go1 (ItR.revT h2.length fun G2 O2 H2 ex rl2 _ => ⟨_, Evl.ex_t rl2.g (Evl.ex_t ex h1), h2.mono ex⟩) q1⟩⟩
    | ref a =>
      have q1 : (match O1 a with | some (.lst xs) => R' xs.reverse (fun O => O a = some (.lst xs)) O1 | _ => False) := q1
      cases e : O1 a with
      | none => simp only [e] at q1
      | some o =>
        cases o with
        | lst xs =>
          simp only [e] at q1
          obtain ⟨vs, h1, h2⟩ := go1.rel.lst e
          exact ⟨a, vs, rfl, .inl ⟨SqL.of h1, k _ _ _ _ _ _ go1 (ItR.rev h2.length fun G2 O2 H2 ex rl2 eo => by
            obtain ⟨vs, h1, h2⟩ := rl2.lst eo
            exact ⟨vs, SqL.of h1, h2⟩) q1⟩⟩
        | _ => simp only [e] at q1
    | _ => exact False.elim q1⟩
end
end DL
set_option Elab.async false
set_option linter.all false
set_option maxRecDepth 100000
set_option maxHeartbeats 2000000
namespace DL
open PySem PySem.Spec PyProof.Rows L2
open Evl (Ex)
/-! ### dicts whose keys are numbers and texts -/
def kD : Key → D
  | .inl i => .int i
  | .inr x => .str x
def keyOf : D → Option Key
  | .int i => some (.inl i)
  | .str x => some (.inr x)
  | _ => none
def valD {A : Type} [DecidableEq A] : List (A × D) → A → Option D
  | [], _ => none
  | p :: r, k => if p.1 = k then some p.2 else valD r k
def putD {A : Type} [DecidableEq A] (kvs : List (A × D)) (k : A) (v : D) : List (A × D) :=
  if (kvs.any fun kv => decide (kv.1 = k)) = true then kvs.map fun kv => if kv.1 = k then (kv.1, v) else kv else kvs ++ [(k, v)]
def dropD {A : Type} [DecidableEq A] (kvs : List (A × D)) (k : A) : List (A × D) := kvs.filter fun kv => decide (kv.1 ≠ k)
theorem keyOf_vr {K : PySem.W.Frag} {G : Hp} {v : V} {x : D} {k : Key} (h : VR K G v x) (e : keyOf x = some k) : v = kV k := by
  cases h <;> cases e <;> rfl
section
variable {A : Type} [DecidableEq A] {K : PySem.W.Frag} {G : Hp}
theorem PR.val : ∀ {vs : List (A × V)} {ds : List (A × D)} (h : PR K G vs ds) (k : A), (valV vs k = none ∧ valD ds k = none) ∨ ∃ v d, valV vs k = some v ∧ valD ds k = some d ∧ VR K G v d
  | [], [], _, k => .inl ⟨rfl, rfl⟩
  | p :: vs, q :: ds, h, k => by
    cases h with
    | cons h1 h2 =>
      by_cases e : p.1 = k
      · refine .inr ⟨p.2, q.2, valV_pos e, ?_, h1.2⟩
        show (if q.1 = k then _ else _) = _
        rw [if_pos (h1.1 ▸ e)]
      · rcases PR.val h2 k with ⟨a, b⟩ | ⟨v, d, a, b, c⟩
        · refine .inl ⟨by rw [valV_neg e]; exact a, ?_⟩
          show (if q.1 = k then _ else _) = _
          rw [if_neg (h1.1 ▸ e)]
          exact b
        · refine .inr ⟨v, d, by rw [valV_neg e]; exact a, ?_, c⟩
          show (if q.1 = k then _ else _) = _
          rw [if_neg (h1.1 ▸ e)]
          exact b
theorem PR.any {vs : List (A × V)} {ds : List (A × D)} (h : PR K G vs ds) (k : A) : (vs.any fun kv => decide (kv.1 = k)) = (ds.any fun kv => decide (kv.1 = k)) := by
  induction h with
  | nil => rfl
  | cons h1 _ ih => rw [List.any_cons, List.any_cons, ih, h1.1]
theorem PR.append {vs ws : List (A × V)} {ds es : List (A × D)} (h : PR K G vs ds) (k : PR K G ws es) : PR K G (vs ++ ws) (ds ++ es) := by
  induction h with
  | nil => exact k
  | cons h1 _ ih => exact .cons h1 ih
theorem PR.mapK {v : V} {d : D} (k : A) (hv : VR K G v d) : ∀ {vs : List (A × V)} {ds : List (A × D)}, PR K G vs ds → PR K G (vs.map fun kv => if kv.1 = k then (kv.1, v) else kv) (ds.map fun kv => if kv.1 = k then (kv.1, d) else kv)
  | [], [], _ => .nil
  | p :: vs, q :: ds, h => by
    cases h with
    | cons h1 h2 =>
      refine .cons ?_ (PR.mapK k hv h2)
      show (if p.1 = k then (p.1, v) else p).1 = (if q.1 = k then (q.1, d) else q).1 ∧ VR K G (if p.1 = k then (p.1, v) else p).2 (if q.1 = k then (q.1, d) else q).2
      by_cases e : q.1 = k
      · rw [if_pos (h1.1.trans e), if_pos e]; exact ⟨h1.1, hv⟩
      · rw [if_neg (fun z => e (h1.1 ▸ z)), if_neg e]; exact h1
theorem PR.put {vs : List (A × V)} {ds : List (A × D)} {v : V} {d : D} (h : PR K G vs ds) (k : A) (hv : VR K G v d) : PR K G (putK vs k v) (putD ds k d) := by
  unfold putK putD
  rw [h.any k]
  split
  · exact PR.mapK k hv h
  · exact h.append (.cons ⟨rfl, hv⟩ .nil)
theorem PR.drop {vs : List (A × V)} {ds : List (A × D)} (h : PR K G vs ds) (k : A) : PR K G (dropK vs k) (dropD ds k) := by
  unfold dropK dropD
  induction h with
  | nil => exact .nil
  | cons h1 _ ih =>
    rename_i p q _ _ _
    by_cases e : q.1 = k
    · rw [List.filter_cons_of_neg (by simpa using h1.1.trans e), List.filter_cons_of_neg (by simpa using e)]; exact ih
    · rw [List.filter_cons_of_pos (by simpa using fun z => e (h1.1 ▸ z)), List.filter_cons_of_pos (by simpa using e)]; exact .cons h1 ih
theorem PR.len {vs : List (A × V)} {ds : List (A × D)} (h : PR K G vs ds) : vs.length = ds.length := Paired.length h
end
section
variable {X : Cx} {K : PySem.W.Frag} {a b c : Expr} {ta tb tc : DE} {pos : Pos}
theorem Rel.dK {G : Hp} {O : Om} {H : Hp} (r : Rel K G O H) {a : Addr} {es : List (Key × D)} (h : O a = some (.dK es)) : ∃ kvs, H a = some (.dK kvs) ∧ PR K G kvs es := by
  obtain ⟨_, u, hu, q⟩ := r.o a _ h
  cases u <;> first | exact q.elim | exact ⟨_, hu, q⟩
def dNewK : DE := fun _ O R => ∀ p, O p = none → R (.ref p) (up O p (.dK []))
theorem e_dnew : PE X (.Dict [] [] pos) (lowE X.K dNewK) := PE.by pe_dnewK fun s H Q ⟨G, O, g, R, rl, gr, h, k⟩ => fun p hp =>
  k _ _ _ _ _ (Go.new rl (o := .dK []) (u := .dK []) hp .nil) (.ref p) (h p (rl.fresh hp).1)
/-- a dict, locked or not -/
def dctOf (O : Om) : D → Option (List (Key × D))
  | .ref a => match O a with | some (.dK es) => some es | some (.fK _ _ es) => some es | _ => none
  | _ => none
theorem Rel.dct {G : Hp} {O : Om} {H : Hp} (r : Rel K G O H) {v : V} {x : D} {es : List (Key × D)} (hv : VR K G v x) (h : dctOf O x = some es) : ∃ a kvs, v = .ref a ∧ Rd H a (.dK kvs) ∧ PR K G kvs es := by
  cases hv with
  | ref a =>
    unfold dctOf at h
    cases e : O a with
    | none => simp only [e] at h; cases h
    | some o =>
      cases o with
      | dK es' =>
        simp only [e] at h
        cases h
        obtain ⟨kvs, h1, h2⟩ := r.dK e
        exact ⟨a, kvs, rfl, .inl h1, h2⟩
      | fK od kvs es' =>
        simp only [e] at h
        cases h
        obtain ⟨_, u, hu, q1, q2⟩ := r.o a _ e
        subst q1
        exact ⟨a, kvs, rfl, .inr ⟨od, hu⟩, q2⟩
      | _ => simp only [e] at h; cases h
  | _ => cases h
/-- what a dict has at a key -/
def dGetK : D2 := fun x y O R => match dctOf O x with | some es => (match keyOf y with | some k => (match valD es k with | some v => R v O | none => False) | none => False) | none => False
def dHasK (f : Bool → Bool) : D2 := fun y x O R => match dctOf O x with | some es => (match keyOf y with | some k => R (.bl (f (valD es k).isSome)) O | none => False) | none => False
theorem getK_of {G : Hp} {O : Om} {H : Hp} {x y : D} {v u : V} {R : D → Om → Prop} (rl : Rel K G O H) (hx : VR K G v x) (hy : VR K G u y) (h : dGetK x y O R) : ∃ a w d, v = .ref a ∧ DGet H a u (some w) ∧ VR K G w d ∧ R d O := by
  unfold dGetK at h
  cases e : dctOf O x with
  | none => simp only [e] at h
  | some es =>
    simp only [e] at h
    obtain ⟨a, kvs, rfl, h1, h2⟩ := rl.dct hx e
    cases ek : keyOf y with
    | none => simp only [ek] at h
    | some k =>
      simp only [ek] at h
      rcases h2.val k with ⟨_, z⟩ | ⟨w, d, z1, z2, z3⟩
      · simp only [z] at h
      · simp only [z2] at h
        exact ⟨a, w, d, rfl, .inl ⟨kvs, k, h1, keyOf_vr hy ek, z1.symm⟩, z3, h⟩
theorem e_dget {k : Nat} (hr : Room k X.A) (ha : PE X a (lowE X.K ta)) (hb : PE X b (lowE X.K tb)) (hs : NoSl b := by exact fun _ _ => rfl) : PE X (.Subscript a b pos) (lowE X.K (dOp dGetK ta tb)) :=
  PE.by (pe_dget (by have := hr.un; omega) ha hb hs) fun s H Q ⟨G, O, g, R, rl, gr, h, k⟩ =>
    ⟨G, O, g, _, rl, gr, h, fun x O1 v G1 H1 go1 vr1 q1 => ⟨G1, O1, g, _, go1.rel, gr.mono go1.ex, q1, fun y O2 u G2 H2 go2 vr2 q2 => by
      obtain ⟨a, w, d, rfl, h1, h2, h3⟩ := getK_of go2.rel (vr1.mono go2.ex) vr2 q2
      exact ⟨a, w, rfl, h1, k _ _ _ _ _ (go1.trans rl go2) h2 h3⟩⟩⟩
theorem hasK_of {G : Hp} {O : Om} {H : Hp} {x y : D} {v u : V} {f : Bool → Bool} {R : D → Om → Prop} (rl : Rel K G O H) (hx : VR K G v x) (hy : VR K G u y) (h : dHasK f y x O R) : ∃ a o, v = .ref a ∧ DGet H a u o ∧ R (.bl (f o.isSome)) O := by
  unfold dHasK at h
  cases e : dctOf O x with
  | none => simp only [e] at h
  | some es =>
    simp only [e] at h
    obtain ⟨a, kvs, rfl, h1, h2⟩ := rl.dct hx e
    cases ek : keyOf y with
    | none => simp only [ek] at h
    | some k =>
      simp only [ek] at h
      rcases h2.val k with ⟨z0, z⟩ | ⟨w, d, z1, z2, z3⟩
      · rw [z] at h
        exact ⟨a, none, rfl, .inl ⟨kvs, k, h1, keyOf_vr hy ek, z0.symm⟩, h⟩
      · rw [z2] at h
        exact ⟨a, some w, rfl, .inl ⟨kvs, k, h1, keyOf_vr hy ek, z1.symm⟩, h⟩
theorem c_in {k : Nat} (hr : Room k X.A) (ha : PE X a (lowE X.K ta)) (hb : PE X b (lowE X.K tb)) : PC X .In a b (lowE X.K (dOp (dHasK fun b => b) ta tb)) := by
  have h := pc_din (X := X) (by have := hr.un; omega) ha hb
  refine ⟨fun pins s σ H Q I q => h.run pins s σ H Q I ?_⟩
  obtain ⟨G, O, g, R, rl, gr, h, k⟩ := q
  exact ⟨G, O, g, _, rl, gr, h, fun x O1 v G1 H1 go1 vr1 q1 => ⟨G1, O1, g, _, go1.rel, gr.mono go1.ex, q1, fun y O2 u G2 H2 go2 vr2 q2 => by
      obtain ⟨a, o, rfl, h1, h2⟩ := hasK_of go2.rel vr2 (vr1.mono go2.ex) q2
      exact ⟨a, o, rfl, h1, k _ _ _ _ _ (go1.trans rl go2) (.bl _) h2⟩⟩⟩
theorem c_notin {k : Nat} (hr : Room k X.A) (ha : PE X a (lowE X.K ta)) (hb : PE X b (lowE X.K tb)) : PC X .NotIn a b (lowE X.K (dOp (dHasK fun b => !b) ta tb)) := by
  have h := pc_dnotin (X := X) (by have := hr.un; omega) ha hb
  refine ⟨fun pins s σ H Q I q => h.run pins s σ H Q I ?_⟩
  obtain ⟨G, O, g, R, rl, gr, h, k⟩ := q
  exact ⟨G, O, g, _, rl, gr, h, fun x O1 v G1 H1 go1 vr1 q1 => ⟨G1, O1, g, _, go1.rel, gr.mono go1.ex, q1, fun y O2 u G2 H2 go2 vr2 q2 => by
      obtain ⟨a, o, rfl, h1, h2⟩ := hasK_of go2.rel vr2 (vr1.mono go2.ex) q2
      exact ⟨a, o, rfl, h1, k _ _ _ _ _ (go1.trans rl go2) (.bl _) h2⟩⟩⟩
theorem e_pc {op : CmpOp} {t : DE} (h : PC X op a b (lowE X.K t)) (hm : behindInMarks op b = false := by rfl) : PE X (.Compare a [op] [b] pos) (lowE X.K t) := pe_cmp h hm
theorem t_pc {op : CmpOp} {t : DE} (h : PC X op a b (lowE X.K t)) (hm : behindInMarks op b = false := by rfl) : PT X (.Compare a [op] [b] pos) (lowT X.K (dTest t)) :=
  PT.by (pt_cmp h hm) fun s H Q h => low_test s H Q h
/-- d[k] = v -/
def dPutK (td ty tv : DE) : DS := fun F g O => tv g O fun v O1 => td g O1 fun x O2 => ty g O2 fun y O3 => match x with | .ref a => (match O3 a with | some (.dK es) => (match keyOf y with | some k => es.length < sizeLine ∧ F.nx g (up O3 a (.dK (putD es k v))) | none => False) | _ => False) | _ => False
theorem s_dput {W : WX} {k : Nat} {pos' : Pos} (hr : Room k X.A) (ho : PE X a (lowE X.K ta)) (hi : PE X b (lowE X.K tb)) (hv : PE X c (lowE X.K tc)) (hs : swapsWith c (some (.Subscript a b pos')) pos.line X.env = pure false := by rfl) :
    PS X (.Assign [.Subscript a b pos'] c pos) (lowS X.K W (dPutK ta tb tc)) :=
  PS.by (ps_dput (by have := hr.un; omega) ho hi hv hs) fun E s H ⟨G, O, g, F, rl, gr, h, k⟩ =>
    ⟨G, O, g, _, rl, gr, h, fun z O1 w G1 H1 go1 vr1 q1 => ⟨G1, O1, g, _, go1.rel, gr.mono go1.ex, q1, fun x O2 v G2 H2 go2 vr2 q2 => ⟨G2, O2, g, _, go2.rel, (gr.mono go1.ex).mono go2.ex, q2, fun y O3 u G3 H3 go3 vr3 q3 => by
      have g13 := (go1.trans rl go2).trans rl go3
      match x, vr2, q3 with
      | .ref a, vr2, q3 =>
        cases vr2
        have q3 : (match O3 a with | some (.dK es) => (match keyOf y with | some k => es.length < sizeLine ∧ F.nx g (up O3 a (.dK (putD es k z))) | none => False) | _ => False) := q3
        cases e : O3 a with
        | none => simp only [e] at q3
        | some o =>
          cases o with
          | dK es =>
            simp only [e] at q3
            cases ek : keyOf y with
            | none => simp only [ek] at q3
            | some kk =>
              simp only [ek] at q3
              obtain ⟨kvs, h1, h2⟩ := go3.rel.dK e
              have hz := (vr1.mono go2.ex).mono go3.ex
              have gw := Go.write go3.rel (o := .dK (putD es kk z)) (u := .dK (putK kvs kk w)) e (h2.put kk hz)
              exact ⟨a, _, rfl, .inl ⟨kvs, kk, h1, keyOf_vr vr3 ek, by rw [h2.len]; exact q3.1, rfl⟩, k.nx _ _ _ _ _ (g13.trans rl gw) ((gr.mono g13.ex).mono gw.ex) q3.2⟩
          | _ => simp only [e] at q3⟩⟩⟩
/-- del d[k] -/
def dDelK (td ty : DE) : DS := fun F g O => td g O fun x O2 => ty g O2 fun y O3 => match x with | .ref a => (match O3 a with | some (.dK es) => (match keyOf y with | some k => (valD es k).isSome = true ∧ F.nx g (up O3 a (.dK (dropD es k))) | none => False) | _ => False) | _ => False
theorem s_ddel {W : WX} {tpos : Pos} (ho : PE X a (lowE X.K ta)) (hi : PE X b (lowE X.K tb)) : PS X (.Delete [.Subscript a b tpos] pos) (lowS X.K W (dDelK ta tb)) :=
  PS.by (ps_ddel ho hi) fun E s H ⟨G, O, g, F, rl, gr, h, k⟩ =>
    ⟨G, O, g, _, rl, gr, h, fun x O2 v G2 H2 go2 vr2 q2 => ⟨G2, O2, g, _, go2.rel, gr.mono go2.ex, q2, fun y O3 u G3 H3 go3 vr3 q3 => by
      have g13 := go2.trans rl go3
      match x, vr2, q3 with
      | .ref a, vr2, q3 =>
        cases vr2
        have q3 : (match O3 a with | some (.dK es) => (match keyOf y with | some k => (valD es k).isSome = true ∧ F.nx g (up O3 a (.dK (dropD es k))) | none => False) | _ => False) := q3
        cases e : O3 a with
        | none => simp only [e] at q3
        | some o =>
          cases o with
          | dK es =>
            simp only [e] at q3
            cases ek : keyOf y with
            | none => simp only [ek] at q3
            | some kk =>
              simp only [ek] at q3
              obtain ⟨kvs, h1, h2⟩ := go3.rel.dK e
              have gw := Go.write go3.rel (o := .dK (dropD es kk)) (u := .dK (dropK kvs kk)) e (h2.drop kk)
              refine ⟨a, kvs, kk, rfl, h1, keyOf_vr vr3 ek, ?_, k.nx _ _ _ _ _ (g13.trans rl gw) ((gr.mono g13.ex).mono gw.ex) q3.2⟩
              rcases h2.val kk with ⟨_, z⟩ | ⟨w, d, z1, z2, z3⟩
              · rw [z] at q3; exact absurd q3.1 (by decide)
              · rw [z1]; rfl
          | _ => simp only [e] at q3⟩⟩
/-- sorted(d) for keys that are numbers -/
def intKs : List (Key × D) → Option (List Int)
  | [] => some []
  | (.inl i, _) :: r => (intKs r).map (i :: ·)
  | _ => none
theorem intKs_eq : ∀ {es : List (Key × D)} {ks : List Int}, intKs es = some ks → es.map (·.1) = ks.map Sum.inl
  | [], _, h => by cases h; rfl
  | (.inl i, d) :: r, _, h => by
    unfold intKs at h
    cases e : intKs r with
    | none => rw [e] at h; cases h
    | some ks => rw [e] at h; cases h; rw [List.map_cons, intKs_eq e]; rfl
  | (.inr i, d) :: r, _, h => by cases h
theorem PR.keys {A : Type} {G : Hp} {vs : List (A × V)} {ds : List (A × D)} (h : PR K G vs ds) : vs.map (·.1) = ds.map (·.1) := by
  induction h with
  | nil => rfl
  | cons h1 _ ih => rw [List.map_cons, List.map_cons, ih, h1.1]
def dSortedD : DC := fun xs O R => match xs with | [x] => (match dctOf O x with | some es => (match intKs es with | some ks => ks.length < 64 ∧ ∀ ms : List Int, ms.Perm ks → ms.Pairwise (· ≤ ·) → ∀ p, O p = none → R (.ref p) (up O p (.lst (ms.map D.int))) | none => False) | none => False) | _ => False
abbrev rSortDI : List V → Hp → VK → Prop := fun xs H Q => ∃ (a : Addr) (kvs : List (Key × V)) (ks : List Int), xs = [.ref a] ∧ Rd H a (.dK kvs) ∧ kvs.map (·.1) = ks.map Sum.inl ∧ ks.length < 64 ∧ ∀ (ys : List Int) (p : Addr), ys.Perm ks → ys.Pairwise (· ≤ ·) → H p = none → Q (.ref p) (upd H p (.lst (ys.map V.int)))
theorem sSortedD : CaS K rSortDI dSortedD := fun {G O H xs vs R Q} rl hv h k => by
  match xs, hv, h with
  | [x], hv, h =>
    obtain ⟨v, rfl, hw⟩ := hv.one
    have h : (match dctOf O x with | some es => (match intKs es with | some ks => ks.length < 64 ∧ ∀ ms : List Int, ms.Perm ks → ms.Pairwise (· ≤ ·) → ∀ p, O p = none → R (.ref p) (up O p (.lst (ms.map D.int))) | none => False) | none => False) := h
    cases e : dctOf O x with
    | none => simp only [e] at h
    | some es =>
      simp only [e] at h
      cases e2 : intKs es with
      | none => simp only [e2] at h
      | some ks =>
        simp only [e2] at h
        obtain ⟨a, kvs, rfl, h1, h2⟩ := rl.dct hw e
        exact ⟨a, kvs, ks, rfl, h1, by rw [h2.keys, intKs_eq e2], h.1, fun ms p q1 q2 hp => k.lst rl (VRs.ofInts ms) (h.2 ms q1 q2) p hp⟩
theorem callSortedD (hc : X.calm = true) : CallR X (.builtin "sorted") rSortDI := call_sortedDI hc
/-! ### a dict that is walked -/
def dLockE (i : Nat) (t : DE) : DE := fun g O R => match g[i]? with
  | some (some (.ref a)) => (match O a with | some (.dK es) => ∀ od kvs, t g (up O a (.fK od kvs es)) fun v O' => O' a = some (.fK od kvs es) ∧ R v (up O' a (.dK es)) | _ => False)
  | _ => False
theorem Rel.lock {G : Hp} {O : Om} {H : Hp} (r : Rel K G O H) {a : Addr} {es : List (Key × D)} {kvs : List (Key × V)} {od : Obj} (h : O a = some (.dK es)) (hp : PR K G kvs es) : Rel K G (up O a (.fK od kvs es)) (upd H a (.frz od (.dK kvs))) :=
  (Go.write r (o := .fK od kvs es) (u := .frz od (.dK kvs)) h ⟨rfl, hp⟩).rel
theorem Go.unlock {G G' : Hp} {O O' : Om} {H H' : Hp} {a : Addr} {es : List (Key × D)} {kvs : List (Key × V)} {od : Obj} (rl : Rel K G O H) (h : O a = some (.dK es)) (hp : PR K G kvs es) (go : Go K G (up O a (.fK od kvs es)) (upd H a (.frz od (.dK kvs))) G' O' H') (h' : O' a = some (.fK od kvs es)) :
    H' a = some (.frz od (.dK kvs)) ∧ Go K G O H G' (up O' a (.dK es)) (upd H' a (.dK kvs)) := by
  obtain ⟨_, u, hu, q1, q2⟩ := go.rel.o a _ h'
  subst q1
  refine ⟨hu, ?_⟩
  have g1 : Go K G O H G (up O a (.fK od kvs es)) (upd H a (.frz od (.dK kvs))) := Go.write rl h ⟨rfl, hp⟩
  have g2 := Go.write go.rel (o := .dK es) (u := .dK kvs) h' (show PR K G' kvs es from q2)
  exact (g1.trans rl go).trans rl g2
theorem e_lock {t : DE} (i : Nat) (h : PE X a (lowE X.K t)) : PE X a (lowE X.K (dLockE i t)) := PE.by (pe_lock h) fun s H Q ⟨G, O, g, R, rl, gr, h, k⟩ => by
  unfold dLockE at h
  split at h
  · rename_i a e
    cases eo : O a with
    | none => simp only [eo] at h
    | some o =>
      cases o with
      | dK es =>
        simp only [eo] at h
        obtain ⟨kvs, h1, h2⟩ := rl.dK eo
        refine ⟨a, .dK kvs, h1, True.intro, fun od => ⟨G, _, g, _, rl.lock eo h2, gr, h od kvs, fun x O1 v G1 H1 go1 vr1 q1 => ?_⟩⟩
        obtain ⟨z1, z2⟩ := Go.unlock rl eo h2 go1 q1.1
        exact ⟨z1, k _ _ _ _ _ z2 vr1 q1.2⟩
      | _ => simp only [eo] at h
  · exact h.elim
theorem VR.kD {G : Hp} (k : Key) : VR K G (kV k) (DL.kD k) := by cases k; exact .int _; exact .str _
theorem ItR.keys {G : Hp} {a : Addr} {od : Obj} {kvs : List (Key × V)} {es : List (Key × D)} : ItR K (Itk a od kvs) G (es.map fun kv => kD kv.1) (fun O => O a = some (.fK od kvs es)) where
  stop := fun G1 O H ex rl e => by
    obtain ⟨_, u, hu, q1, q2⟩ := rl.o a _ e
    subst q1
    exact ⟨hu, by rw [List.length_map, PR.len q2]; exact Nat.le_refl _⟩
  go := fun i d G1 O H e ex rl eo => by
    obtain ⟨_, u, hu, q1, q2⟩ := rl.o a _ eo
    subst q1
    exact ⟨hu, by rw [PR.len q2]; simpa using (List.getElem?_eq_some_iff.mp e).1⟩
  yld := fun i d G1 O H x H' e ex rl eo y => by
    obtain ⟨rfl, k, v, hk, rfl⟩ := y
    obtain ⟨_, u, hu, q1, q2⟩ := rl.o a _ eo
    refine ⟨G1, Go.refl rl, ?_⟩
    have hks := PR.keys q2
    have h1 : (kvs.map (·.1))[i]? = some k := by rw [List.getElem?_map, hk]; rfl
    rw [hks, List.getElem?_map] at h1
    rw [List.getElem?_map] at e
    cases ee : es[i]? with
    | none => rw [ee] at e; cases e
    | some z =>
      rw [ee] at e h1
      cases e
      have : z.1 = k := Option.some.inj h1
      show VR K G1 (kV k) (kD z.1)
      rw [this]
      exact VR.kD k
def dKeys (te : DE) : DI := fun g O R => te g O fun x O1 => match x with | .ref a => (match O1 a with | some (.fK od kvs es) => R (es.map fun kv => kD kv.1) (fun O => O a = some (.fK od kvs es)) O1 | _ => False) | _ => False
theorem i_keys {tg : Expr} (he : PE X a (lowE X.K ta)) : PI X tg a (lowI X.K (dKeys ta)) := PI.by (pi_keys he) fun s H R ⟨G, O, g, R', rl, gr, h, k⟩ => ⟨G, O, g, _, rl, gr, h, fun x O1 v G1 H1 go1 vr1 q1 => by
  match x, vr1, q1 with
  | .ref a, vr1, q1 =>
    cases vr1
    have q1 : (match O1 a with | some (.fK od kvs es) => R' (es.map fun kv => kD kv.1) (fun O => O a = some (.fK od kvs es)) O1 | _ => False) := q1
    cases e : O1 a with
    | none => simp only [e] at q1
    | some o =>
      cases o with
      | fK od kvs es =>
        simp only [e] at q1
        obtain ⟨_, u, hu, z1, z2⟩ := go1.rel.o a _ e
        subst z1
        exact ⟨a, od, rfl, .inl ⟨kvs, hu, k _ _ _ _ _ _ go1 ItR.keys q1⟩⟩
      | _ => simp only [e] at q1⟩
end
end DL
set_option Elab.async false
set_option linter.all false
set_option maxRecDepth 100000
set_option maxHeartbeats 2000000
namespace DL
open PySem PySem.Spec PyProof.Rows L2
open Evl (Ex)
section
variable {X : Cx} {K : PySem.W.Frag} {a b c : Expr} {ta tb tc : DE} {pos : Pos}
/-! ### x += y, x -= y of numbers -/
def dIpAdd : D2 := DL.dI fun i j => .int (i + j)
def dIpSub : D2 := DL.dI fun i j => .int (i - j)
theorem sIp {f : Int → Int → Int} : OpS K (ipI f) (DL.dI fun i j => .int (f i j)) := fun {G O H x y v u R Q} rl hx hy h k => by
  match x, y, hx, hy, h with
  | .int i, .int j, hx, hy, h =>
    cases hx; cases hy
    exact ⟨i, j, rfl, rfl, k.here rl (.int _) h⟩
theorem sIpAdd : OpS K (ipI fun i j => i + j) dIpAdd := sIp
theorem sIpSub : OpS K (ipI fun i j => i - j) dIpSub := sIp
end
end DL
set_option Elab.async false
set_option linter.all false
set_option maxRecDepth 100000
set_option maxHeartbeats 2000000
namespace DL
open PySem PySem.Spec PyProof.Rows L2
open Evl (Ex)
/-! ### what is owned becomes data -/
def del (O : Om) (a : Addr) : Om := fun b => if b = a then none else O b
theorem del_same {O : Om} {a : Addr} : del O a a = none := if_pos rfl
theorem del_ne {O : Om} {a b : Addr} (h : b ≠ a) : del O a b = O b := if_neg h
theorem del_up {O : Om} {a : Addr} {o : DO} (h : O a = none) : del (up O a o) a = O := by
  funext b
  unfold del
  split
  · rename_i e; subst e; exact h.symm
  · rename_i e; exact up_ne e
def FzK (R : D → Om → Prop) : D → Om → Prop := fun x O => match x with
  | .ref a => (match O a with | some (.lst xs) => R (.lst xs) (del O a) | _ => R (.ref a) O)
  | x => R x O
theorem fz_new {R : D → Om → Prop} {xs : List D} {O : Om} (h : R (.lst xs) O) : ∀ p, O p = none → FzK R (.ref p) (up O p (.lst xs)) := fun p hp => by
  unfold FzK
  simp only [up_same]
  rw [del_up hp]
  exact h
theorem fz_ref {R : D → Om → Prop} {a : Addr} {xs : List D} {O : Om} (e : O a = some (.lst xs)) (h : R (.lst xs) (del O a)) : FzK R (.ref a) O := by
  unfold FzK
  simp only [e]
  exact h
section
variable {K : PySem.W.Frag} {G : Hp} {O : Om} {H : Hp}
theorem Go.freeze (rl : Rel K G O H) {a : Addr} {xs : List D} (h : O a = some (.lst xs)) : ∃ G', Go K G O H G' (del O a) H ∧ VR K G' (.ref a) (.lst xs) := by
  obtain ⟨vs, h1, h2⟩ := rl.lst h
  obtain ⟨hg, _⟩ := rl.o a _ h
  have ex : Ex G (upd G a (.lst vs)) := Ex.new hg
  refine ⟨upd G a (.lst vs), ⟨⟨fun b o e => ?_, fun b o e => ?_⟩, ex, fun b o _ e => e, fun b o e => ?_, fun b o e => ?_⟩, .lst (SqL.of upd_same) (h2.mono ex)⟩
  · by_cases hb : b = a
    · subst hb; rw [upd_same] at e; cases e; exact h1
    · rw [upd_ne hb] at e; exact rl.g b o e
  · by_cases hb : b = a
    · subst hb; rw [del_same] at e; cases e
    · rw [del_ne hb] at e
      obtain ⟨z1, u, z2, z3⟩ := rl.o b o e
      exact ⟨by rw [upd_ne hb]; exact z1, u, z2, z3.mono ex⟩
  · by_cases hb : b = a
    · subst hb; rw [del_same] at e; cases e
    · rw [del_ne hb] at e; exact .inl ⟨o, e⟩
  · by_cases hb : b = a
    · subst hb; exact .inl ⟨_, h⟩
    · rw [upd_ne hb] at e; exact .inr (.inl ⟨o, e⟩)
theorem fz_back {R : D → Om → Prop} {x : D} {v : V} (rl : Rel K G O H) (hv : VR K G v x) (h : FzK R x O) : ∃ x' O' G', Go K G O H G' O' H ∧ VR K G' v x' ∧ R x' O' := by
  unfold FzK at h
  split at h
  · rename_i a
    split at h
    · rename_i xs e
      obtain ⟨G', go, vr⟩ := Go.freeze rl e
      cases hv
      exact ⟨_, _, G', go, vr, h⟩
    · exact ⟨_, _, G, Go.refl rl, hv, h⟩
  · exact ⟨_, _, G, Go.refl rl, hv, h⟩
end
def dFz (t : DE) : DE := fun g O R => t g O (FzK R)
section
variable {X : Cx} {e : Expr} {t : DE}
theorem e_fz (h : PE X e (lowE X.K t)) : PE X e (lowE X.K (dFz t)) := PE.by h fun s H Q ⟨G, O, g, R, rl, gr, h, k⟩ =>
  ⟨G, O, g, _, rl, gr, h, fun x O1 v G1 H1 go1 vr1 q1 => by
    obtain ⟨x', O2, G2, go2, vr2, q2⟩ := fz_back go1.rel vr1 q1
    exact k _ _ _ _ _ (go1.trans rl go2) vr2 q2⟩
/-- name = [comprehension], as data -/
theorem s_setLcF {pos : Pos} {tg : Expr} {W : WX} {i : Nat} {y : Str} {py : Pos} {elt iter : Expr} {ifs : List Expr} {scope : Scope} {own : List (Str × Nat)} {spos : Pos} {it : DI} {u : DG} {tt : DT} {te : DE} (hc : X.calm = true) (hN : X.N.Nodup) (hy : X.N[i]? = some y) (hyl : X.env.scope.names.lookup y = some .local)
    (hsw : swapsWith (.ListComp elt [⟨tg, iter, ifs, 0⟩] scope pos) (some (.Name y py)) spos.line X.env = pure true) (hi : PI X tg iter (lowI X.K it)) (ok : BlkOk X.N X.env.scope scope own)
    (hg : ∀ (s : Shared) (H : Hp) (C : Addr) (cl : List (Str × Addr)) (fp : List Addr), PG (X.blk s H scope (compEnvC scope cl C X.env) fp) tg (lowGw X.K (own.map (·.2)) u)) (ht : ∀ (s : Shared) (H : Hp) (C : Addr) (cl : List (Str × Addr)) (fp : List Addr), PTs (X.blk s H scope (compEnvC scope cl C X.env) fp) ifs (lowT X.K tt))
    (he : ∀ (s : Shared) (H : Hp) (C : Addr) (cl : List (Str × Addr)) (fp : List Addr), PE (X.blk s H scope (compEnvC scope cl C X.env) fp) elt (lowE X.K te)) (hs : ∀ x, foldedSetIterable iter X.env x = pure x := by intro _; rfl) :
    PS X (.Assign [.Name y py] (.ListComp elt [⟨tg, iter, ifs, 0⟩] scope pos) spos) (lowS X.K W (dSet i (dFz (dLc it u tt te (own.map (·.2)))))) := PS.by (ps_setLc hc hN hy hyl hsw hi ok hg ht he hs) fun E s H ⟨G, O, g, F, rl, gr, h, k⟩ =>
  low_lc s H _ ⟨G, O, g, _, rl, gr, h, fun x O1 v G1 H1 go1 vr1 q1 => by
    obtain ⟨x', O2, G2, go2, vr2, q2⟩ := fz_back go1.rel vr1 q1
    exact k.nx _ _ _ _ _ (go1.trans rl go2) ((gr.mono (go1.trans rl go2).ex).set i vr2) q2⟩
end
/-! ### x in a row of flat things -/
def flD : D → Bool
  | .non => true
  | .bl _ => true
  | .int _ => true
  | .str _ => true
  | _ => false
def eqF : D → D → Bool
  | .non, .non => true
  | .bl a, .bl b => a == b
  | .bl a, .int b => (if a then 1 else 0) == b
  | .int a, .bl b => a == (if b then 1 else 0)
  | .int a, .int b => decide (a = b)
  | .str a, .str b => decide (a = b)
  | _, _ => false
def inD (x : D) (xs : List D) : Bool := xs.any fun y => eqF y x
def dInS (f : Bool → Bool) : D2 := fun x y O R => match seqOf O y with | some ys => flD x = true ∧ ys.all flD = true ∧ R (.bl (f (inD x ys))) O | none => False
section
variable {K : PySem.W.Frag} {G : Hp} {O : Om} {H : Hp}
theorem flD_ok {v : V} {x : D} (hv : VR K G v x) (h : flD x = true) : flatV v = true := by
  cases hv <;> first | rfl | cases h
theorem eqF_ok {v w : V} {x y : D} (hv : VR K G v x) (hw : VR K G w y) (h : flD x = true) (h' : flD y = true) : eqV v w = eqF x y := by
  cases hv <;> first | cases h | skip
  all_goals cases hw <;> first | cases h' | skip
  all_goals first | rfl | (simp only [eqV, eqF]; rw [Bool.eq_iff_iff]; simp; done)
theorem flDs_ok {vs : List V} {xs : List D} (hv : VRs K G vs xs) (h : xs.all flD = true) : vs.all flatV = true := by
  match vs, xs, hv with
  | _, _, .nil => rfl
  | _, _, .cons q r =>
    rw [List.all_cons, Bool.and_eq_true] at h ⊢
    exact ⟨flD_ok q h.1, flDs_ok r h.2⟩
theorem inD_ok {v : V} {x : D} {vs : List V} {xs : List D} (hv : VR K G v x) (hs : VRs K G vs xs) (h : flD x = true) (h' : xs.all flD = true) : inV v vs = inD x xs := by
  match vs, xs, hs with
  | _, _, .nil => rfl
  | _, _, .cons (v := w) (vs := ws) (d := y) (ds := ys) q r =>
    rw [List.all_cons, Bool.and_eq_true] at h'
    show (eqV w v || inV v ws) = (eqF y x || inD x ys)
    rw [inD_ok hv r h h'.2, eqF_ok q hv h'.1 h]
theorem sInS : OpS K (rIn K false) (dInS fun b => b) := fun {G O H x y v u R Q} rl hx hy h k => by
  unfold dInS at h
  cases e : seqOf O y with
  | none => simp only [e] at h
  | some ys =>
    simp only [e] at h
    obtain ⟨a, vs, rfl, hq, hv⟩ := rl.seqOf hy e
    refine ⟨a, vs, rfl, hq, flD_ok hx h.1, flDs_ok hv h.2.1, ?_⟩
    rw [inD_ok hx hv h.1 h.2.1]
    exact k.here rl (.bl _) h.2.2
theorem sNotInS : OpS K (rIn K true) (dInS fun b => !b) := fun {G O H x y v u R Q} rl hx hy h k => by
  unfold dInS at h
  cases e : seqOf O y with
  | none => simp only [e] at h
  | some ys =>
    simp only [e] at h
    obtain ⟨a, vs, rfl, hq, hv⟩ := rl.seqOf hy e
    refine ⟨a, vs, rfl, hq, flD_ok hx h.1, flDs_ok hv h.2.1, ?_⟩
    rw [inD_ok hx hv h.1 h.2.1]
    exact k.here rl (.bl _) h.2.2
end
/-! ### < of tuples of numbers -/
def dLtA : D2 := fun x y O R => match x, y with
  | .int i, .int j => R (.bl (decide (i < j))) O
  | .tup xs, .tup ys => (match intsOf xs, intsOf ys with | some ns, some ms => R (.bl (HT.lexLt ns ms)) O | _, _ => False)
  | _, _ => False
abbrev rLtA (K : PySem.W.Frag) : R2 := fun x y H Q => (rI0 fun i j => .bl (decide (i < j))) x y H Q ∨ rLtT K x y H Q
theorem sLtA {K : PySem.W.Frag} : OpS K (rLtA K) dLtA := fun {G O H x y v u R Q} rl hx hy h k => by
  cases hx with
  | int i => cases hy <;> first | exact h.elim | exact .inl ⟨_, _, rfl, rfl, k.here rl (.bl _) h⟩
  | tup h1 h2 =>
    cases hy with
    | tup h3 h4 =>
      rename_i a1 vs1 xs a2 vs2 ys
      have h : (match intsOf xs, intsOf ys with | some ns, some ms => R (.bl (HT.lexLt ns ms)) O | _, _ => False) := h
      cases e1 : intsOf xs with
      | none => simp only [e1] at h
      | some ns =>
        cases e2 : intsOf ys with
        | none => simp only [e1, e2] at h
        | some ms =>
          simp only [e1, e2] at h
          rw [intsOf_eq e1] at h2
          rw [intsOf_eq e2] at h4
          rw [h2.ints] at h1
          rw [h4.ints] at h3
          exact .inr ⟨_, _, ns, ms, rfl, rfl, Evl.ex_t rl.g h1, Evl.ex_t rl.g h3, k.here rl (.bl _) h⟩
    | _ => exact h.elim
  | _ => cases hy <;> exact h.elim
theorem opLtA {X : Cx} {k : Nat} (hr : Room k X.A) : OpR X (compareOp .Lt) (rLtA X.K) := OpR.or op_lt (op_ltT (by have := hr.un; omega))
end DL
set_option Elab.async false
set_option linter.all false
set_option maxRecDepth 100000
set_option maxHeartbeats 2000000
namespace DL
open PySem PySem.Spec PyProof.Rows L2
open Evl (Ex)
/-! ### lists that are data at once -/
theorem Bk.lstF {K : PySem.W.Frag} {G : Hp} {O : Om} {H : Hp} {R : D → Om → Prop} {Q : VK} {xs : List D} {vs : List V} (k : Bk K G O H R Q) (r : Rel K G O H) (hv : VRs K G vs xs) (h : R (.lst xs) O) : ∀ p, H p = none → Q (.ref p) (upd H p (.lst vs)) := fun p hp => by
  have g := Go.data r (u := .lst vs) hp
  exact k _ _ _ _ _ g (.lst (SqL.of upd_same) (hv.mono g.ex)) h
def dLstF (t : DA) : DE := fun g O R => t g O fun xs O1 => R (.lst xs) O1
def dRevF (t : DE) : DE := fun g O R => t g O fun x O1 => match lstOf O1 x with | some xs => R (.lst xs.reverse) O1 | none => False
def dSlF (te : DE) (tl th : DOp) : DE := fun g O R => te g O fun x O1 => tl g O1 fun l O2 => th g O2 fun u O3 => match x with
  | .str z => z.length ≤ sizeLine ∧ R (.str (cutS z l u)) O3
  | .tup xs => R (.tup (cutD xs l u)) O3
  | x => match lstOf O3 x with | some xs => R (.lst (cutD xs l u)) O3 | none => False
def dLcF (it : DI) (u : DG) (tt : DT) (te : DE) (vs : List Nat) : DE := fun g O R => it g O fun xs ok O1 => dComp u tt te ok (wipeD g vs) (fun ys O2 => R (.lst ys) O2) xs [] O1
section
variable {X : Cx} {K : PySem.W.Frag} {a b c : Expr} {ta tb tc : DE} {pos : Pos} {es : List Expr} {tA : DA} {n : Nat}
theorem e_lstF (h : PA X es (lowA X.K n tA)) (hn : n ≤ 1000 := by decide) : PE X (.List es pos) (lowE X.K (dLstF tA)) := PE.by (pe_lst h) fun s H Q ⟨G, O, g, R, rl, gr, h, k⟩ =>
  ⟨G, O, g, _, rl, gr, h, fun xs O1 vs G1 H1 go1 vr1 hl q1 => ⟨by rw [vr1.length, hl]; exact Nat.le_trans hn (by decide), fun p hp => by
    have b : Bk X.K G1 O1 H1 R Q := fun x O2 v G2 H2 go2 vr q2 => k _ _ _ _ _ (go1.trans rl go2) vr q2
    exact b.lstF go1.rel vr1 q1 p hp⟩⟩
theorem e_revF {k : Nat} {p1 p2 p3 : Pos} (ha : PE X a (lowE X.K ta)) : PE X (.Subscript a (.Slice none none (some (.UnaryOp .USub (.Constant (.int 1) k p1) p2)) p3) pos) (lowE X.K (dRevF ta)) :=
  PE.by (pe_revL ha) fun s H Q ⟨G, O, g, R, rl, gr, h, k⟩ => ⟨G, O, g, _, rl, gr, h, fun x O1 v G1 H1 go1 vr1 q1 => by
    cases e : lstOf O1 x with
    | none => simp only [e] at q1
    | some xs =>
      simp only [e] at q1
      obtain ⟨a, vs, rfl, hq, hv⟩ := go1.rel.lstOf vr1 e
      exact ⟨a, vs, rfl, hq, Bk.lstF (fun z O3 w G3 H3 go3 vr3 q3 => k z O3 w G3 H3 (go1.trans rl go3) vr3 q3) go1.rel hv.reverse q1⟩⟩
theorem e_sliceF {lo hi : Option Expr} {tl th : DOp} {p2 : Pos} (he : PE X a (lowE X.K ta)) (hl : PO X lo (lowO X.K tl)) (hu : PO X hi (lowO X.K th)) : PE X (.Subscript a (.Slice lo hi none p2) pos) (lowE X.K (dSlF ta tl th)) :=
  PE.by (pe_slice (SlR.or sl_list (SlR.or sl_tupA sl_str)) he hl hu) fun s H Q ⟨G, O, g, R, rl, gr, h, k⟩ => ⟨G, O, g, _, rl, gr, h, fun x O1 v G1 H1 go1 vr1 q1 => ⟨G1, O1, g, _, go1.rel, gr.mono go1.ex, q1, fun l O2 G2 H2 go2 q2 =>
    ⟨G2, O2, g, _, go2.rel, gr.mono (go1.ex.trans go2.ex), q2, fun u O3 G3 H3 go3 q3 => by
      have g13 := (go1.trans rl go2).trans rl go3
      have bk : Bk X.K G3 O3 H3 R Q := fun x O4 v G4 H4 go4 vr q4 => k _ _ _ _ _ (g13.trans rl go4) vr q4
      have vr3 := vr1.mono (go2.ex.trans go3.ex)
      have gen : (match lstOf O3 x with | some xs => R (.lst (cutD xs l u)) O3 | none => False) → rSlL X.K v l u H3 Q := fun h => by
        cases e : lstOf O3 x with
        | none => simp only [e] at h
        | some xs =>
          simp only [e] at h
          obtain ⟨a, vs, rfl, hq, hv⟩ := go3.rel.lstOf vr3 e
          exact ⟨a, vs, rfl, hq, bk.lstF go3.rel (cut_vr hv) h⟩
      cases vr3 with
      | str z => exact .inr (.inr ⟨z, rfl, q3.1, bk.here go3.rel (.str _) q3.2⟩)
      | tup h1 h2 =>
        refine .inr (.inl ⟨_, _, rfl, Evl.ex_t go3.rel.g h1, fun hw => ?_, fun _ => bk.tup go3.rel (cut_vr h2) q3⟩)
        rename_i aa vs ds
        have q3' : R (.tup (cutD ds l u)) O3 := q3
        have hc : cutD ds l u = ds := by
          unfold cutD
          rw [← h2.length, hw.1, hw.2, List.drop_zero, Nat.sub_zero, h2.length, List.take_length]
        rw [hc] at q3'
        exact bk.here go3.rel (.tup h1 h2) q3'
      | _ => exact .inl (gen q3)⟩⟩⟩
theorem low_lcF {K : PySem.W.Frag} {it : DI} {u : DG} {tt : DT} {te : DE} {vs : List Nat} : ∀ s H Q, lowE K (dLcF it u tt te vs) s H Q → tLc (lowI K it) (lowGw K vs u) (lowT K tt) (lowE K te) vs s H Q := fun s H Q ⟨G, O, g, R, rl, gr, h, k⟩ => by
  refine ⟨G, O, g, _, rl, gr, h, fun xs ok O1 J G1 H1 go1 ir q1 => ?_⟩
  intro Dl hD
  obtain ⟨hO, hG⟩ := go1.rel.fresh hD
  have g0 : Go K G1 O1 H1 G1 (up O1 Dl (.lst [])) (upd H1 Dl (.lst [])) := Go.new go1.rel (o := .lst []) (u := .lst []) hD .nil
  have less : ∀ {O' : Om} {o : DO}, O' Dl = none → ∀ a w, O' a = some w → up O' Dl o a = some w := fun {O' o} n a w e => by rw [up_ne (fun z => by subst z; rw [n] at e; cases e)]; exact e
  refine ⟨fun i m H' => ∃ G' O' acc, Go K G1 O1 H1 G' (up O' Dl (.lst acc)) H' ∧ O' Dl = none ∧ dComp u tt te ok (wipeD g vs) (fun ys O2 => R (.lst ys) O2) (xs.drop i) acc O' ∧ m = xs.length - i ∧ i ≤ xs.length,
    ⟨_, G1, O1, [], g0, hO, q1, rfl, Nat.zero_le _⟩, ?_⟩
  rintro i m H2 ⟨G2, O2, acc, go2, nO2, q2, hm, hi⟩
  have r2 : Rel K G2 O2 H2 := go2.rel.less (less nO2)
  obtain ⟨nG2, uu, hh, qq⟩ := go2.rel.o Dl _ up_same
  cases e : xs.drop i with
  | nil =>
    rw [e] at q2
    have hl : xs.length = i := by
      have := congrArg List.length e
      rw [List.length_drop, List.length_nil] at this
      omega
    obtain ⟨G3, go3, vr3⟩ := Go.freeze go2.rel (a := Dl) (xs := acc) up_same
    rw [del_up nO2] at go3
    refine .inl ⟨?_, k _ _ _ _ _ ((go1.trans rl go2).trans rl go3) vr3 q2.2⟩
    rw [← hl]
    exact ir.stop G2 O2 H2 go2.ex r2 q2.1
  | cons x r =>
    rw [e] at q2
    obtain ⟨hx, hr⟩ := drop_cons e
    have hlt : i < xs.length := (List.getElem?_eq_some_iff.mp hx).1
    refine .inr ⟨ir.go i x G2 O2 H2 hx go2.ex r2 q2.1, fun H' => ∃ G' O' acc, Go K G1 O1 H1 G' (up O' Dl (.lst acc)) H' ∧ O' Dl = none ∧ dComp u tt te ok (wipeD g vs) (fun ys O2 => R (.lst ys) O2) r acc O', ?_, fun v H3 hy => ?_⟩
    · rintro H3 ⟨G3, O3, acc3, go3, n3, q3⟩
      exact ⟨xs.length - (i + 1), by omega, G3, O3, acc3, go3, n3, by rw [hr]; exact q3, rfl, hlt⟩
    · obtain ⟨G3, go3, vr3⟩ := ir.yld i x G2 O2 H2 v H3 hx go2.ex r2 q2.1 hy
      refine ⟨G3, O2, wipeD g vs, x, _, go3.rel, (gr.mono (go1.ex.trans (go2.ex.trans go3.ex))).wipe vs, vr3, q2.2, fun s4 g4 O4 G4 H4 go4 gr4 w4 q4 => ⟨w4.trans ?_, G4, O4, g4, _, go4.rel, gr4, q4, fun b O5 G5 H5 go5 q5 => ?_⟩⟩
      · have wipe2 : ∀ us : List Nat, (∀ a ∈ us, a ∈ vs) → L2.wipe (L2.wipe s us) vs = L2.wipe s vs := by
          intro us
          induction us with
          | nil => intro _; rfl
          | cons a us ih =>
            intro ha
            show L2.wipe ((L2.wipe s us).set a none) vs = _
            rw [wipe_set (ha a List.mem_cons_self)]
            exact ih fun b hb => ha b (List.mem_cons_of_mem _ hb)
        exact wipe2 vs fun _ z => z
      · have g25 : Go K G2 O2 H2 G5 O5 H5 := (go3.trans r2 go4).trans r2 go5
        cases b with
        | false =>
          obtain ⟨n5, h5, f5⟩ := g25.frame nO2 nG2 hh qq
          exact ⟨G5, O5, acc, go2.trans go1.rel f5, n5, q5⟩
        | true =>
          refine ⟨G5, O5, g4, _, go5.rel, gr4.mono go5.ex, q5, fun y O6 w G6 H6 go6 vr6 q6 => ?_⟩
          have g26 := g25.trans r2 go6
          obtain ⟨n6, h6, f6⟩ := g26.frame nO2 nG2 hh qq
          have g16 := go2.trans go1.rel f6
          obtain ⟨_, u6, h6', q6'⟩ := g16.rel.o Dl _ up_same
          cases u6 with
          | lst vacc =>
            have hv : VRs K G6 vacc acc := q6'
            have gw := Go.write g16.rel (a := Dl) (o := .lst (acc ++ [y])) (u := .lst (vacc ++ [w])) up_same (hv.append (.cons vr6 .nil))
            rw [up_up] at gw
            exact ⟨vacc, h6', by rw [hv.length]; exact q6.1, G6, O6, acc ++ [y], g16.trans go1.rel gw, n6, q6.2⟩
          | _ => exact False.elim q6'
variable {tg : Expr}
theorem e_lcF {elt iter : Expr} {ifs : List Expr} {scope : Scope} {own : List (Str × Nat)} {it : DI} {u : DG} {tt : DT} {te : DE} (hc : X.calm = true) (hN : X.N.Nodup) (hi : PI X tg iter (lowI X.K it)) (ok : BlkOk X.N X.env.scope scope own)
    (hg : ∀ (s : Shared) (H : Hp) (C : Addr) (cl : List (Str × Addr)) (fp : List Addr), PG (X.blk s H scope (compEnvC scope cl C X.env) fp) tg (lowGw X.K (own.map (·.2)) u)) (ht : ∀ (s : Shared) (H : Hp) (C : Addr) (cl : List (Str × Addr)) (fp : List Addr), PTs (X.blk s H scope (compEnvC scope cl C X.env) fp) ifs (lowT X.K tt))
    (he : ∀ (s : Shared) (H : Hp) (C : Addr) (cl : List (Str × Addr)) (fp : List Addr), PE (X.blk s H scope (compEnvC scope cl C X.env) fp) elt (lowE X.K te)) (hs : ∀ x, foldedSetIterable iter X.env x = pure x := by intro _; rfl) :
    PE X (.ListComp elt [⟨tg, iter, ifs, 0⟩] scope pos) (lowE X.K (dLcF it u tt te (own.map (·.2)))) := PE.by (pe_lc hc hN hi ok hg ht he hs) low_lcF
theorem s_setLcG {W : WX} {i : Nat} {y : Str} {py : Pos} {elt iter : Expr} {ifs : List Expr} {scope : Scope} {own : List (Str × Nat)} {spos : Pos} {it : DI} {u : DG} {tt : DT} {te : DE} (hc : X.calm = true) (hN : X.N.Nodup) (hy : X.N[i]? = some y) (hyl : X.env.scope.names.lookup y = some .local)
    (hsw : swapsWith (.ListComp elt [⟨tg, iter, ifs, 0⟩] scope pos) (some (.Name y py)) spos.line X.env = pure true) (hi : PI X tg iter (lowI X.K it)) (ok : BlkOk X.N X.env.scope scope own)
    (hg : ∀ (s : Shared) (H : Hp) (C : Addr) (cl : List (Str × Addr)) (fp : List Addr), PG (X.blk s H scope (compEnvC scope cl C X.env) fp) tg (lowGw X.K (own.map (·.2)) u)) (ht : ∀ (s : Shared) (H : Hp) (C : Addr) (cl : List (Str × Addr)) (fp : List Addr), PTs (X.blk s H scope (compEnvC scope cl C X.env) fp) ifs (lowT X.K tt))
    (he : ∀ (s : Shared) (H : Hp) (C : Addr) (cl : List (Str × Addr)) (fp : List Addr), PE (X.blk s H scope (compEnvC scope cl C X.env) fp) elt (lowE X.K te)) (hs : ∀ x, foldedSetIterable iter X.env x = pure x := by intro _; rfl) :
    PS X (.Assign [.Name y py] (.ListComp elt [⟨tg, iter, ifs, 0⟩] scope pos) spos) (lowS X.K W (dSet i (dLcF it u tt te (own.map (·.2))))) := PS.by (ps_setLc hc hN hy hyl hsw hi ok hg ht he hs) fun E s H ⟨G, O, g, F, rl, gr, h, k⟩ =>
  low_lcF s H _ ⟨G, O, g, _, rl, gr, h, fun x O1 v G1 H1 go1 vr1 q1 => k.nx _ _ _ _ _ go1 ((gr.mono go1.ex).set i vr1) q1⟩
/-! ### list(x), sorted, max, min as functions -/
def dListF : DC := fun xs O R => match xs with | [x] => (match seqOf O x with | some ys => R (.lst ys) O | none => False) | _ => False
theorem sListF : CaS K (fun xs H Q => ∃ p ys, xs = [.ref p] ∧ (SqL K H p ys ∨ SqT K H p ys) ∧ ∀ l, H l = none → Q (.ref l) (upd H l (.lst ys))) dListF := fun {G O H xs vs R Q} rl hv h k => by
  match xs, hv, h with
  | [x], hv, h =>
    obtain ⟨v, rfl, hw⟩ := hv.one
    have h : (match seqOf O x with | some ys => R (.lst ys) O | none => False) := h
    cases e : seqOf O x with
    | none => simp only [e] at h
    | some ys =>
      simp only [e] at h
      obtain ⟨a, vs, rfl, hq, hv2⟩ := rl.seqOf hw e
      exact ⟨a, vs, rfl, hq, k.lstF rl hv2 h⟩
def insI (x : Int) : List Int → List Int
  | [] => [x]
  | y :: r => if x ≤ y then x :: y :: r else y :: insI x r
def srtI : List Int → List Int
  | [] => []
  | x :: r => insI x (srtI r)
theorem insI_perm (x : Int) : ∀ r, (insI x r).Perm (x :: r)
  | [] => .refl _
  | y :: r => by
    unfold insI
    split
    · exact .refl _
    · exact ((insI_perm x r).cons y).trans (.swap x y r)
theorem srtI_perm : ∀ xs, (srtI xs).Perm xs
  | [] => .refl _
  | x :: r => (insI_perm x (srtI r)).trans ((srtI_perm r).cons x)
theorem insI_pw {x : Int} : ∀ {r : List Int}, r.Pairwise (· ≤ ·) → (insI x r).Pairwise (· ≤ ·)
  | [], _ => by simp [insI]
  | y :: r, h => by
    unfold insI
    rw [List.pairwise_cons] at h
    split
    · rename_i e
      rw [List.pairwise_cons, List.pairwise_cons]
      refine ⟨fun z hz => ?_, h.1, h.2⟩
      rcases List.mem_cons.mp hz with rfl | hz
      · exact e
      · have := h.1 z hz; omega
    · rename_i e
      rw [List.pairwise_cons]
      refine ⟨fun z hz => ?_, insI_pw h.2⟩
      rcases List.mem_cons.mp ((insI_perm x r).mem_iff.mp hz) with rfl | hz
      · omega
      · exact h.1 z hz
theorem srtI_pw : ∀ xs, (srtI xs).Pairwise (· ≤ ·)
  | [] => .nil
  | x :: r => insI_pw (srtI_pw r)
theorem pw_uniq : ∀ {xs ys : List Int}, xs.Pairwise (· ≤ ·) → ys.Pairwise (· ≤ ·) → xs.Perm ys → xs = ys
  | [], ys, _, _, h => h.nil_eq
  | x :: xs, [], _, _, h => by have := h.length_eq; simp at this
  | x :: xs, y :: ys, h1, h2, h => by
    rw [List.pairwise_cons] at h1 h2
    have a1 : x ∈ y :: ys := h.mem_iff.mp (by simp)
    have a2 : y ∈ x :: xs := h.mem_iff.mpr (by simp)
    have e : x = y := by
      rcases List.mem_cons.mp a1 with e | a1
      · exact e
      · rcases List.mem_cons.mp a2 with e | a2
        · exact e.symm
        · have := h1.1 _ a2; have := h2.1 _ a1; omega
    subst e
    rw [pw_uniq h1.2 h2.2 h.cons_inv]
theorem srtI_eq {xs ys : List Int} (h : ys.Perm xs) (p : ys.Pairwise (· ≤ ·)) : ys = srtI xs := pw_uniq p (srtI_pw xs) (h.trans (srtI_perm xs).symm)
def dSortedF : DC := fun xs O R => match xs with | [x] => (match lstOf O x with | some ys => (match intsOf ys with | some ns => R (.lst ((srtI ns).map D.int)) O | none => False) | none => False) | _ => False
theorem sSortedF : CaS K (rSortedI K) dSortedF := fun {G O H xs vs R Q} rl hv h k => by
  match xs, hv, h with
  | [x], hv, h =>
    obtain ⟨v, rfl, hw⟩ := hv.one
    have h : (match lstOf O x with | some ys => (match intsOf ys with | some ns => R (.lst ((srtI ns).map D.int)) O | none => False) | none => False) := h
    cases e : lstOf O x with
    | none => simp only [e] at h
    | some ys =>
      simp only [e] at h
      cases e2 : intsOf ys with
      | none => simp only [e2] at h
      | some ns =>
        simp only [e2] at h
        obtain ⟨a, rfl, hq⟩ := rl.ints hw e e2
        exact ⟨a, ns, rfl, hq, fun ms p h1 h2 hp => k.lstF rl (VRs.ofInts ms) (by rw [srtI_eq h1 h2]; exact h) p hp⟩
def dSortedDF : DC := fun xs O R => match xs with | [x] => (match dctOf O x with | some es => (match intKs es with | some ks => ks.length < 64 ∧ R (.lst ((srtI ks).map D.int)) O | none => False) | none => False) | _ => False
theorem sSortedDF : CaS K rSortDI dSortedDF := fun {G O H xs vs R Q} rl hv h k => by
  match xs, hv, h with
  | [x], hv, h =>
    obtain ⟨v, rfl, hw⟩ := hv.one
    have h : (match dctOf O x with | some es => (match intKs es with | some ks => ks.length < 64 ∧ R (.lst ((srtI ks).map D.int)) O | none => False) | none => False) := h
    cases e : dctOf O x with
    | none => simp only [e] at h
    | some es =>
      simp only [e] at h
      cases e2 : intKs es with
      | none => simp only [e2] at h
      | some ks =>
        simp only [e2] at h
        obtain ⟨a, kvs, rfl, h1, h2⟩ := rl.dct hw e
        exact ⟨a, kvs, ks, rfl, h1, by rw [h2.keys, intKs_eq e2], h.1, fun ms p q1 q2 hp => k.lstF rl (VRs.ofInts ms) (by rw [srtI_eq q1 q2]; exact h.2) p hp⟩
def mxI : List Int → Int
  | [] => 0
  | [x] => x
  | x :: r => max x (mxI r)
def mnI : List Int → Int
  | [] => 0
  | [x] => x
  | x :: r => min x (mnI r)
theorem mxI_cons {x : Int} {r : List Int} (h : r ≠ []) : mxI (x :: r) = max x (mxI r) := by cases r with | nil => exact absurd rfl h | cons y r => rfl
theorem mnI_cons {x : Int} {r : List Int} (h : r ≠ []) : mnI (x :: r) = min x (mnI r) := by cases r with | nil => exact absurd rfl h | cons y r => rfl
theorem le_mxI : ∀ {xs : List Int} {y : Int}, y ∈ xs → y ≤ mxI xs
  | [x], y, h => by rw [List.mem_singleton.mp h]; exact Int.le_refl _
  | x :: z :: r, y, h => by
    rw [mxI_cons (by simp)]
    rcases List.mem_cons.mp h with rfl | h
    · omega
    · have := le_mxI h; omega
theorem mxI_mem : ∀ {xs : List Int}, xs ≠ [] → mxI xs ∈ xs
  | [x], _ => by simp [mxI]
  | x :: z :: r, _ => by
    rw [mxI_cons (by simp)]
    have := mxI_mem (xs := z :: r) (by simp)
    rcases Int.le_total x (mxI (z :: r)) with h | h
    · rw [Int.max_eq_right h]; exact List.mem_cons_of_mem _ this
    · rw [Int.max_eq_left h]; simp
theorem mnI_le : ∀ {xs : List Int} {y : Int}, y ∈ xs → mnI xs ≤ y
  | [x], y, h => by rw [List.mem_singleton.mp h]; exact Int.le_refl _
  | x :: z :: r, y, h => by
    rw [mnI_cons (by simp)]
    rcases List.mem_cons.mp h with rfl | h
    · omega
    · have := mnI_le h; omega
theorem mnI_mem : ∀ {xs : List Int}, xs ≠ [] → mnI xs ∈ xs
  | [x], _ => by simp [mnI]
  | x :: z :: r, _ => by
    rw [mnI_cons (by simp)]
    have := mnI_mem (xs := z :: r) (by simp)
    rcases Int.le_total x (mnI (z :: r)) with h | h
    · rw [Int.min_eq_left h]; simp
    · rw [Int.min_eq_right h]; exact List.mem_cons_of_mem _ this
def dMaxF : DC := fun xs O R => match xs with | [.int i, .int j] => R (.int (max i j)) O | [x] => (match lstOf O x with | some ys => (match intsOf ys with | some ns => ns ≠ [] ∧ R (.int (mxI ns)) O | none => False) | none => False) | _ => False
def dMinF : DC := fun xs O R => match xs with | [.int i, .int j] => R (.int (min i j)) O | [x] => (match lstOf O x with | some ys => (match intsOf ys with | some ns => ns ≠ [] ∧ R (.int (mnI ns)) O | none => False) | none => False) | _ => False
theorem sMaxF : CaS K (rMaxA K) dMaxF := fun {G O H xs vs R Q} rl hv h k => by
  unfold dMaxF at h
  split at h
  · rename_i i j
    obtain ⟨u, w, rfl, hu, hw⟩ := hv.two
    cases hu; cases hw
    refine .inl ⟨i, j, rfl, k.here rl (.int _) ?_⟩
    have e : (if j > i then j else i) = max i j := by split <;> omega
    rw [e]; exact h
  · rename_i x
    obtain ⟨v, rfl, hw⟩ := hv.one
    cases e : lstOf O x with
    | none => simp only [e] at h
    | some ys =>
      simp only [e] at h
      cases e2 : intsOf ys with
      | none => simp only [e2] at h
      | some ns =>
        simp only [e2] at h
        obtain ⟨a, rfl, hq⟩ := rl.ints hw e e2
        refine .inr ⟨a, ns, rfl, hq, List.length_pos_iff.mpr h.1, fun m hm hy => k.here rl (.int _) ?_⟩
        have : m = mxI ns := by have := le_mxI hm; have := hy _ (mxI_mem h.1); omega
        rw [this]; exact h.2
  · exact h.elim
theorem sMinF : CaS K (rMinA K) dMinF := fun {G O H xs vs R Q} rl hv h k => by
  unfold dMinF at h
  split at h
  · rename_i i j
    obtain ⟨u, w, rfl, hu, hw⟩ := hv.two
    cases hu; cases hw
    refine .inl ⟨i, j, rfl, k.here rl (.int _) ?_⟩
    have e : (if j < i then j else i) = min i j := by split <;> omega
    rw [e]; exact h
  · rename_i x
    obtain ⟨v, rfl, hw⟩ := hv.one
    cases e : lstOf O x with
    | none => simp only [e] at h
    | some ys =>
      simp only [e] at h
      cases e2 : intsOf ys with
      | none => simp only [e2] at h
      | some ns =>
        simp only [e2] at h
        obtain ⟨a, rfl, hq⟩ := rl.ints hw e e2
        refine .inr ⟨a, ns, rfl, hq, List.length_pos_iff.mpr h.1, fun m hm hy => k.here rl (.int _) ?_⟩
        have : m = mnI ns := by have := mnI_le hm; have := hy _ (mnI_mem h.1); omega
        rw [this]; exact h.2
  · exact h.elim
end
end DL
set_option Elab.async false
set_option linter.all false
set_option maxRecDepth 100000
set_option maxHeartbeats 2000000
namespace DL
open PySem PySem.Spec PyProof.Rows L2
open Evl (Ex)
/-! ### dicts by tuples: rules of the layer below -/
section
variable {X : Cx} {pins : List (Addr × Obj)} {σ : L2.St} {H : Hp} {s : Shared} {a b : Addr} {v : V} {u r : Value} {A : Around} {E : Value → Shared → Prop}
theorem key_ofT (I : Inv X pins σ H s) {ks : List Key} (h : SqT X.K H a (ks.map kV)) : (tupleKind (mixKind X.prog X.w)).is s.heap ks a := by
  obtain ⟨its, r, ⟨o, h1, h2, n, h3⟩, _⟩ := I.tuple h
  exact ⟨o, its.toArray, n, h1, h2, h3, by simpa using items_are r⟩
theorem d_getItemT {kvs : List (List Key × V)} {k : List Key} {Q : Value → Shared → Prop} (hu : A.units + 1 < cLine) (I : Inv X pins σ H s) (e : Rd H a (.dT kvs)) (eb : SqT X.K H b (k.map kV)) (l : valV kvs k = some v) (h : ∀ w' s', Inv X pins σ H s' → RelV v w' → Q w' s') :
    wpAny (model X.prog X.w) A (getItem (.ref a) (.ref b)) Q E s := by
  obtain ⟨z, hd, xs, rel, dd⟩ := dt_rd I.hok e
  obtain ⟨w', hw, rw'⟩ := RelO.some_of (v := v) (o := (atKey xs k).map (·.2)) (by rw [← l]; exact rel.val k)
  obtain ⟨p, hp, hp2⟩ := Option.map_eq_some_iff.mp hw
  refine wpAny_getItem_heap (tupleKind_room_in1 hu) (key_ofT I eb) dd hp ?_
  rw [hp2]
  exact h w' _ (I.tok _) rw'
theorem d_inT {kvs : List (List Key × V)} {k : List Key} {Q : Value → Shared → Prop} (hu : A.units + 1 < cLine) (I : Inv X pins σ H s) (e : Rd H a (.dT kvs)) (eb : SqT X.K H b (k.map kV)) (h : ∀ s', Inv X pins σ H s' → Q (.bool (valV kvs k).isSome) s') :
    wpAny (model X.prog X.w) A (compareOp .In (.ref b) (.ref a)) Q E s := by
  obtain ⟨z, hd, xs, rel, dd⟩ := dt_rd I.hok e
  refine wpAny_in_heap (tupleKind_room_in1 hu) (key_ofT I eb) hd dd ?_
  have q := (rel.val k).isSome_eq
  rw [Option.isSome_map] at q
  rw [← q]
  exact h _ (I.tok _)
end
def tDGetT (K : PySem.W.Frag) (td ty : TE) : TE := fun σ H Q => td σ H fun x H1 => ty σ H1 fun y H2 => ∃ a b kvs k v, x = .ref a ∧ y = .ref b ∧ Rd H2 a (.dT kvs) ∧ SqT K H2 b (k.map kV) ∧ valV kvs k = some v ∧ Q v H2
theorem dictT_typeIs {X : Cx} {pins : List (Addr × Obj)} {σ : L2.St} {H : Hp} {s : Shared} {a : Addr} {kvs : List (List Key × V)} (I : Inv X pins σ H s) (e : Rd H a (.dT kvs)) : s.TypeIs (.ref a) "dict" := (isD_at I (.inr ⟨kvs, e⟩)).1
section
variable {X : Cx} {o i : Expr} {pos : Pos} {td ty tx : TE}
theorem pe_dgetT (hu : X.A.units + 1 < cLine) (ho : PE X o td) (hi : PE X i ty) (hs : NoSl i) : PE X (.Subscript o i pos) (tDGetT X.K td ty) := by
  refine ⟨fun pins s σ H Q I h => ?_⟩
  refine subD_of PySem.F.slot_dict_getitem.lookup hs (thn (ho.run pins s σ H _ I h) fun u s1 ⟨x, H1, I1, rx, q1⟩ => thn (hi.run pins s1 σ H1 _ I1 q1) fun iv s2 ⟨y, H2, I2, ry, a, b, kvs, k, v, ex, ey, e, eb, l, q2⟩ => ?_)
  subst ex ey
  obtain rfl : u = Value.ref a := rx
  obtain rfl : iv = Value.ref b := ry
  exact ⟨dictT_typeIs I2 e, d_getItemT hu I2 e eb l fun w' s3 I3 rw' => ⟨v, H2, I3, rw', q2⟩⟩
end
/-! ### D -/
def keysOf : List D → Option (List Key)
  | [] => some []
  | x :: r => match DL.keyOf x, keysOf r with | some k, some ks => some (k :: ks) | _, _ => none
def tkOf : D → Option (List Key)
  | .tup xs => keysOf xs
  | .ptup xs => keysOf xs
  | _ => none
def dctT (O : Om) : D → Option (List (List Key × D))
  | .ref a => (match O a with | some (.dT es) => some es | _ => none)
  | _ => none
section
variable {K : PySem.W.Frag} {G : Hp} {O : Om} {H : Hp}
theorem keysOf_vr : ∀ {vs : List V} {xs : List D} {k : List Key}, VRs K G vs xs → keysOf xs = some k → vs = k.map kV
  | _, _, k, .nil, e => by cases e; rfl
  | _, _, k, .cons (d := d) (ds := ds) h r, e => by
    unfold keysOf at e
    cases e1 : DL.keyOf d with
    | none => simp only [e1] at e; cases e
    | some k1 =>
      cases e2 : keysOf ds with
      | none => simp only [e1, e2] at e; cases e
      | some ks =>
        simp only [e1, e2] at e
        cases e
        rw [keysOf_vr r e2, keyOf_vr h e1]
        rfl
theorem tk_vr {v : V} {y : D} {k : List Key} (rl : Rel K G O H) (h : VR K G v y) (e : tkOf y = some k) : ∃ b, v = .ref b ∧ SqT K H b (k.map kV) := by
  cases h <;> first | (cases e; done) | skip
  · rename_i a vs ds h1 h2
    have := keysOf_vr h2 e
    subst this
    exact ⟨a, rfl, Evl.ex_t rl.g h1⟩
  · rename_i a vs ds h1 h2
    have := keysOf_vr h2 e
    subst this
    exact ⟨a, rfl, SqT.of (rl.g _ _ h1)⟩
theorem Rel.dT (r : Rel K G O H) {a : Addr} {es : List (List Key × D)} (h : O a = some (.dT es)) : ∃ kvs, H a = some (.dT kvs) ∧ PR K G kvs es := by
  obtain ⟨_, u, hu, q⟩ := r.o a _ h
  cases u <;> first | exact q.elim | exact ⟨_, hu, q⟩
theorem Rel.dctT (r : Rel K G O H) {v : V} {x : D} {es : List (List Key × D)} (hv : VR K G v x) (h : DL.dctT O x = some es) : ∃ a kvs, v = .ref a ∧ x = .ref a ∧ O a = some (.dT es) ∧ H a = some (.dT kvs) ∧ PR K G kvs es := by
  cases hv with
  | ref a =>
    unfold DL.dctT at h
    cases e : O a with
    | none => simp only [e] at h; cases h
    | some o =>
      cases o <;> simp only [e] at h <;> cases h
      obtain ⟨kvs, h1, h2⟩ := r.dT e
      exact ⟨a, kvs, rfl, rfl, e, h1, h2⟩
  | _ => cases h
end
def dNewT : DE := fun _ O R => ∀ p, O p = none → R (.ref p) (up O p (.dT []))
def dGetT : D2 := fun x y O R => match dctT O x with | some es => (match tkOf y with | some k => (match valD es k with | some v => R v O | none => False) | none => False) | none => False
def dHasT (f : Bool → Bool) : D2 := fun y x O R => match dctT O x with | some es => (match tkOf y with | some k => R (.bl (f (valD es k).isSome)) O | none => False) | none => False
def dTupP (t : DA) : DE := fun g O R => t g O fun xs O1 => R (.ptup xs) O1
def putTk (x : D) (O : Om) (k : Option (List Key)) (z : D) (N : Om → Prop) : Prop := match x with
  | .ref a => (match O a with | some (.dT es) => (match k with | some k => es.length < sizeLine ∧ N (up O a (.dT (putD es k z))) | none => False) | _ => False)
  | _ => False
theorem putTk_of {x : D} {O : Om} {k : Option (List Key)} {z : D} {N : Om → Prop} (h : putTk x O k z N) : ∃ a es kk, x = .ref a ∧ O a = some (.dT es) ∧ k = some kk ∧ es.length < sizeLine ∧ N (up O a (.dT (putD es kk z))) := by
  unfold putTk at h
  split at h
  · rename_i a
    split at h
    · rename_i es e
      split at h
      · rename_i kk
        exact ⟨a, es, kk, rfl, e, rfl, h.1, h.2⟩
      · exact h.elim
    · exact h.elim
  · exact h.elim
def pkOf : D → Option (List Key)
  | .ptup xs => keysOf xs
  | _ => none
/-- d[(e, ..)] = v -/
def dPutT (td : DE) (tA : DA) (tv : DE) : DS := fun F g O => tv g O fun v O1 => td g O1 fun x O2 => tA g O2 fun ys O3 => putTk x O3 (keysOf ys) v (F.nx g)
/-- d[name] = v, name a new tuple -/
def dPutP (td ty tv : DE) : DS := fun F g O => tv g O fun v O1 => td g O1 fun x O2 => ty g O2 fun y O3 => putTk x O3 (pkOf y) v (F.nx g)
section
variable {X : Cx} {K : PySem.W.Frag} {a b c : Expr} {ta tb tc : DE} {pos : Pos} {es : List Expr} {tA : DA} {n : Nat}
theorem e_dnewT : PE X (.Dict [] [] pos) (lowE X.K dNewT) := PE.by pe_dnewT fun s H Q ⟨G, O, g, R, rl, gr, h, k⟩ => fun p hp =>
  k _ _ _ _ _ (Go.new rl (o := .dT []) (u := .dT []) hp .nil) (.ref p) (h p (rl.fresh hp).1)
theorem e_dgetT {k : Nat} (hr : Room k X.A) (ha : PE X a (lowE X.K ta)) (hb : PE X b (lowE X.K tb)) (hs : NoSl b := by exact fun _ _ => rfl) : PE X (.Subscript a b pos) (lowE X.K (dOp dGetT ta tb)) :=
  PE.by (pe_dgetT (by have := hr.un; omega) ha hb hs) fun s H Q ⟨G, O, g, R, rl, gr, h, k⟩ =>
    ⟨G, O, g, _, rl, gr, h, fun x O1 v G1 H1 go1 vr1 q1 => ⟨G1, O1, g, _, go1.rel, gr.mono go1.ex, q1, fun y O2 u G2 H2 go2 vr2 q2 => by
      have q2 : (match dctT O2 x with | some es => (match tkOf y with | some k => (match valD es k with | some v => R v O2 | none => False) | none => False) | none => False) := q2
      cases e : dctT O2 x with
      | none => simp only [e] at q2
      | some es =>
        simp only [e] at q2
        cases ek : tkOf y with
        | none => simp only [ek] at q2
        | some kk =>
          simp only [ek] at q2
          obtain ⟨a, kvs, rfl, _, _, h1, h2⟩ := go2.rel.dctT (vr1.mono go2.ex) e
          obtain ⟨b, rfl, hb⟩ := tk_vr go2.rel vr2 ek
          rcases h2.val kk with ⟨_, z⟩ | ⟨w, d, z1, z2, z3⟩
          · simp only [z] at q2
          · simp only [z2] at q2
            exact ⟨a, b, kvs, kk, w, rfl, rfl, .inl h1, hb, z1, k _ _ _ _ _ (go1.trans rl go2) z3 q2⟩⟩⟩
theorem c_inT {k : Nat} (hr : Room k X.A) (ha : PE X a (lowE X.K ta)) (hb : PE X b (lowE X.K tb)) : PC X .In a b (lowE X.K (dOp (dHasT fun b => b) ta tb)) := by
  refine ⟨fun pins s σ H Q I q => ?_⟩
  obtain ⟨G, O, g, R, rl, gr, h, k⟩ := q
  refine thn (ha.run pins s σ H _ I ⟨G, O, g, _, rl, gr, h, fun x O1 v G1 H1 go1 vr1 q1 => (show lowE X.K tb σ H1 (fun u H2 => ∃ a b kvs k, u = .ref a ∧ v = .ref b ∧ Rd H2 a (.dT kvs) ∧ SqT X.K H2 b (k.map kV) ∧ Q (.bl (valV kvs k).isSome) H2) from ⟨G1, O1, g, _, go1.rel, gr.mono go1.ex, q1, fun y O2 u G2 H2 go2 vr2 q2 => ?_⟩)⟩) fun iv s1 ⟨y, H1, I1, ry, q1⟩ => thn (hb.run pins s1 σ H1 _ I1 q1) fun u s2 ⟨x, H2, I2, rx, a, b, kvs, k, ex, ey, e, eb, q2⟩ => ?_
  · have q2 : (match dctT O2 y with | some es => (match tkOf x with | some k => R (.bl (valD es k).isSome) O2 | none => False) | none => False) := q2
    cases e : dctT O2 y with
    | none => simp only [e] at q2
    | some es =>
      simp only [e] at q2
      cases ek : tkOf x with
      | none => simp only [ek] at q2
      | some kk =>
        simp only [ek] at q2
        obtain ⟨a, kvs, rfl, _, _, h1, h2⟩ := go2.rel.dctT vr2 e
        obtain ⟨b, rfl, hb⟩ := tk_vr go2.rel (vr1.mono go2.ex) ek
        refine ⟨a, b, kvs, kk, rfl, rfl, .inl h1, hb, k _ _ _ _ _ (go1.trans rl go2) (.bl _) ?_⟩
        rcases h2.val kk with ⟨z0, z⟩ | ⟨w, d, z1, z2, z3⟩
        · rw [z0]; rw [z] at q2; exact q2
        · rw [z1]; rw [z2] at q2; exact q2
  · subst ex ey
    obtain rfl : u = Value.ref a := rx
    obtain rfl : iv = Value.ref b := ry
    exact d_inT (by have := hr.un; omega) I2 e eb fun s3 I3 => ⟨.bl _, H2, I3, rfl, q2⟩
theorem e_tupP {x1} (h : PA X es (lowA X.K n tA)) (hn : n ≤ 1000 := by decide) : PE X (.Tuple es x1 pos) (lowE X.K (dTupP tA)) := PE.by (pe_tup h) fun s H Q ⟨G, O, g, R, rl, gr, h, k⟩ =>
  ⟨G, O, g, _, rl, gr, h, fun xs O1 vs G1 H1 go1 vr1 hl q1 => ⟨by rw [vr1.length, hl]; exact Nat.le_trans hn (by decide), fun p hp => by
    have gd := Go.data go1.rel (u := .tup vs) hp
    exact k _ _ _ _ _ (go1.trans rl gd) (.ptup upd_same (vr1.mono gd.ex)) q1⟩⟩
theorem s_dputT {W : WX} {k : Nat} {pos' tp : Pos} {x1} (hr : Room k X.A) (ho : PE X a (lowE X.K ta)) (hi : PA X es (lowA X.K n tA)) (hv : PE X c (lowE X.K tc)) (hs : swapsWith c (some (.Subscript a (.Tuple es x1 tp) pos')) pos.line X.env = pure false := by rfl) (hn : n ≤ 1000 := by decide) :
    PS X (.Assign [.Subscript a (.Tuple es x1 tp) pos'] c pos) (lowS X.K W (dPutT ta tA tc)) :=
  PS.by (ps_dput (by have := hr.un; omega) ho (pe_tup hi) hv hs) fun E s H ⟨G, O, g, F, rl, gr, h, k⟩ =>
    ⟨G, O, g, _, rl, gr, h, fun z O1 w G1 H1 go1 vr1 q1 => ⟨G1, O1, g, _, go1.rel, gr.mono go1.ex, q1, fun x O2 v G2 H2 go2 vr2 q2 => ⟨G2, O2, g, _, go2.rel, (gr.mono go1.ex).mono go2.ex, q2, fun ys O3 us G3 H3 go3 vr3 hl q3 => ⟨by rw [vr3.length, hl]; exact Nat.le_trans hn (by decide), fun p hp => by
      have g13 := (go1.trans rl go2).trans rl go3
      obtain ⟨a, es, kk, rfl, hO, ek, hsz, hnx⟩ := putTk_of q3
      cases vr2
      obtain ⟨kvs, h1, h2⟩ := go3.rel.dT hO
      have hk := keysOf_vr vr3 ek
      subst hk
      have gd := Go.data go3.rel (u := .tup (kk.map kV)) hp
      have hap : a ≠ p := fun zz => by subst zz; rw [hp] at h1; cases h1
      have hz := ((vr1.mono go2.ex).mono go3.ex).mono gd.ex
      have gw := Go.write gd.rel (a := a) (o := .dT (putD es kk z)) (u := .dT (putK kvs kk w)) hO ((PR.mono gd.ex h2).put kk hz)
      exact ⟨a, _, rfl, .inr ⟨kvs, kk, p, by rw [upd_ne hap]; exact h1, rfl, upd_same, by rw [h2.len]; exact hsz, rfl⟩, k.nx _ _ _ _ _ ((g13.trans rl gd).trans rl gw) (((gr.mono g13.ex).mono gd.ex).mono gw.ex) hnx⟩⟩⟩⟩⟩
theorem s_dputP {W : WX} {k : Nat} {pos' : Pos} (hr : Room k X.A) (ho : PE X a (lowE X.K ta)) (hi : PE X b (lowE X.K tb)) (hv : PE X c (lowE X.K tc)) (hs : swapsWith c (some (.Subscript a b pos')) pos.line X.env = pure false := by rfl) :
    PS X (.Assign [.Subscript a b pos'] c pos) (lowS X.K W (dPutP ta tb tc)) :=
  PS.by (ps_dput (by have := hr.un; omega) ho hi hv hs) fun E s H ⟨G, O, g, F, rl, gr, h, k⟩ =>
    ⟨G, O, g, _, rl, gr, h, fun z O1 w G1 H1 go1 vr1 q1 => ⟨G1, O1, g, _, go1.rel, gr.mono go1.ex, q1, fun x O2 v G2 H2 go2 vr2 q2 => ⟨G2, O2, g, _, go2.rel, (gr.mono go1.ex).mono go2.ex, q2, fun y O3 us G3 H3 go3 vr3 q3 => by
      have g13 := (go1.trans rl go2).trans rl go3
      obtain ⟨a, es, kk, rfl, hO, ek, hsz, hnx⟩ := putTk_of q3
      cases vr2
      obtain ⟨kvs, h1, h2⟩ := go3.rel.dT hO
      cases vr3 with
      | ptup h3 h4 =>
        have hk := keysOf_vr h4 ek
        subst hk
        have hz := (vr1.mono go2.ex).mono go3.ex
        have gw := Go.write go3.rel (a := a) (o := .dT (putD es kk z)) (u := .dT (putK kvs kk w)) hO (h2.put kk hz)
        exact ⟨a, _, rfl, .inr ⟨kvs, kk, _, h1, rfl, go3.rel.g _ _ h3, by rw [h2.len]; exact hsz, rfl⟩, k.nx _ _ _ _ _ (g13.trans rl gw) ((gr.mono g13.ex).mono gw.ex) hnx⟩
      | _ => cases ek⟩⟩⟩
end
end DL
set_option Elab.async false
set_option linter.all false
set_option maxRecDepth 100000
set_option maxHeartbeats 2000000
namespace DL
open PySem PySem.Spec PyProof.Rows L2
open Evl (Ex)
/-! ### sorted(d), its keys pairs of numbers -/
def pk (p : Int × Int) : List Key := [.inl p.1, .inl p.2]
section
variable {X : Cx}
theorem call_sortedT (hcalm : X.calm = true) : CallR X (.builtin "sorted") (fun xs H Q => ∃ (a : Addr) (kvs : List (List Key × V)) (ks : List (Int × Int)), xs = [.ref a] ∧ Rd H a (.dT kvs) ∧ kvs.map (·.1) = ks.map pk ∧
    ∀ (ys : List (Addr × (Int × Int))) (p : Addr), (ys.map (·.2)).Perm ks → (∀ y ∈ ys, H y.1 = some (.tup [.int y.2.1, .int y.2.2])) → (ys.map (·.2)).Pairwise (fun x y => SrtO.lexB y x = false) → H p = none → Q (.ref p) (upd H p (.lst (ys.map fun y => V.ref y.1)))) := by
  intro pins s σ H xs us Q I r q
  obtain ⟨a, kvs, ks0, ex, hd, hks, q⟩ := q
  subst ex
  obtain ⟨u, eu, rx⟩ := vals1 r
  subst eu
  cases rx
  obtain ⟨z, hs, ks, pr, o, es, ep, ho, hx, hdt, he, hn⟩ := (show ObjOk X.prog X.w H s.heap a (.dT kvs) from hd.ok I.hok)
  have l1 : es.size = ks.length := size_of_entries he
  have l2 : kvs.length = ks.length := Paired.length pr
  refine Calls.call_function_entry PyProof.Rows.kind_sorted PyProof.Rows.plain_sorted PyProof.Rows.entry_sorted (PyProof.Rows.args_sorted1 _) ?_
  unfold Builtin.«sorted»
  refine wpAny_bind (m := checkCount "sorted" 1 1 _) (wpAny_pure ?_)
  refine wpAny_bind (PySem.W.kdu_collect (A := X.A.in1) (kdl_raw hs hx hdt) (I.ok.hd hcalm) ho (by omega) fun h' tk acc' kp it => ?_)
  have ea : acc'.toList = ks.map fun x => Value.ref x.2.1 := by
    have hl : acc'.toList.length = ks.length := by rw [Array.length_toList, it.1]; exact l1
    apply List.ext_getElem?
    intro j
    rw [List.getElem?_map]
    cases hj : acc'.toList[j]? with
    | none =>
      have h1 := List.getElem?_eq_none_iff.mp hj
      rw [List.getElem?_eq_none (by omega)]
      all_goals rfl
    | some v =>
      obtain ⟨en, hen, hv⟩ := it.2 j v (by rw [← Array.getElem?_toList]; exact hj)
      have qe := entry_at he j
      rw [hen] at qe
      cases hb : ks[j]? with
      | none =>
        rw [hb] at qe
        exact nomatch (show some en = none from qe)
      | some b =>
        rw [hb] at qe
        have e2 : en = entryOfKey (tupleKind (mixKind X.prog X.w)) b := Option.some.inj qe
        rw [hv, e2]
        all_goals rfl
  have I1 : Inv X pins σ H { s with heap := h', toks := tk } := I.kept kp
  have hz : acc'.toList.length ≤ sizeLine := by rw [ea, List.length_map]; omega
  -- the pair of each key
  have hk1 : ∀ x ∈ ks, H x.2.1 = some (.tup (x.1.map kV)) := by
    have : ∀ {l : List (List Key × V)} {m : List (List Key × Addr × Value)}, KT H l m → ∀ x ∈ m, H x.2.1 = some (.tup (x.1.map kV)) := by
      intro l m qq
      induction qq with
      | nil => intro x hx; exact nomatch hx
      | @cons p qv ps qs hq t ih =>
        intro x hx
        rcases List.mem_cons.mp hx with e | hx
        · rw [e]; rw [← hq.1]; exact hq.2.1
        · exact ih x hx
    exact this pr
  have hkeys : ks.map (·.1) = ks0.map pk := by
    rw [← hks]
    have : ∀ {l : List (List Key × V)} {m : List (List Key × Addr × Value)}, KT H l m → m.map (·.1) = l.map (·.1) := by
      intro l m qq
      induction qq with
      | nil => rfl
      | @cons p qv ps qs hq t ih => rw [List.map_cons, List.map_cons, ih, hq.1]
    exact this pr
  -- which pair stands at an address
  have key : ∃ kf : Value → Int × Int, ∀ x ∈ ks, x.1 = pk (kf (.ref x.2.1)) := by
    refine ⟨fun u => match u with | .ref b => (match H b with | some (.tup [.int i, .int j]) => (i, j) | _ => (0, 0)) | _ => (0, 0), fun x hx => ?_⟩
    have h1 := hk1 x hx
    obtain ⟨p, hp⟩ : ∃ p : Int × Int, x.1 = pk p := by
      have : x.1 ∈ ks.map (·.1) := List.mem_map.mpr ⟨x, hx, rfl⟩
      rw [hkeys] at this
      obtain ⟨p, _, e⟩ := List.mem_map.mp this
      exact ⟨p, e.symm⟩
    rw [hp] at h1
    have h1 : H x.2.1 = some (.tup [.int p.1, .int p.2]) := h1
    simp only [h1]
    exact hp
  obtain ⟨kf, hkf⟩ := key
  refine wpAny_bind (wpAny_newList ?_ hz)
  have hoL : (h'.push (seqObj "list" acc'.toList.toArray 0)).get? h'.objs.size = some (seqObj "list" acc'.toList.toArray 0) := Heap.get?_push_size _ rfl
  show wpAny _ _ _ _ _ { s with heap := h'.push (seqObj "list" acc'.toList.toArray 0), toks := tk }
  refine wpAny_bind (wpAny_holding (wpAny_call_entry PyProof.Rows.slot_list_sort ⟨_, hoL, rfl⟩ PyProof.Rows.entry_list_sort
    (SrtO.list_sort_ord (s := { s with heap := h'.push (seqObj "list" acc'.toList.toArray 0), toks := tk }) (SrtO.swo_lex kf) hoL hz (fun h2 => ?_) fun out hso hst => ⟨_, rfl, ?_⟩) (PyProof.Rows.args_list_sort _)))
  · refine SrtO.pairs_sortableO (s := { s with heap := h'.push (seqObj "list" acc'.toList.toArray 0), toks := tk }) (by omega) (fun v hm => ?_) fun o e => ?_
    · rw [ea] at hm
      obtain ⟨x, hx, rfl⟩ := List.mem_map.mp hm
      have h1 := hk1 x hx
      have h3 := hkf x hx
      rw [h3] at h1
      have h1 : H x.2.1 = some (.tup [.int (kf (.ref x.2.1)).1, .int (kf (.ref x.2.1)).2]) := h1
      obtain ⟨_, its2, r2, o, ho, hc, n, hd⟩ := I1.hok _ _ h1
      obtain ⟨u1, u2, rfl, ri, rj⟩ := vals2 r2
      obtain ⟨t1, rfl⟩ := ri
      obtain ⟨t2, rfl⟩ := rj
      exact ⟨x.2.1, o, t1, t2, n, rfl, Heap.get?_push_of_some _ ho, hc, hd⟩
    · have e' : some o = some (seqObj "list" acc'.toList.toArray 0) := e.symm.trans hoL
      cases e'
      intro c
      exact absurd (Value.type.inj c) (by decide)
  · obtain ⟨e', he'⟩ := PyProof.Rows.sortedHeap_at (vs := acc'.toList) (out := out.toArray) hoL
    have hmem : ∀ u ∈ out, ∃ x ∈ ks, u = Value.ref x.2.1 := fun u hu => by
      have := hst.perm.mem_iff.mp hu
      rw [ea] at this
      obtain ⟨x, hx, e⟩ := List.mem_map.mp this
      exact ⟨x, hx, e.symm⟩
    have hback : ∃ ys : List (Addr × (Int × Int)), out = (ys.map fun y => Value.ref y.1) ∧ ∀ y ∈ ys, y.2 = kf (.ref y.1) ∧ ∃ x ∈ ks, x.2.1 = y.1 := by
      clear hso hst he' 
      induction out with
      | nil => exact ⟨[], rfl, fun y hy => nomatch hy⟩
      | cons u r ih =>
        obtain ⟨x, hx, rfl⟩ := hmem _ (List.mem_cons_self ..)
        obtain ⟨ys, e1, e2⟩ := ih (fun u hu => hmem u (List.mem_cons_of_mem _ hu))
        refine ⟨(x.2.1, kf (.ref x.2.1)) :: ys, by rw [e1]; rfl, fun y hy => ?_⟩
        rcases List.mem_cons.mp hy with e | hy
        · rw [e]; exact ⟨rfl, x, hx, rfl⟩
        · exact e2 y hy
    obtain ⟨ys, e1, e2⟩ := hback
    have hy2 : ys.map (·.2) = out.map kf := by
      rw [e1, List.map_map]
      exact List.map_congr_left fun y hy => (e2 y hy).1
    have hperm : (ys.map (·.2)).Perm ks0 := by
      have h1 : (out.map kf).Perm (acc'.toList.map kf) := hst.perm.map kf
      rw [hy2]
      refine h1.trans ?_
      have h2 : acc'.toList.map kf = ks0 := by
        rw [ea, List.map_map]
        have h3 : (ks.map (kf ∘ fun x => Value.ref x.2.1)).map pk = ks0.map pk := by
          rw [List.map_map, ← hkeys]
          exact List.map_congr_left fun x hx => (hkf x hx).symm
        have inj : ∀ {l m : List (Int × Int)}, l.map pk = m.map pk → l = m := by
          intro l
          induction l with
          | nil => intro m e; cases m with | nil => rfl | cons _ _ => cases e
          | cons p l ih =>
            intro m e
            cases m with
            | nil => cases e
            | cons p' m =>
              rw [List.map_cons, List.map_cons, List.cons.injEq] at e
              have : p = p' := by
                have := e.1
                unfold pk at this
                injection this with a1 a2
                injection a2 with a2 _
                injection a1 with a1
                injection a2 with a2
                exact Prod.ext a1 a2
              rw [this, ih e.2]
        exact inj h3
      rw [h2]
    have hH : ∀ y ∈ ys, H y.1 = some (.tup [.int y.2.1, .int y.2.2]) := fun y hy => by
      obtain ⟨h1, x, hx, h2⟩ := e2 y hy
      have h3 := hk1 x hx
      rw [hkf x hx, h2, ← h1] at h3
      exact h3
    have hpw : (ys.map (·.2)).Pairwise (fun x y => SrtO.lexB y x = false) := by
      rw [hy2, List.pairwise_map]
      exact hso
    have hlen : (ys.map fun y => V.ref y.1).length ≤ sizeLine := by
      rw [List.length_map, ← List.length_map (f := (·.2)), hperm.length_eq]
      have := congrArg List.length hks
      rw [List.length_map, List.length_map] at this
      omega
    have hv : Vals (ys.map fun y => V.ref y.1) out := by
      rw [e1]
      have := vals_refs (ys.map (·.1))
      rw [List.map_map, List.map_map] at this
      exact this
    refine wpAny_pure ⟨_, rfl, .ref h'.objs.size, upd H h'.objs.size (.lst (ys.map fun y => V.ref y.1)), I1.laid (t' := tk) (fun b u e => ?_) (Nat.le_refl _)
      (show ObjOk X.prog X.w _ _ _ (.lst (ys.map fun y => V.ref y.1)) from ⟨hlen, out, e', hv, he'⟩), rfl, q ys _ hperm hH hpw (I1.hok.fresh (Nat.le_refl _))⟩
    have hb : b < h'.objs.size := Heap.lt_size e
    rw [PyProof.Rows.sortedHeap_old (Nat.ne_of_lt hb) (by rw [size_push']; exact Nat.lt_succ_of_lt hb)]
    exact Heap.get?_push_of_some _ e
end

/-! ### a tuple that stands becomes data -/
section
variable {K : PySem.W.Frag} {G : Hp} {O : Om} {H : Hp}
theorem Go.adopt (rl : Rel K G O H) {a : Addr} {vs : List V} {ds : List D} (h : H a = some (.tup vs)) (hv : VRs K G vs ds) : ∃ G', Go K G O H G' O H ∧ VR K G' (.ref a) (.tup ds) := by
  have hO : O a = none := by
    cases e : O a with
    | none => rfl
    | some o =>
      obtain ⟨_, u, hu, q⟩ := rl.o a o e
      rw [h] at hu
      cases hu
      exact q.noTup.elim
  cases e : G a with
  | some u =>
    have := rl.g a u e
    rw [h] at this
    cases this
    exact ⟨G, Go.refl rl, .tup (SqT.of e) hv⟩
  | none =>
    have ex : Ex G (upd G a (.tup vs)) := Ex.new e
    refine ⟨upd G a (.tup vs), ⟨⟨fun b o eb => ?_, fun b o eb => ?_⟩, ex, fun b o _ z => z, fun b o z => .inl ⟨o, z⟩, fun b o z => ?_⟩, .tup (SqT.of upd_same) (hv.mono ex)⟩
    · by_cases hb : b = a
      · subst hb; rw [upd_same] at eb; cases eb; exact h
      · rw [upd_ne hb] at eb; exact rl.g b o eb
    · have hb : b ≠ a := fun z => by subst z; rw [hO] at eb; cases eb
      obtain ⟨z1, u, z2, z3⟩ := rl.o b o eb
      exact ⟨by rw [upd_ne hb]; exact z1, u, z2, z3.mono ex⟩
    · by_cases hb : b = a
      · subst hb; exact .inr (.inr (.inr ⟨vs, h⟩))
      · rw [upd_ne hb] at z; exact .inr (.inl ⟨o, z⟩)
def pD2 (p : Int × Int) : D := .tup [.int p.1, .int p.2]
theorem Go.adopts : ∀ (ys : List (Addr × (Int × Int))) {G : Hp}, Rel K G O H → (∀ y ∈ ys, H y.1 = some (.tup [.int y.2.1, .int y.2.2])) → ∃ G', Go K G O H G' O H ∧ VRs K G' (ys.map fun y => V.ref y.1) (ys.map fun y => pD2 y.2)
  | [], G, rl, _ => ⟨G, Go.refl rl, .nil⟩
  | y :: ys, G, rl, h => by
    obtain ⟨G1, go1, vr1⟩ := Go.adopt rl (h y (by simp)) (ds := [.int y.2.1, .int y.2.2]) (.cons (.int _) (.cons (.int _) .nil))
    obtain ⟨G2, go2, vr2⟩ := Go.adopts ys go1.rel (fun z hz => h z (by simp [hz]))
    exact ⟨G2, go1.trans rl go2, .cons (vr1.mono go2.ex) vr2⟩
end
/-! ### pairs in their order -/
def leP (p q : Int × Int) : Bool := !SrtO.lexB q p
theorem leP_iff {p q : Int × Int} : leP p q = true ↔ p.1 < q.1 ∨ (p.1 = q.1 ∧ p.2 ≤ q.2) := by
  unfold leP
  rw [Bool.not_eq_true', SrtO.lexB_no]
  omega
def insP (x : Int × Int) : List (Int × Int) → List (Int × Int)
  | [] => [x]
  | y :: r => if leP x y = true then x :: y :: r else y :: insP x r
def srtP : List (Int × Int) → List (Int × Int)
  | [] => []
  | x :: r => insP x (srtP r)
theorem insP_perm (x : Int × Int) : ∀ r, (insP x r).Perm (x :: r)
  | [] => .refl _
  | y :: r => by
    unfold insP
    split
    · exact .refl _
    · exact ((insP_perm x r).cons y).trans (.swap x y r)
theorem srtP_perm : ∀ xs, (srtP xs).Perm xs
  | [] => .refl _
  | x :: r => (insP_perm x (srtP r)).trans ((srtP_perm r).cons x)
theorem leP_trans {x y z : Int × Int} (h : leP x y = true) (k : leP y z = true) : leP x z = true := by
  rw [leP_iff] at *
  omega
theorem leP_total {x y : Int × Int} (h : ¬ leP x y = true) : leP y x = true := by
  rw [leP_iff] at *
  omega
theorem leP_anti {x y : Int × Int} (h : leP x y = true) (k : leP y x = true) : x = y := by
  rw [leP_iff] at *
  exact Prod.ext (by omega) (by omega)
theorem insP_pw {x : Int × Int} : ∀ {r : List (Int × Int)}, r.Pairwise (fun p q => leP p q = true) → (insP x r).Pairwise (fun p q => leP p q = true)
  | [], _ => by simp [insP]
  | y :: r, h => by
    unfold insP
    rw [List.pairwise_cons] at h
    split
    · rename_i e
      rw [List.pairwise_cons, List.pairwise_cons]
      refine ⟨fun z hz => ?_, h.1, h.2⟩
      rcases List.mem_cons.mp hz with rfl | hz
      · exact e
      · exact leP_trans e (h.1 z hz)
    · rename_i e
      rw [List.pairwise_cons]
      refine ⟨fun z hz => ?_, insP_pw h.2⟩
      rcases List.mem_cons.mp ((insP_perm x r).mem_iff.mp hz) with rfl | hz
      · exact leP_total e
      · exact h.1 z hz
theorem srtP_pw : ∀ xs, (srtP xs).Pairwise (fun p q => leP p q = true)
  | [] => .nil
  | x :: r => insP_pw (srtP_pw r)
theorem pwP_uniq : ∀ {xs ys : List (Int × Int)}, xs.Pairwise (fun p q => leP p q = true) → ys.Pairwise (fun p q => leP p q = true) → xs.Perm ys → xs = ys
  | [], ys, _, _, h => h.nil_eq
  | x :: xs, [], _, _, h => by have := h.length_eq; simp at this
  | x :: xs, y :: ys, h1, h2, h => by
    rw [List.pairwise_cons] at h1 h2
    have a1 : x ∈ y :: ys := h.mem_iff.mp (by simp)
    have a2 : y ∈ x :: xs := h.mem_iff.mpr (by simp)
    have e : x = y := by
      rcases List.mem_cons.mp a1 with e | a1
      · exact e
      · rcases List.mem_cons.mp a2 with e | a2
        · exact e.symm
        · exact leP_anti (h1.1 _ a2) (h2.1 _ a1)
    subst e
    rw [pwP_uniq h1.2 h2.2 h.cons_inv]
theorem srtP_eq {xs ys : List (Int × Int)} (h : ys.Perm xs) (p : ys.Pairwise (fun x y => SrtO.lexB y x = false)) : ys = srtP xs :=
  pwP_uniq (p.imp fun {a b} z => by unfold leP; rw [z]; rfl) (srtP_pw xs) (h.trans (srtP_perm xs).symm)
def pairKs : List (List Key × D) → Option (List (Int × Int))
  | [] => some []
  | ([.inl i, .inl j], _) :: r => (pairKs r).map ((i, j) :: ·)
  | _ => none
theorem pairKs_eq : ∀ {es : List (List Key × D)} {ks : List (Int × Int)}, pairKs es = some ks → es.map (·.1) = ks.map pk
  | [], _, h => by cases h; rfl
  | (k, d) :: r, ks, h => by
    unfold pairKs at h
    split at h
    · rename_i e; cases e
    · rename_i i j d' r' e
      cases e
      cases e2 : pairKs r with
      | none => rw [e2] at h; cases h
      | some ks => rw [e2] at h; cases h; rw [List.map_cons, pairKs_eq e2]; rfl
    · cases h
def dSortedTF : DC := fun xs O R => match xs with | [x] => (match dctT O x with | some es => (match pairKs es with | some ks => R (.lst ((srtP ks).map pD2)) O | none => False) | none => False) | _ => False
abbrev rSortDT : List V → Hp → VK → Prop := fun xs H Q => ∃ (a : Addr) (kvs : List (List Key × V)) (ks : List (Int × Int)), xs = [.ref a] ∧ Rd H a (.dT kvs) ∧ kvs.map (·.1) = ks.map pk ∧
    ∀ (ys : List (Addr × (Int × Int))) (p : Addr), (ys.map (·.2)).Perm ks → (∀ y ∈ ys, H y.1 = some (.tup [.int y.2.1, .int y.2.2])) → (ys.map (·.2)).Pairwise (fun x y => SrtO.lexB y x = false) → H p = none → Q (.ref p) (upd H p (.lst (ys.map fun y => V.ref y.1)))
theorem sSortedTF {K : PySem.W.Frag} : CaS K rSortDT dSortedTF := fun {G O H xs vs R Q} rl hv h k => by
  match xs, hv, h with
  | [x], hv, h =>
    obtain ⟨v, rfl, hw⟩ := hv.one
    have h : (match dctT O x with | some es => (match pairKs es with | some ks => R (.lst ((srtP ks).map pD2)) O | none => False) | none => False) := h
    cases e : dctT O x with
    | none => simp only [e] at h
    | some es =>
      simp only [e] at h
      cases e2 : pairKs es with
      | none => simp only [e2] at h
      | some ks =>
        simp only [e2] at h
        obtain ⟨a, kvs, rfl, _, _, h1, h2⟩ := rl.dctT hw e
        refine ⟨a, kvs, ks, rfl, .inl h1, by rw [PR.keys h2, pairKs_eq e2], fun ys p q1 q2 q3 hp => ?_⟩
        obtain ⟨G1, go1, vr1⟩ := Go.adopts ys rl q2
        have e3 : (ys.map fun y => pD2 y.2) = (srtP ks).map pD2 := by
          rw [← srtP_eq q1 q3, List.map_map]
          rfl
        rw [e3] at vr1
        exact Bk.lstF (fun x O2 v G2 H2 go2 vr q => k _ _ _ _ _ (go1.trans rl go2) vr q) go1.rel vr1 h p hp
end DL
set_option Elab.async false
set_option linter.all false
set_option maxRecDepth 100000
set_option maxHeartbeats 2000000
namespace DL
open PySem PySem.Spec PyProof.Rows L2
open Evl (Ex)
/-! ### enumerate(tuple) -/
set_option maxHeartbeats 1000000 in
theorem meets_enum1 {v : Value} {o : Obj} {H : Heap → Prop} (B : Begins v o H) :
    Meets (Builtin.«enumerate.__new__» ⟨[.type "enumerate", v], []⟩) (fun _ R s => H s.heap ∧
      R (.ok (.ret (.ref (s.heap.push o).objs.size))) { s with heap := (s.heap.push o).push { cls := .type "enumerate", data := .fields #[.none, .bool false, .ref s.heap.objs.size, rawInt 0, .none, .none] } }) :=
  .of_wp fun prog w A R s h => by
    obtain ⟨hp, g, d, tk, os⟩ := s; obtain ⟨h1, h⟩ := h
    have hsub := sub_enumerate
    have q1 : ∀ {A' : Around} {E : Value → Shared → Prop} {Q : Value → Shared → Prop}, Q (.ref hp.objs.size) ⟨hp.push o, g, d, tk, os⟩ → wpAny (model prog w) A' (pyIter v) Q E ⟨hp, g, d, tk, os⟩ :=
      fun q => B.iter prog w _ _ ⟨hp, g, d, tk, os⟩ _ h1 q
    wp_walk using q1
    refine wpAny_stack_any fun st => wpAny_pure ?_
    split
    · rename_i c _ _ _ _ _
      cases (c == Value.type "enumerate")
      · wp_walk using q1
        exact ⟨_, rfl, h⟩
      · wp_walk using q1
        exact ⟨_, rfl, h⟩
    · wp_walk using q1
      exact ⟨_, rfl, h⟩
theorem enum_begins1 {prog : Program} {w : World} {A : Around} {E : Value → Shared → Prop} {s : Shared} {v : Value} {o : Obj} {H : Heap → Prop} {Q : Value → Shared → Prop} (B : Begins v o H) (h1 : H s.heap)
    (h : ∀ h', IsEnum h' (s.heap.objs.size + 1) s.heap.objs.size 0 .none → h'.get? s.heap.objs.size = some o → h'.objs.size = s.heap.objs.size + 2 →
      (∀ b o, s.heap.get? b = some o → h'.get? b = some o) → Q (.ref (s.heap.objs.size + 1)) { s with heap := h' }) :
    wpAny (model prog w) A (call (.type "enumerate") [v]) Q E s := by
  refine callType_new F.called_enumerate (by decide) (F.typeCall_enumerate_1 _) (F.newCall_enumerate_1 _) (fun obj => F.args_object_init_2 obj _) F.entry_enumerate_new
    (meets_enum1 B) ⟨h1, ?_⟩
  have hz : (s.heap.push o).objs.size = s.heap.objs.size + 1 := Heap.size_push ..
  show _ ∧ _
  rw [hz]
  have he : IsEnum ((s.heap.push o).push { cls := .type "enumerate", data := .fields #[.none, .bool false, .ref s.heap.objs.size, rawInt 0, .none, .none] }) (s.heap.objs.size + 1) s.heap.objs.size 0 .none := by
    have := Heap.get?_push_size (s.heap.push o) (o := { cls := .type "enumerate", data := .fields #[.none, .bool false, .ref s.heap.objs.size, rawInt 0, .none, .none] }) rfl
    rw [hz] at this; exact this
  refine ⟨⟨_, he, rfl⟩, h _ he (Heap.get?_push_of_some _ (Heap.get?_push_size _ B.free)) (by rw [Heap.size_push, hz]) fun b o x => Heap.get?_push_of_some _ (Heap.get?_push_of_some _ x)⟩
def IteT (K : PySem.W.Frag) (a : Addr) : It :=
  ⟨fun i H => ∃ (xs : List V) (x : V), SqT K H a xs ∧ xs[i]? = some x, fun i H v H' => ∃ T x, v = .ref T ∧ H T = none ∧ H' = upd H T (.tup [.int (i : Nat), x]) ∧ ∀ xs, SqT K H a xs → xs[i]? = some x, fun i H => ∃ xs : List V, SqT K H a xs ∧ xs.length = i⟩
theorem tup_ne_iter {h : Heap} {a it : Addr} {its : Array Value} {i : Nat} (p : IsTup h a its) (q : h.IsTupleIter it a i) : a ≠ it := fun z => by
  subst z
  obtain ⟨o, h1, h2, _⟩ := p
  obtain ⟨o', h1', h2', _⟩ := q
  rw [h1] at h1'
  cases h1'
  rw [h2] at h2'
  exact absurd (Value.type.inj h2') (by decide)
theorem turn_enumT {P : Program} {w : World} {K : PySem.W.Frag} {elts : List Expr} {kk : Nat} {tpos : Pos} (a e it : Addr) :
    Turn P w K (.Tuple elts kk tpos) (IteT K a) [e, it] e (fun i h => (∃ old, IsEnum h e it ((i : Nat) : Int) old) ∧ h.IsTupleIter it a i ∧ e ≠ it) where
  mem := by simp
  obj := fun i h st b hb => by
    obtain ⟨⟨old, he⟩, ⟨o, ho, hc, hd⟩, _⟩ := st
    have e' : b = e ∨ b = it := by simpa using hb
    rcases e' with z | z
    · rw [z]; exact ⟨_, he, fun v q => nomatch q⟩
    · rw [z]; exact ⟨o, ho, fun v q => by rw [hd] at q; cases q⟩
  keep := fun i h h' st k => let ⟨⟨old, he⟩, hi, hne⟩ := st; ⟨⟨old, k e (by simp) _ he⟩, hi.at fun o q => k it (by simp) o q, hne⟩
  item := by
    intro X hP hw hK hc i pins s σ H E I hf st hg
    subst hP hw hK
    obtain ⟨⟨old, he⟩, hit, hne⟩ := st
    obtain ⟨xs, x, hq, hx⟩ := hg
    obtain ⟨its, rv, p, hz⟩ := I.tuple hq
    obtain ⟨u, hu, ru⟩ := rv.get hx
    have hel : e < s.heap.objs.size := Heap.lt_size he
    have hil : it < s.heap.objs.size := by obtain ⟨_, q, _⟩ := hit; exact Heap.lt_size q
    have hat : a ≠ it := tup_ne_iter p hit
    have hea : e ≠ a := fun z => by
      subst z
      obtain ⟨o, h1, h2, _⟩ := p
      rw [show s.heap.get? e = _ from he] at h1
      cases h1
      exact absurd (Value.type.inj h2) (by decide)
    have hlt : i < its.toArray.size := by
      have := (List.getElem?_eq_some_iff.mp hu).1
      simpa using this
    refine wpAny_pyNext_enum_itemD (Draws.tuple (show X.A.in1.handled = none from I.ok.hd hc) it a hat its.toArray) he ⟨hit, p⟩ hlt hne (by simp [hne, hea]) fun x' h' tk hPx ho hst hT hsz hk => ?_
    have hxu : x' = u := by
      have h1 : its.toArray[i]? = some x' := hPx
      have h2 : its.toArray[i]? = some u := by simpa using hu
      rw [h1] at h2
      exact Option.some.inj h2
    subst hxu
    obtain ⟨hit', _⟩ := hst
    refine ⟨_, rfl, wpAny_letOwnedTupleGo_enum (s := { s with heap := h', toks := tk + 1 }) ho fun h'' he' sb => ?_⟩
    have hT2 : h''.get? s.heap.objs.size = some { cls := .type "tuple", data := .seq #[.int i tk, x'] } := (sb.2 _ (Nat.ne_of_gt hel)).trans hT
    have new : ObjOk X.prog X.w (upd H s.heap.objs.size (.tup [.int (i : Nat), x])) h'' s.heap.objs.size (.tup [.int (i : Nat), x]) :=
      ⟨by show 2 ≤ sizeLine; decide, [.int i tk, x'], .cons ⟨_, rfl⟩ (.cons ru .nil), ⟨_, hT2, rfl, _, rfl⟩⟩
    have I1 : Inv X pins σ (upd H s.heap.objs.size (.tup [.int (i : Nat), x])) { s with heap := h'', toks := tk + 1 } :=
      I.turnedNew (ch := [e, it]) (fun b ob hb q => (sb.2 b (fun z => hb (by simp [z]))).trans (hk b ob (fun z => hb (by simp [z])) (fun z => hb (by simp [z])) q)) hf (Nat.le_refl _) new
    refine ⟨.ref s.heap.objs.size, _, I1, rfl, ⟨_, x, rfl, I.hok.fresh (Nat.le_refl _), rfl, fun ys hy => by rw [I.tuple_inj hy hq]; exact hx⟩, ⟨⟨x', ?_⟩, hit'.at fun o q => (sb.2 it (Ne.symm hne)).trans q, hne⟩, fun b hb => ?_⟩
    · have e1 : ((i + 1 : Nat) : Int) = (i : Int) + 1 := by omega
      rw [e1]; exact he'
    · have hb' : b < s.heap.objs.size := by
        have e' : b = e ∨ b = it := by simpa using hb
        rcases e' with z | z
        · rw [z]; exact hel
        · rw [z]; exact hil
      rw [upd_ne (Nat.ne_of_lt hb')]
      exact (hf b hb).1
  done := by
    intro X hP hw hK hc i pins s σ H E I hf st hg
    subst hP hw hK
    obtain ⟨⟨old, he⟩, hit, hne⟩ := st
    obtain ⟨xs, hq, hx⟩ := hg
    obtain ⟨its, rv, p, hz⟩ := I.tuple hq
    obtain ⟨f0, f1, f2, f3, f4, f5⟩ := hf it (by simp)
    have hl := rv.length
    have hi : its.toArray.size = i := by simp; omega
    subst hi
    exact wpAny_pyNext_enum_endD (Draws.tuple (show X.A.in1.handled = none from I.ok.hd hc) it a (tup_ne_iter p hit) its.toArray) he ⟨hit, p⟩ fun h' eb => ⟨rfl, I.turned (t' := s.toks) (fun b o hb q => eb b o hb q) f0 f1 f3 f4 f5⟩
  self := fun A i s Q E st h => let ⟨⟨_, he⟩, _⟩ := st; wpAny_pyIter_enum he h
def iEnumA (K : PySem.W.Frag) (ta : TA) : TI := fun σ H R => ta σ H fun vs H1 => ∃ a xs, vs = [.ref a] ∧ ((SqL K H1 a xs ∧ R (Ite K a) H1) ∨ (SqT K H1 a xs ∧ R (IteT K a) H1))
theorem pi_enumA {X : Cx} {e : Expr} {ta : TA} {p pos tpos : Pos} {elts : List Expr} {kk : Nat} (hg : Gl X "enumerate") (hm : X.mg "enumerate" = none) (ha : PA X [e] ta) (hs : starEach [e] X.env = [(false, eval e X.env)] := by rfl) :
    PI X (.Tuple elts kk tpos) (.Call (.Name "enumerate" p) [e] [] pos) (iEnumA X.K ta) := by
  refine ⟨fun pins s σ H R I h => ?_⟩
  refine Call_ (ld_blt I hg hm boot_enumerate (PyProof.Rows.callWith_type1 (thn (ha.run pos pins s σ H _ I h) fun us s1 ⟨vs, H1, I1, r1, q1⟩ => ?_) hs rfl))
  obtain ⟨a, xs, ex, q1⟩ := q1
  subst ex
  cases r1 with
  | cons r rr =>
    cases rr
    cases r
    rcases q1 with ⟨hq, q⟩ | ⟨hq, q⟩
    · obtain ⟨its, rv, p', hz⟩ := I1.list hq
      refine call_enumerate_list p'.isList fun h' he hit hsz hk => wpAny_pyIter_enum he ?_
      have I2 : Inv X pins σ H1 { s1 with heap := h' } := I1.kept (t' := s1.toks) hk
      refine ⟨s1.heap.objs.size + 1, [s1.heap.objs.size + 1, s1.heap.objs.size], _, _, H1, rfl, I2, turn_enum a (s1.heap.objs.size + 1) s1.heap.objs.size, ⟨⟨.none, he⟩, hit, Nat.succ_ne_self _⟩, fun b hb => ?_, q⟩
      have e' : b = s1.heap.objs.size + 1 ∨ b = s1.heap.objs.size := by simpa using hb
      have hle : s1.heap.objs.size ≤ b := by
        rcases e' with z | z
        · rw [z]; exact Nat.le_add_right _ _
        · rw [z]; exact Nat.le_refl _
      exact I1.fpOk hle (I1.hok.fresh hle)
    · obtain ⟨its, rv, p', hz⟩ := I1.tuple hq
      refine enum_begins1 (begins_tuple a its.toArray) p' fun h' he hit hsz hk => wpAny_pyIter_enum he ?_
      have I2 : Inv X pins σ H1 { s1 with heap := h' } := I1.kept (t' := s1.toks) hk
      refine ⟨s1.heap.objs.size + 1, [s1.heap.objs.size + 1, s1.heap.objs.size], _, _, H1, rfl, I2, turn_enumT a (s1.heap.objs.size + 1) s1.heap.objs.size, ⟨⟨.none, he⟩, ⟨_, hit, rfl, rfl⟩, Nat.succ_ne_self _⟩, fun b hb => ?_, q⟩
      have e' : b = s1.heap.objs.size + 1 ∨ b = s1.heap.objs.size := by simpa using hb
      have hle : s1.heap.objs.size ≤ b := by
        rcases e' with z | z
        · rw [z]; exact Nat.le_add_right _ _
        · rw [z]; exact Nat.le_refl _
      exact I1.fpOk hle (I1.hok.fresh hle)
section
variable {X : Cx} {K : PySem.W.Frag} {G : Hp}
theorem ItR.enumT {a : Addr} {vs : List V} {xs : List D} (hT : SqT K G a vs) (hv : VRs K G vs xs) : ItR K (IteT K a) G (enD xs) Tr where
  stop := fun G1 O H ex rl eo => ⟨vs, Evl.ex_t rl.g (Evl.ex_t ex hT), by rw [hv.length]; simp [enD]⟩
  go := fun i d G1 O H e ex rl eo => by
    have hi : i < xs.length := by simpa [enD] using (List.getElem?_eq_some_iff.mp e).1
    obtain ⟨v, h3, _⟩ := hv.get (List.getElem?_eq_getElem hi)
    exact ⟨vs, v, Evl.ex_t rl.g (Evl.ex_t ex hT), h3⟩
  yld := fun i d G1 O H x H' e ex rl eo y => by
    obtain ⟨T, w, rfl, hTn, rfl, hw⟩ := y
    have hi : i < xs.length := by simpa [enD] using (List.getElem?_eq_some_iff.mp e).1
    obtain ⟨v, h3, h4⟩ := hv.get (List.getElem?_eq_getElem hi)
    have := hw vs (Evl.ex_t rl.g (Evl.ex_t ex hT))
    rw [h3] at this; cases this
    have ed : d = D.tup [.int (i : Nat), xs[i]] := by
      unfold enD at e
      rw [List.getElem?_map, List.getElem?_zipIdx, List.getElem?_eq_getElem hi] at e
      simp at e
      exact e.symm
    subst ed
    have g := Go.data rl (u := .tup [.int (i : Nat), w]) hTn
    exact ⟨_, g, .tup (SqT.of upd_same) (.cons (.int _) (.cons ((h4.mono ex).mono g.ex) .nil))⟩
def dEnumA (t : DE) : DI := fun g O R => t g O fun x O1 => match x with
  | .lst xs => R (enD xs) Tr O1
  | .tup xs => R (enD xs) Tr O1
  | .ref a => match O1 a with | some (.lst xs) => R (enD xs) (fun O => O a = some (.lst xs)) O1 | _ => False
  | _ => False
theorem i_enumA {e : Expr} {te : DE} {p pos tpos : Pos} {elts : List Expr} {kk : Nat} (hm : X.mg "enumerate" = none) (he : PE X e (lowE X.K te)) (hg : Gl X "enumerate" := by rfl) (hs : starEach [e] X.env = [(false, eval e X.env)] := by rfl) : PI X (.Tuple elts kk tpos) (.Call (.Name "enumerate" p) [e] [] pos) (lowI X.K (dEnumA te)) :=
  PI.by (pi_enumA hg hm (pa_cons he pa_nil hs) hs) fun s H R ⟨G, O, g, R', rl, gr, h, k⟩ => ⟨G, O, g, _, rl, gr, h, fun x O1 v G1 H1 go1 vr1 q1 => by
    cases vr1 with
    | lst h1 h2 => exact ⟨_, _, rfl, .inl ⟨Evl.ex_l go1.rel.g h1, k _ _ _ _ _ _ go1 (ItR.enum (a := _) fun G2 O2 H2 ex rl2 _ => ⟨_, Evl.ex_l rl2.g (Evl.ex_l ex h1), h2.mono ex⟩) q1⟩⟩
    | tup h1 h2 => exact ⟨_, _, rfl, .inr ⟨Evl.ex_t go1.rel.g h1, k _ _ _ _ _ _ go1 (ItR.enumT h1 h2) q1⟩⟩
    | ref a =>
      have q1 : (match O1 a with | some (.lst xs) => R' (enD xs) (fun O => O a = some (.lst xs)) O1 | _ => False) := q1
      cases e : O1 a with
      | none => simp only [e] at q1
      | some o =>
        cases o with
        | lst xs =>
          simp only [e] at q1
          obtain ⟨vs, h1, h2⟩ := go1.rel.lst e
          exact ⟨a, vs, rfl, .inl ⟨SqL.of h1, k _ _ _ _ _ _ go1 (ItR.enum (a := a) fun G2 O2 H2 ex rl2 eo => by
            obtain ⟨vs, h1, h2⟩ := rl2.lst eo
            exact ⟨vs, SqL.of h1, h2⟩) q1⟩⟩
        | _ => simp only [e] at q1
    | _ => exact False.elim q1⟩
end
end DL
set_option Elab.async false
set_option linter.all false
set_option maxRecDepth 100000
set_option maxHeartbeats 2000000
namespace DL
open PySem PySem.Spec PyProof.Rows L2
open Evl (Ex)
/-! ### d.get(k), d.get(k, x) -/
def dGet1 (td ty : DE) : DE := fun g O R => td g O fun x O1 => (dctOf O1 x).isSome = true ∧ ty g O1 fun y O2 => match dctOf O2 x with | some es => (match DL.keyOf y with | some k => R ((valD es k).getD .non) O2 | none => False) | none => False
def dGet2 (td ty tx : DE) : DE := fun g O R => td g O fun x O1 => (dctOf O1 x).isSome = true ∧ ty g O1 fun y O2 => tx g O2 fun z O3 => match dctOf O3 x with | some es => (match DL.keyOf y with | some k => R ((valD es k).getD z) O3 | none => False) | none => False
def dGet2T (td ty tx : DE) : DE := fun g O R => td g O fun x O1 => (dctT O1 x).isSome = true ∧ ty g O1 fun y O2 => tx g O2 fun z O3 => match dctT O3 x with | some es => (match tkOf y with | some k => R ((valD es k).getD z) O3 | none => False) | none => False
section
variable {X : Cx} {K : PySem.W.Frag} {a b c : Expr} {ta tb tc : DE} {pos : Pos}
theorem dct_isD {G : Hp} {O : Om} {H : Hp} {v : V} {x : D} (rl : Rel K G O H) (hv : VR K G v x) (h : (dctOf O x).isSome = true) : ∃ a, v = .ref a ∧ IsD H a := by
  cases e : dctOf O x with
  | none => rw [e] at h; cases h
  | some es =>
    obtain ⟨a, kvs, rfl, h1, h2⟩ := rl.dct hv e
    exact ⟨a, rfl, .inl ⟨kvs, h1⟩⟩
theorem e_dget1 {k : Nat} {apos : Pos} (hr : Room k X.A) (ha : PE X a (lowE X.K ta)) (hb : PE X b (lowE X.K tb)) (m : M1 X a "get" apos b pos := by exact ⟨rfl, rfl, rfl, rfl⟩) : PE X (.Call (.Attribute a "get" apos) [b] [] pos) (lowE X.K (dGet1 ta tb)) :=
  PE.by (pe_dget1 (by have := hr.un; omega) ha hb m) fun s H Q ⟨G, O, g, R, rl, gr, h, k⟩ =>
    ⟨G, O, g, _, rl, gr, h, fun x O1 v G1 H1 go1 vr1 q1 => by
      obtain ⟨a, rfl, hd⟩ := dct_isD go1.rel vr1 q1.1
      refine ⟨a, rfl, hd, G1, O1, g, _, go1.rel, gr.mono go1.ex, q1.2, fun y O2 u G2 H2 go2 vr2 q2 => ?_⟩
      have q2 : (match dctOf O2 x with | some es => (match DL.keyOf y with | some k => R ((valD es k).getD .non) O2 | none => False) | none => False) := q2
      cases e : dctOf O2 x with
      | none => simp only [e] at q2
      | some es =>
        simp only [e] at q2
        obtain ⟨a', kvs, ea, h1, h2⟩ := go2.rel.dct (vr1.mono go2.ex) e
        cases ea
        cases ek : DL.keyOf y with
        | none => simp only [ek] at q2
        | some kk =>
          simp only [ek] at q2
          refine ⟨valV kvs kk, .inl ⟨kvs, kk, h1, keyOf_vr vr2 ek, rfl⟩, ?_⟩
          rcases h2.val kk with ⟨z0, z⟩ | ⟨w, d, z1, z2, z3⟩
          · rw [z0]; rw [z] at q2; exact k _ _ _ _ _ (go1.trans rl go2) .non q2
          · rw [z1]; rw [z2] at q2; exact k _ _ _ _ _ (go1.trans rl go2) z3 q2⟩
theorem e_dget2 {k : Nat} {apos : Pos} (hr : Room k X.A) (ha : PE X a (lowE X.K ta)) (hb : PE X b (lowE X.K tb)) (hc : PE X c (lowE X.K tc)) (m : M2 X a "get" apos b c pos := by exact ⟨rfl, rfl, rfl, rfl⟩) : PE X (.Call (.Attribute a "get" apos) [b, c] [] pos) (lowE X.K (dGet2 ta tb tc)) :=
  PE.by (pe_dget2 (by have := hr.un; omega) ha hb hc m) fun s H Q ⟨G, O, g, R, rl, gr, h, k⟩ =>
    ⟨G, O, g, _, rl, gr, h, fun x O1 v G1 H1 go1 vr1 q1 => by
      obtain ⟨a, rfl, hd⟩ := dct_isD go1.rel vr1 q1.1
      refine ⟨a, rfl, hd, G1, O1, g, _, go1.rel, gr.mono go1.ex, q1.2, fun y O2 u G2 H2 go2 vr2 q2 => ⟨G2, O2, g, _, go2.rel, (gr.mono go1.ex).mono go2.ex, q2, fun z O3 w3 G3 H3 go3 vr3 q3 => ?_⟩⟩
      have q3 : (match dctOf O3 x with | some es => (match DL.keyOf y with | some k => R ((valD es k).getD z) O3 | none => False) | none => False) := q3
      cases e : dctOf O3 x with
      | none => simp only [e] at q3
      | some es =>
        simp only [e] at q3
        obtain ⟨a', kvs, ea, h1, h2⟩ := go3.rel.dct ((vr1.mono go2.ex).mono go3.ex) e
        cases ea
        cases ek : DL.keyOf y with
        | none => simp only [ek] at q3
        | some kk =>
          simp only [ek] at q3
          have g13 := (go1.trans rl go2).trans rl go3
          refine ⟨valV kvs kk, .inl ⟨kvs, kk, h1, keyOf_vr vr2 ek, rfl⟩, ?_⟩
          rcases h2.val kk with ⟨z0, zz⟩ | ⟨w, d, z1, z2, z3⟩
          · rw [z0]; rw [zz] at q3; exact k _ _ _ _ _ g13 vr3 q3
          · rw [z1]; rw [z2] at q3; exact k _ _ _ _ _ g13 z3 q3⟩
end
/-! ### d.get((..), x): the layer below with any tuple -/
section
variable {X : Cx} {pins : List (Addr × Obj)} {σ : L2.St} {H : Hp} {s : Shared} {a b : Addr} {A : Around} {E : Value → Shared → Prop}
theorem d_get2T {kvs : List (List Key × V)} {k : List Key} {d : V} {r : Value} {Q : Value → Shared → Prop} (hu : A.units + 1 < cLine) (I : Inv X pins σ H s) (e : Rd H a (.dT kvs)) (eb : SqT X.K H b (k.map kV)) (rd : RelV d r) (h : ∀ w' s', Inv X pins σ H s' → RelV ((valV kvs k).getD d) w' → Q w' s') :
    wpAny (model X.prog X.w) A (call (.builtin "dict.get") [.ref a, .ref b, r]) Q E s := by
  obtain ⟨z, hd, xs, rel, dd⟩ := dt_rd I.hok e
  refine call_meetsIn PySem.F.slot_dict_get dd.typeIs PySem.F.entry_dict_get (PySem.F.args_dict_get_3 _ _ _) (meetsH_dict_get_default (tupleKind (mixKind X.prog X.w)) a b hd r) ⟨tupleKind_room_in1 hu, k, xs, key_ofT I eb, dd, h _ _ (I.tok _) ?_⟩
  exact (rel.val k).getD rd
end
def tDGet2T (K : PySem.W.Frag) (td ty tx : TE) : TE := fun σ H Q => td σ H fun x H1 => ∃ a, x = .ref a ∧ IsD H1 a ∧ ty σ H1 fun y H2 => tx σ H2 fun z H3 => ∃ b kvs k, y = .ref b ∧ Rd H3 a (.dT kvs) ∧ SqT K H3 b (k.map kV) ∧ Q ((valV kvs k).getD z) H3
section
variable {X : Cx} {K : PySem.W.Frag} {a b c : Expr} {ta tb tc : DE} {pos : Pos} {td ty tx : TE} {o e f : Expr} {apos cpos : Pos}
theorem pe_dget2T (hu : X.A.units + 1 < cLine) (ho : PE X o td) (he : PE X e ty) (hf : PE X f tx) (m : M2 X o "get" apos e f cpos) : PE X (.Call (.Attribute o "get" apos) [e, f] [] cpos) (tDGet2T X.K td ty tx) := by
  refine ⟨fun pins s σ H Q I h => ?_⟩
  refine wpAny_Call_method m.base m.few m.line PySem.F.plainAttrs_dict PySem.F.slot_dict_get PySem.F.type_dict_get (thn (ho.run pins s σ H _ I h) fun u s1 ⟨x, H1, I1, rx, a, ex, d, q1⟩ => ?_)
  subst ex
  obtain rfl : u = Value.ref a := rx
  obtain ⟨t1, t2, _⟩ := isD_at I1 d
  refine ⟨t1, t2, ?_⟩
  rw [m.trees]
  refine Calls.callWith_builtin rfl (Calls.evalArgs_plain (Calls.spliced_cons (thn (he.run pins s1 σ H1 _ I1 q1) fun iv s2 ⟨y, H2, I2, ry, q2⟩ =>
    Calls.spliced_cons (thn (hf.run pins s2 σ H2 _ I2 q2) fun fv s3 ⟨z, H3, I3, rz, b, kvs, k, ey, e1, e2, q3⟩ => Calls.spliced_nil ?_))))
  subst ey
  obtain rfl : iv = Value.ref b := ry
  exact d_get2T hu I3 e1 e2 rz fun w' s4 I4 rw' => ⟨_, H3, I4, rw', q3⟩
theorem e_dget2T {k : Nat} (hr : Room k X.A) (ha : PE X a (lowE X.K ta)) (hb : PE X b (lowE X.K tb)) (hc : PE X c (lowE X.K tc)) (m : M2 X a "get" apos b c pos := by exact ⟨rfl, rfl, rfl, rfl⟩) : PE X (.Call (.Attribute a "get" apos) [b, c] [] pos) (lowE X.K (dGet2T ta tb tc)) :=
  PE.by (pe_dget2T (by have := hr.un; omega) ha hb hc m) fun s H Q ⟨G, O, g, R, rl, gr, h, k⟩ =>
    ⟨G, O, g, _, rl, gr, h, fun x O1 v G1 H1 go1 vr1 q1 => by
      have hd : ∃ a, v = .ref a ∧ IsD H1 a := by
        cases e : dctT O1 x with
        | none => rw [e] at q1; exact absurd q1.1 (by decide)
        | some es =>
          obtain ⟨a, kvs, rfl, _, _, h1, h2⟩ := go1.rel.dctT vr1 e
          exact ⟨a, rfl, .inr ⟨kvs, .inl h1⟩⟩
      obtain ⟨a, rfl, hd⟩ := hd
      refine ⟨a, rfl, hd, G1, O1, g, _, go1.rel, gr.mono go1.ex, q1.2, fun y O2 u G2 H2 go2 vr2 q2 => ⟨G2, O2, g, _, go2.rel, (gr.mono go1.ex).mono go2.ex, q2, fun z O3 w3 G3 H3 go3 vr3 q3 => ?_⟩⟩
      have q3 : (match dctT O3 x with | some es => (match tkOf y with | some k => R ((valD es k).getD z) O3 | none => False) | none => False) := q3
      cases e : dctT O3 x with
      | none => simp only [e] at q3
      | some es =>
        simp only [e] at q3
        obtain ⟨a', kvs, ea, _, _, h1, h2⟩ := go3.rel.dctT ((vr1.mono go2.ex).mono go3.ex) e
        cases ea
        cases ek : tkOf y with
        | none => simp only [ek] at q3
        | some kk =>
          simp only [ek] at q3
          have g13 := (go1.trans rl go2).trans rl go3
          obtain ⟨b, rfl, hb⟩ := tk_vr go3.rel (vr2.mono go3.ex) ek
          refine ⟨b, kvs, kk, rfl, .inl h1, hb, ?_⟩
          rcases h2.val kk with ⟨z0, zz⟩ | ⟨w, d, z1, z2, z3⟩
          · rw [z0]; rw [zz] at q3; exact k _ _ _ _ _ g13 vr3 q3
          · rw [z1]; rw [z2] at q3; exact k _ _ _ _ _ g13 z3 q3⟩
/-! ### {k: v} -/
def dDisp1 (tk tv : DE) : DE := fun g O R => ∀ p, O p = none → tk g (up O p (.dK [])) fun x O1 => tv g O1 fun y O2 => O2 p = some (.dK []) ∧ match DL.keyOf x with | some k => R (.ref p) (up O2 p (.dK [(k, y)])) | none => False
theorem e_disp1 {kx vx : Expr} {tk tv : DE} (hk : PE X kx (lowE X.K tk)) (hv : PE X vx (lowE X.K tv)) : PE X (.Dict [some kx] [vx] pos) (lowE X.K (dDisp1 tk tv)) :=
  PE.by (pe_disp (pps_cons hk hv pps_nil) rfl rfl (by simp) (by show 1 ≤ 15; decide)) fun s H Q ⟨G, O, g, R, rl, gr, h, k⟩ => fun p hp => by
    have g0 := Go.new rl (o := .dK []) (u := .dK []) hp .nil
    refine ⟨G, up O p (.dK []), g, _, g0.rel, gr, h p (rl.fresh hp).1, fun x O1 v G1 H1 go1 vr1 q1 => ⟨G1, O1, g, _, go1.rel, gr.mono go1.ex, q1, fun y O2 w G2 H2 go2 vr2 q2 => ?_⟩⟩
    obtain ⟨e2, q2⟩ := q2
    obtain ⟨kvs, h1, h2⟩ := go2.rel.dK e2
    have hz : kvs = [] := by cases h2; rfl
    subst hz
    cases ek : DL.keyOf x with
    | none => simp only [ek] at q2
    | some kk =>
      simp only [ek] at q2
      have hvk := keyOf_vr vr1 ek
      subst hvk
      have gw := Go.write go2.rel (o := .dK [(kk, y)]) (u := .dK [(kk, w)]) e2 (.cons ⟨rfl, vr2⟩ .nil)
      exact ⟨h1, [(kk, w)], rfl, by show 1 ≤ 15; decide, k _ _ _ _ _ (((g0.trans rl go1).trans rl go2).trans rl gw) (.ref p) q2⟩
/-! ### a list times a number -/
def dRep : D2 := fun x y O R => match x, y with
  | .ref a, .int n => (match O a with | some (.lst xs) => (-(2 ^ 63) ≤ n ∧ n < 2 ^ 63 ∧ xs.length * n.toNat ≤ sizeLine) ∧ ∀ p, O p = none → R (.ref p) (up O p (.lst (List.replicate n.toNat xs).flatten)) | _ => False)
  | _, _ => False
theorem VRs.rep {K : PySem.W.Frag} {G : Hp} {vs : List V} {xs : List D} (h : VRs K G vs xs) : ∀ n : Nat, VRs K G (List.replicate n vs).flatten (List.replicate n xs).flatten
  | 0 => .nil
  | n + 1 => by
    rw [List.replicate_succ, List.replicate_succ, List.flatten_cons, List.flatten_cons]
    exact h.append (VRs.rep h n)
theorem sRep : OpS K rRep dRep := fun {G O H x y v u R Q} rl hx hy h k => by
  match x, y, hx, hy, h with
  | .ref a, .int n, hx, hy, h =>
    cases hx; cases hy
    have h : (match O a with | some (.lst xs) => (-(2 ^ 63) ≤ n ∧ n < 2 ^ 63 ∧ xs.length * n.toNat ≤ sizeLine) ∧ ∀ p, O p = none → R (.ref p) (up O p (.lst (List.replicate n.toNat xs).flatten)) | _ => False) := h
    cases e : O a with
    | none => simp only [e] at h
    | some o =>
      cases o with
      | lst xs =>
        simp only [e] at h
        obtain ⟨vs, h1, h2⟩ := rl.lst e
        exact ⟨a, n, vs, rfl, rfl, h1, h.1.1, h.1.2.1, by rw [h2.length]; exact h.1.2.2, k.lst rl (h2.rep n.toNat) h.2⟩
      | _ => simp only [e] at h
theorem e_rep (ha : PE X a (lowE X.K ta)) (hb : PE X b (lowE X.K tb)) : PE X (.BinOp a .Mult b pos) (lowE X.K (dOp dRep ta tb)) := e_op op_rep sRep ha hb
/-! ### int(b), n.bit_length() -/
def dInt : DC := fun xs O R => match xs with | [.int i] => R (.int i) O | [.bl k] => R (.int (if k = true then 1 else 0)) O | _ => False
theorem sInt : CaS K (fun xs H Q => (∃ i, xs = [.int i] ∧ Q (.int i) H) ∨ ∃ k, xs = [.bl k] ∧ Q (.int (if k then 1 else 0)) H) dInt := fun {G O H xs vs R Q} rl hv h k => by
  match xs, hv, h with
  | [.int i], hv, h =>
    obtain ⟨v, rfl, hw⟩ := hv.one
    cases hw
    exact .inl ⟨i, rfl, k.here rl (.int _) h⟩
  | [.bl i], hv, h =>
    obtain ⟨v, rfl, hw⟩ := hv.one
    cases hw
    exact .inr ⟨i, rfl, k.here rl (.int _) h⟩
def dBits (t : DE) : DE := fun g O R => t g O fun x O1 => match x with | .int i => R (.int (Builtin.Int.intBits i : Nat)) O1 | _ => False
/-! ### xs.extend(ys), xs.reverse() -/
def dExtend : DM := fun x vs O R => match x, vs with | .ref a, [.ref b] => (match O a, O b with | some (.lst xs), some (.lst ys) => xs.length + ys.length ≤ sizeLine ∧ R .non (up O a (.lst (xs ++ ys))) | _, _ => False) | _, _ => False
theorem sExtend : MtS K rExtend dExtend := fun {G O H x xs v vs R Q} rl hx hv h k => by
  match x, xs, hx, hv, h with
  | .ref a, [.ref b], hx, hv, h =>
    cases hx
    obtain ⟨u, rfl, hu⟩ := hv.one
    cases hu
    have h : (match O a, O b with | some (.lst xs), some (.lst ys) => xs.length + ys.length ≤ sizeLine ∧ R .non (up O a (.lst (xs ++ ys))) | _, _ => False) := h
    cases e1 : O a with
    | none => simp only [e1] at h
    | some o1 =>
      cases e2 : O b with
      | none => simp only [e1, e2] at h
      | some o2 =>
        cases o1 with
        | lst xs =>
          cases o2 with
          | lst ys =>
            simp only [e1, e2] at h
            obtain ⟨ws, h1, h2⟩ := rl.lst e1
            obtain ⟨zs, h3, h4⟩ := rl.lst e2
            exact ⟨a, b, ws, zs, rfl, rfl, h1, h3, by rw [h2.length, h4.length]; exact h.1, k _ _ _ _ _ (Go.write rl (o := .lst (xs ++ ys)) (u := .lst (ws ++ zs)) e1 (h2.append h4)) .non h.2⟩
          | _ => simp only [e1, e2] at h
        | _ => simp only [e1, e2] at h
def dReverse : DM := fun x vs O R => match x, vs with | .ref a, [] => (match O a with | some (.lst xs) => R .non (up O a (.lst xs.reverse)) | _ => False) | _, _ => False
theorem sReverse : MtS K rReverse dReverse := fun {G O H x xs v vs R Q} rl hx hv h k => by
  match x, xs, hx, hv, h with
  | .ref a, [], hx, hv, h =>
    cases hx
    cases hv
    have h : (match O a with | some (.lst xs) => R .non (up O a (.lst xs.reverse)) | _ => False) := h
    cases e : O a with
    | none => simp only [e] at h
    | some o =>
      cases o with
      | lst xs =>
        simp only [e] at h
        obtain ⟨ws, h1, h2⟩ := rl.lst e
        exact ⟨a, ws, rfl, rfl, h1, k _ _ _ _ _ (Go.write rl (o := .lst xs.reverse) (u := .lst ws.reverse) e h2.reverse) .non h⟩
      | _ => simp only [e] at h
theorem e_bits (ha : PE X a (lowE X.K ta)) (hb : attributeBase a (Str.ofString "bit_length") X.env (eval a X.env) = eval a X.env := by rfl) (hl : (apos.endLine == pos.line) = true := by rfl) : PE X (.Call (.Attribute a "bit_length" apos) [] [] pos) (lowE X.K (dBits ta)) :=
  PE.by (pe_bits ha hb hl) fun s H Q ⟨G, O, g, R, rl, gr, h, k⟩ => ⟨G, O, g, _, rl, gr, h, fun x O1 v G1 H1 go1 vr1 q1 => by
    match x, vr1, q1 with
    | .int i, vr1, q1 => cases vr1; exact ⟨i, rfl, k _ _ _ _ _ go1 (.int _) q1⟩⟩
end
end DL
set_option Elab.async false
set_option linter.all false
set_option maxRecDepth 100000
set_option maxHeartbeats 2000000
namespace DL
open PySem PySem.Spec PyProof.Rows L2
open Evl (Ex)
/-! ### max(list, default = x) -/
section
variable {prog : Program} {w : World} {A : Around} {R : Result → Shared → Prop} {I : Addr} {fp wr : List Addr} {n : Nat} {P : Nat → Value → Prop} {St : Nat → Heap → Prop}
theorem max_loopD (kw : List (Str × Value)) (W : Walks prog w A.in1 I fp wr n P St) (bt : Nat → Nat → Bool) (hcmp : CmpOf prog w A.in1 .Gt P bt) (S : Addr) (hSf : S ∉ fp) :
    ∀ (k j : Nat) (s : Shared) (vb : Value) (c : Nat), n - (j + 1) = k → j + 1 ≤ n → St (j + 1) s.heap → P (argBest bt j) vb →
    s.heap.get? S = some { cls := .type "list", dict := none, data := .seq #[vb, vb] c, slots := #[] } →
    (∀ v h' tk, P (argBest bt (n - 1)) v → (∀ b o, b ∉ wr → b ≠ S → s.heap.get? b = some o → h'.get? b = some o) → R (.ok (.ret v)) { s with heap := h', toks := tk }) →
    codeAny (model prog w) A (.builtin "max.loop" ⟨[.ref I, .none, .ref S], kw⟩) R s := by
  have hSw : S ∉ wr := fun h => hSf (W.sub _ h)
  have hname : (toString "max" ++ toString ".loop" : String) = "max.loop" := by decide
  intro k
  induction k with
  | zero =>
    intro j s vb c hk hj hst hPb hS hR
    have hin : j + 1 = n := by omega
    refine codeAny_builtin PySem.F.entry_max_loop ?_
    rw [Around.under_plainId PySem.F.plain_max_loop _]
    show wpAny _ A.in1 (seqItems? (.ref S) >>= _) _ _ s
    refine wpAny_bind (wpAny_seqItems hS rfl ?_)
    show wpAny _ A.in1 (tryCatch (pyNext (.ref I)) _ >>= _) _ _ s
    refine wpAny_bind (wpAny_tryCatch (W.done s _ _ (hin ▸ hst) fun h' tk hk' => ?_))
    have hS' := hk' S _ hSw hS
    show wpAny _ A.in1 (updateSeq S (fun _ => #[]) >>= _) _ _ _
    refine wpAny_bind ?_
    refine wpAny_updateSeq hS' rfl (wpAny_bind (wpAny_letGo (wpAny_pure ?_)))
    refine hR vb _ tk (by rw [← hin]; exact hPb) fun b o hbw hbS e => (Heap.get?_update_other _ _ (Ne.symm hbS)).trans (hk' b o hbw e)
  | succ k ih =>
    intro j s vb c hk hj hst hPb hS hR
    have hlt : j + 1 < n := by omega
    refine codeAny_builtin PySem.F.entry_max_loop ?_
    rw [Around.under_plainId PySem.F.plain_max_loop _]
    show wpAny _ A.in1 (seqItems? (.ref S) >>= _) _ _ s
    refine wpAny_bind (wpAny_seqItems hS rfl ?_)
    show wpAny _ A.in1 (tryCatch (pyNext (.ref I)) _ >>= _) _ _ s
    refine wpAny_bind (wpAny_tryCatch (W.item (j + 1) s _ _ hlt hst fun v h' tk hP hst' hk' => ?_))
    have hS' := hk' S _ hSw hS
    show wpAny _ A.in1 (tryCatch (holding [v, v] (richCompare .Gt v vb >>= _)) _ >>= _) _ _ _
    refine wpAny_bind (wpAny_tryCatch (wpAny_holding (wpAny_bind (hcmp (j + 1) (argBest bt j) v vb _ _ _ hP hPb ?_))))
    refine wpAny_bind (wpAny_holding (wpAny_truthy_bool ?_))
    refine wpAny_bind (wpAny_letGo (wpAny_pure ?_))
    cases hb : bt (j + 1) (argBest bt j) with
    | true =>
      simp only [if_true]
      refine wpAny_bind ?_
      refine wpAny_updateSeq hS' rfl (wpAny_bind (wpAny_letGo ?_))
      rw [hname]
      refine wpAny_pure ⟨plainId_quiet PySem.F.plain_max_loop _, ih (j + 1) _ v _ (by omega) hlt (W.frame _ _ _ hst' fun b hbf o e => ?_) (by simp only [argBest, hb, if_true]; exact hP) (Heap.get?_update_self _ hS' rfl)
        fun v' h'' tk'' hP' hk'' => ?_⟩
      · exact (Heap.get?_update_other _ _ (fun h : S = b => hSf (by rw [h]; exact hbf))).trans e
      · exact hR v' h'' tk'' hP' fun b o hbw hbS e => hk'' b o hbw hbS ((Heap.get?_update_other _ _ (Ne.symm hbS)).trans (hk' b o hbw e))
    | false =>
      simp only [Bool.false_eq_true, if_false]
      refine wpAny_bind (wpAny_letGo ?_)
      rw [hname]
      refine wpAny_pure ⟨plainId_quiet PySem.F.plain_max_loop _, ih (j + 1) _ vb c (by omega) hlt hst' (by simp only [argBest, hb, Bool.false_eq_true, if_false]; exact hPb) hS' fun v' h'' tk'' hP' hk'' => ?_⟩
      exact hR v' h'' tk'' hP' fun b o hbw hbS e => hk'' b o hbw hbS (hk' b o hbw e)
theorem max_firstD (kw : List (Str × Value)) (W : Walks prog w A.in1 I fp wr n P St) (bt : Nat → Nat → Bool) (hcmp : CmpOf prog w A.in1 .Gt P bt) (S : Addr) (hSf : S ∉ fp) (hn : 0 < n) {s : Shared} {c : Nat} (hst : St 0 s.heap)
    (hS : s.heap.get? S = some { cls := .type "list", dict := none, data := .seq #[] c, slots := #[] })
    (hR : ∀ v h' tk, P (argBest bt (n - 1)) v → (∀ b o, b ∉ wr → b ≠ S → s.heap.get? b = some o → h'.get? b = some o) → R (.ok (.ret v)) { s with heap := h', toks := tk }) :
    codeAny (model prog w) A (.builtin "max.loop" ⟨[.ref I, .none, .ref S], kw⟩) R s := by
  have hSw : S ∉ wr := fun h => hSf (W.sub _ h)
  have hname : (toString "max" ++ toString ".loop" : String) = "max.loop" := by decide
  refine codeAny_builtin PySem.F.entry_max_loop ?_
  rw [Around.under_plainId PySem.F.plain_max_loop _]
  show wpAny _ A.in1 (seqItems? (.ref S) >>= _) _ _ s
  refine wpAny_bind (wpAny_seqItems hS rfl ?_)
  show wpAny _ A.in1 (tryCatch (pyNext (.ref I)) _ >>= _) _ _ s
  refine wpAny_bind (wpAny_tryCatch (W.item 0 s _ _ hn hst fun v h' tk hP hst' hk' => ?_))
  have hS' := hk' S _ hSw hS
  show wpAny _ A.in1 (updateSeq S (fun _ => #[v, v]) >>= _) _ _ _
  refine wpAny_bind ?_
  refine wpAny_updateSeq hS' rfl ?_
  rw [hname]
  refine wpAny_pure ⟨plainId_quiet PySem.F.plain_max_loop _, max_loopD kw W bt hcmp S hSf _ 0 _ v _ rfl hn (W.frame _ _ _ hst' fun b hbf o e => ?_) hP (Heap.get?_update_self _ hS' rfl) fun v' h'' tk'' hP' hk'' => ?_⟩
  · exact (Heap.get?_update_other _ _ (fun h : S = b => hSf (by rw [h]; exact hbf))).trans e
  · exact hR v' h'' tk'' hP' fun b o hbw hbS e => hk'' b o hbw hbS ((Heap.get?_update_other _ _ (Ne.symm hbS)).trans (hk' b o hbw e))
theorem max_noneD {nm : Str} {d : Value} (W : Walks prog w A.in1 I fp wr 0 P St) (S : Addr) (hSf : S ∉ fp) {s : Shared} {c : Nat} (hst : St 0 s.heap)
    (hS : s.heap.get? S = some { cls := .type "list", dict := none, data := .seq #[] c, slots := #[] })
    (hR : ∀ h' tk, (∀ b o, b ∉ wr → b ≠ S → s.heap.get? b = some o → h'.get? b = some o) → R (.ok (.ret d)) { s with heap := h', toks := tk }) :
    codeAny (model prog w) A (.builtin "max.loop" ⟨[.ref I, .none, .ref S], [(nm, d)]⟩) R s := by
  refine codeAny_builtin PySem.F.entry_max_loop ?_
  rw [Around.under_plainId PySem.F.plain_max_loop _]
  show wpAny _ A.in1 (seqItems? (.ref S) >>= _) _ _ s
  refine wpAny_bind (wpAny_seqItems hS rfl ?_)
  show wpAny _ A.in1 (tryCatch (pyNext (.ref I)) _ >>= _) _ _ s
  refine wpAny_bind (wpAny_tryCatch (W.done s _ _ hst fun h' tk hk' => ?_))
  show wpAny _ A.in1 (rule _ >>= _) _ _ _
  refine wpAny_bind (wpAny_rule (wpAny_pure ?_))
  exact hR h' tk fun b o hbw _ e => hk' b o hbw e
end
section
variable {prog : Program} {w : World} {A : Around} {E : Value → Shared → Prop} {s : Shared}
theorem call_tree_kw {id : String} {b : Builtin} {args : List Value} {kw : List (Str × Value)} {Q : Value → Shared → Prop} (hk : builtinKind id = none) (hp : plainId id = true)
    (hb : entryFor table id = some b) (ha : argsOk id ⟨args, kw⟩)
    (hc : wpAny (model prog w) A.in1 (b ⟨args, kw⟩) (fun fin s' => match fin with
      | .done f => (match (Except.ok f : Result) with | .ok (.ret v) => Q v s' | .ok _ => False | .error e => E e s')
      | .again c' => c'.quiet = true ∧ codeAny (model prog w) A c' (fun r s' => match r with | .ok (.ret v) => Q v s' | .ok _ => False | .error e => E e s') s') E s) :
    wpAny (model prog w) A (call (.builtin id) args kw) Q E s := by
  refine wpAny_call (codeAny_call_builtin hp hb ?_)
  simp only [checkBuiltinCall, hk]
  cases hsig : Manifest.signature? id with
  | none => exact wpAny_pure hc
  | some sig =>
    simp only [argsOk, hsig] at ha
    have h2 : Bind.checkArgs id sig ⟨args, kw⟩ = pure () := ha
    show wpAny _ A.in1 (Bind.checkArgs id sig ⟨args, kw⟩) _ _ s
    rw [h2]; exact wpAny_pure hc
theorem args_maxD (a d : Value) : argsOk "max" ⟨[a], [(Str.ofString "default", d)]⟩ := by unfold argsOk; kernel_rfl
theorem max_rawD {l : Addr} {its : List Value} {ns : List Int} {d : Value} {Q : Value → Shared → Prop} (hh : A.handled = none) (hl : s.heap.IsList l its.toArray) (hi : IntsAre its ns)
    (h0 : ns = [] → ∀ h' tk, (∀ b o, s.heap.get? b = some o → h'.get? b = some o) → Q d { s with heap := h', toks := tk })
    (h : ∀ h' tk M t', (∀ b o, s.heap.get? b = some o → h'.get? b = some o) → M ∈ ns → (∀ a, a ∈ ns → a ≤ M) → Q (.int M t') { s with heap := h', toks := tk }) : wpAny (model prog w) A (call (.builtin "max") [.ref l] [(Str.ofString "default", d)]) Q E s := by
  have hname : (toString "max" ++ toString ".loop" : String) = "max.loop" := by decide
  obtain ⟨xs, e⟩ := hi.allInts.items
  have hn : numsOf (intItems xs).toList = ns := by rw [← e]; exact hi.numsOf
  rw [nums_intItems] at hn
  subst hn
  rw [e] at hl
  refine call_tree_kw PySem.F.kind_max PySem.F.plain_max PySem.F.entry_max (args_maxD _ _) ?_
  show wpAny _ A.in1 (Builtin.Builtins.bindParams "max" ["key", "default"] 0 ⟨[], [(Str.ofString "default", d)]⟩ >>= _) _ _ s
  refine wpAny_bind (wpAny_of_eq (show Builtin.Builtins.bindParams "max" ["key", "default"] 0 ⟨[], [(Str.ofString "default", d)]⟩ = pure [none, some d] from by first | rfl | kernel_rfl) ?_)
  refine wpAny_bind (wpAny_pure ?_)
  refine wpAny_bind (iter_intList hl fun s₂ e2 st hfp hlI => ?_)
  subst e2
  refine wpAny_bind (wpAny_newObj_type ?_)
  rw [hname]
  have W := Walks.list (prog := prog) (w := w) (A := A.in1) hh s.heap.objs.size l hlI (intItems xs)
  have hSf : (s.heap.push { cls := .type "list_iterator", data := .fields #[.ref l, .int 0 0] }).objs.size ∉ [s.heap.objs.size, l] := fun hm => Nat.lt_irrefl _ (hfp _ hm)
  by_cases hz : xs.size = 0
  · have W0 : Walks prog w A.in1 s.heap.objs.size [s.heap.objs.size, l] [s.heap.objs.size] 0 (fun i v => (intItems xs)[i]? = some v) (fun i h => h.IsListIter s.heap.objs.size l i ∧ h.IsList l (intItems xs)) := by
      have : (intItems xs).size = 0 := by simpa [intItems] using hz
      rw [this] at W
      exact W
    refine wpAny_pure ⟨plainId_quiet PySem.F.plain_max_loop _, max_noneD W0 _ hSf (W.frame _ _ _ st fun b _ o e => Heap.get?_push_of_some _ e) (Heap.get?_push_size _ rfl) fun h' tk hk => ?_⟩
    refine h0 ?_ h' tk (old_kept fun b o hb eb => hk b o hb (Nat.ne_of_lt (Heap.lt_size eb)) (Heap.get?_push_of_some _ eb))
    apply List.eq_nil_of_length_eq_zero
    rw [List.length_map, Array.length_toList]
    exact hz
  · refine wpAny_pure ⟨plainId_quiet PySem.F.plain_max_loop _, max_firstD _ W (fun i j => decide (numAt xs i > numAt xs j)) (CmpOf.ints_gt (numAt xs) (fun _ _ => intItems_at)) _ hSf (by simpa [intItems] using Nat.pos_of_ne_zero hz) (W.frame _ _ _ st fun b _ o e => Heap.get?_push_of_some _ e) (Heap.get?_push_size _ rfl) fun v h' tk hP hk => ?_⟩
    have hv : (intItems xs)[argBest (fun i j => decide (numAt xs i > numAt xs j)) (xs.size - 1)]? = some v := by simpa [intItems] using hP
    obtain ⟨t, rfl⟩ := intItems_at hv
    obtain ⟨h1, h2⟩ := argBest_gt (numAt xs) (xs.size - 1)
    refine h h' tk _ t (old_kept fun b o hb eb => hk b o hb (Nat.ne_of_lt (Heap.lt_size eb)) (Heap.get?_push_of_some _ eb)) ?_ fun a ha => ?_
    · rw [numAt_eq]; exact PySem.getD_mem (by rw [List.length_map, Array.length_toList]; omega)
    · obtain ⟨j, hj, rfl⟩ := mem_getD ha
      rw [List.length_map, Array.length_toList] at hj
      rw [← numAt_eq]; exact h2 j (by omega)
end
def rMaxDf (K : PySem.W.Frag) : List V → List V → Hp → VK → Prop := fun vs zs H Q => ∃ (a : Addr) (ns : List Int) (d : V), vs = [V.ref a] ∧ zs = [d] ∧ SqL K H a (ns.map V.int) ∧ (ns = [] → Q d H) ∧ ∀ m, m ∈ ns → (∀ y, y ∈ ns → y ≤ m) → Q (.int m) H
theorem cr_maxDf {X : Cx} (hc : X.calm = true) : CallRK X (.builtin "max") [Str.ofString "default"] (rMaxDf X.K) := by
  intro pins s σ H vs zs us ws Q I r rz h
  obtain ⟨a, ns, d, rfl, rfl, hs, q0, q⟩ := h
  obtain ⟨its, rv, hl, _⟩ := I.list hs
  obtain rfl := Vals.ref1 r
  obtain ⟨w1, rfl, e1⟩ := vals1 rz
  exact max_rawD (I.ok.hd hc) hl.isList rv.ints (fun e h' tk hk => ⟨d, H, I.kept hk, e1, q0 e⟩) fun h' tk m t' hk h1 h2 => ⟨.int _, H, I.kept hk, ⟨_, rfl⟩, q m h1 h2⟩
def dMaxDf (t tk : DA) : DE := fun g O R => t g O fun xs O1 => tk g O1 fun zs O2 => match xs, zs with | [x], [d] => (match lstOf O2 x with | some ys => (match intsOf ys with | some ns => if ns = [] then R d O2 else R (.int (mxI ns)) O2 | none => False) | none => False) | _, _ => False
section
variable {X : Cx} {e : Expr} {es : List Expr} {kws : List Keyword} {t tk : DA} {n m : Nat} {p pos : Pos}
theorem e_maxDf (hm : X.mg "max" = none) (hcm : X.calm = true) (ha : PA X (e :: es) (lowA X.K n t)) (hk : PK X kws (lowA X.K m tk)) (hg : Gl X "max" := by rfl)
    (he : backTo pos (starEach (e :: es) X.env) = (false, eval e X.env) :: backTo pos (starEach es X.env) := by rfl) (hpl : (backTo pos (starEach (e :: es) X.env)).any (·.1) = false := by rfl)
    (hall : (backToKw pos (keywordEach kws X.env)).all (·.1.isSome) = true := by rfl) (hnone : (backToKw pos (keywordEach kws X.env)).any (·.1.isNone) = false := by rfl) (hks : (backToKw pos (keywordEach kws X.env)).filterMap (·.1) = [Str.ofString "default"] := by rfl) :
    PE X (.Call (.Name "max" p) (e :: es) kws pos) (lowE X.K (dMaxDf t tk)) :=
  PE.by (pe_callBK (cr_maxDf hcm) hg hm (by decide +kernel) ha hk (by decide) (by decide) he hpl hall hnone hks) fun s H Q ⟨G, O, g, R, rl, gr, h, k⟩ =>
    ⟨G, O, g, _, rl, gr, h, fun xs O1 vs G1 H1 go1 vr1 hl1 q1 => ⟨G1, O1, g, _, go1.rel, gr.mono go1.ex, q1, fun zs O2 ws G2 H2 go2 vr2 hl2 q2 => by
      match xs, zs, vr1, vr2, q2 with
      | [x], [d], vr1, vr2, q2 =>
        obtain ⟨v, rfl, hv⟩ := vr1.one
        obtain ⟨u, rfl, hu⟩ := vr2.one
        have q2 : (match lstOf O2 x with | some ys => (match intsOf ys with | some ns => if ns = [] then R d O2 else R (.int (mxI ns)) O2 | none => False) | none => False) := q2
        cases e1 : lstOf O2 x with
        | none => simp only [e1] at q2
        | some ys =>
          simp only [e1] at q2
          cases e2 : intsOf ys with
          | none => simp only [e2] at q2
          | some ns =>
            simp only [e2] at q2
            obtain ⟨a, rfl, hq⟩ := go2.rel.ints (hv.mono go2.ex) e1 e2
            refine ⟨a, ns, u, rfl, rfl, hq, fun z => ?_, fun m hm hy => ?_⟩
            · rw [if_pos z] at q2
              exact k _ _ _ _ _ (go1.trans rl go2) hu q2
            · have hne : ns ≠ [] := fun z => by rw [z] at hm; simp at hm
              rw [if_neg hne] at q2
              have : m = mxI ns := by have := le_mxI hm; have := hy _ (mxI_mem hne); omega
              rw [this]
              exact k _ _ _ _ _ (go1.trans rl go2) (.int _) q2⟩⟩
end
end DL
set_option Elab.async false
set_option linter.all false
set_option maxRecDepth 100000
set_option maxHeartbeats 2000000
namespace DL
open PySem PySem.Spec PyProof.Rows L2
open Evl (Ex)
/-! ### list + list, whatever they are -/
def rCatL (K : PySem.W.Frag) : R2 := fun x y H Q => ∃ l b xs zs, x = .ref l ∧ y = .ref b ∧ SqL K H l xs ∧ SqL K H b zs ∧ xs.length + zs.length ≤ sizeLine ∧ ∀ p, H p = none → Q (.ref p) (upd H p (.lst (xs ++ zs)))
theorem op_catL {X : Cx} : OpR X (binaryOp .Add) (rCatL X.K) := by
  intro pins s σ H x y v u Q I rx ry h
  obtain ⟨l, b, xs, zs, rfl, rfl, hH, hB, hz, q⟩ := h
  cases rx
  cases ry
  obtain ⟨its, r, p, _⟩ := I.list hH
  obtain ⟨its2, r2, p2, _⟩ := I.list hB
  obtain ⟨⟨cls, dd, data, sl⟩, n, ho, hc, hdd, hd⟩ := p
  obtain ⟨⟨cls2, dd2, data2, sl2⟩, n2, ho2, hc2, hdd2, hd2⟩ := p2
  simp only at hc hd hdd hc2 hd2 hdd2
  subst hc hd hc2 hd2
  have l1 := r.length
  have l2 := r2.length
  refine concat_meets ⟨_, ho, rfl⟩ ⟨_, ho2, rfl⟩ noFill_list_add seq_list_add PySem.F.slot_list_add PySem.F.entry_list_add (PySem.F.args_list_add_2 _ _) (list_addW l b its.toArray its2.toArray n n2 dd dd2 sl sl2 (by simp; omega)) ⟨ho, ho2, ?_⟩
  have ea : its.toArray ++ its2.toArray = (its ++ its2).toArray := by simp
  rw [ea]
  exact ⟨.ref _, _, I.lnew (t' := s.toks) (r.append r2) (by rw [List.length_append]; omega), rfl, q _ I.fresh⟩
def dCat : D2 := fun x y O R => match lstOf O x, lstOf O y with | some xs, some ys => xs.length + ys.length ≤ sizeLine ∧ ∀ p, O p = none → R (.ref p) (up O p (.lst (xs ++ ys))) | _, _ => False
def dCatF : D2 := fun x y O R => match lstOf O x, lstOf O y with | some xs, some ys => xs.length + ys.length ≤ sizeLine ∧ R (.lst (xs ++ ys)) O | _, _ => False
section
variable {X : Cx} {K : PySem.W.Frag} {a b c : Expr} {ta tb tc : DE} {pos : Pos}
theorem sCat : OpS K (rCatL K) dCat := fun {G O H x y v u R Q} rl hx hy h k => by
  unfold dCat at h
  cases e1 : lstOf O x with
  | none => simp only [e1] at h
  | some xs =>
    cases e2 : lstOf O y with
    | none => simp only [e1, e2] at h
    | some ys =>
      simp only [e1, e2] at h
      obtain ⟨p, vs, rfl, hq, hv⟩ := rl.lstOf hx e1
      obtain ⟨p2, ws, rfl, hq2, hv2⟩ := rl.lstOf hy e2
      exact ⟨p, p2, vs, ws, rfl, rfl, hq, hq2, by rw [hv.length, hv2.length]; exact h.1, k.lst rl (hv.append hv2) h.2⟩
theorem sCatF : OpS K (rCatL K) dCatF := fun {G O H x y v u R Q} rl hx hy h k => by
  unfold dCatF at h
  cases e1 : lstOf O x with
  | none => simp only [e1] at h
  | some xs =>
    cases e2 : lstOf O y with
    | none => simp only [e1, e2] at h
    | some ys =>
      simp only [e1, e2] at h
      obtain ⟨p, vs, rfl, hq, hv⟩ := rl.lstOf hx e1
      obtain ⟨p2, ws, rfl, hq2, hv2⟩ := rl.lstOf hy e2
      exact ⟨p, p2, vs, ws, rfl, rfl, hq, hq2, by rw [hv.length, hv2.length]; exact h.1, k.lstF rl (hv.append hv2) h.2⟩
theorem e_cat (ha : PE X a (lowE X.K ta)) (hb : PE X b (lowE X.K tb)) : PE X (.BinOp a .Add b pos) (lowE X.K (dOp dCat ta tb)) := e_op op_catL sCat ha hb
theorem e_catF (ha : PE X a (lowE X.K ta)) (hb : PE X b (lowE X.K tb)) : PE X (.BinOp a .Add b pos) (lowE X.K (dOp dCatF ta tb)) := e_op op_catL sCatF ha hb
end
/-! ### xs.extend(ys), ys any list -/
theorem list_extendW (l : Addr) (items : Array Value) (n : Nat) (b : Addr) (items2 : Array Value) (n2 : Nat) (dd2 : Option Addr) (sl2 : Array (Option Value)) (hc0 : ¬(!items.isEmpty && Builtin.List.listTooLong (items.size + items2.size)) = true) (hc1 : items.size ≤ sizeLine) (hs2 : items.size + items2.size ≤ sizeLine + 1) :
    Meets (Builtin.«list.extend» ⟨[.ref l, .ref b], []⟩) (fun _ R s => s.heap.get? l = some { cls := .type "list", dict := none, data := .seq items n, slots := #[] } ∧ s.heap.get? b = some { cls := .type "list", dict := dd2, data := .seq items2 n2, slots := sl2 } ∧ R (.ok (.ret Value.none)) { s with heap := s.heap.update l (Obj.mapSeq fun x => x ++ items2), toks := s.toks }) :=
  .of_wp fun prog w A R s h => by
    obtain ⟨hp, g, d, tk, os⟩ := s; obtain ⟨hl, hb, h⟩ := h; have f1 := AutoSeq1.idx_int; have f2 := AutoSeq1.sub_tuple_tuple; have f3 := AutoSeq1.sub_list_list; have f4 := AutoSeq1.sub_tuple_list; have f5 := AutoSeq1.sub_list_tuple;
    have hz' : (items ++ items2).size ≤ sizeLine + 1 := by rw [Array.size_append]; exact hs2
    wp_walk using (wpAny_updateSeq hl rfl (hz := hc1) (_hz' := hz')), AutoSeq1.wpAny_loadPart' hl, AutoSeq1.wpAny_loadPart' hb; exact ⟨_, rfl, h⟩
def rExtendL (K : PySem.W.Frag) : V → List V → Hp → VK → Prop := fun x vs H Q => ∃ l b xs zs, x = .ref l ∧ vs = [.ref b] ∧ H l = some (.lst xs) ∧ SqL K H b zs ∧ xs.length + zs.length ≤ sizeLine ∧ Q .non (upd H l (.lst (xs ++ zs)))
theorem mt_extendL {X : Cx} : MtM X "list.extend" (rExtendL X.K) := by
  intro pins s σ H x vs v us Q I rx rv h
  obtain ⟨l, b, xs, zs, rfl, rfl, hH, hB, hz, q⟩ := h
  cases rx
  obtain ⟨u, rfl, ru⟩ := rv.one
  cases ru
  obtain ⟨z, its, n, r, hl, e⟩ := I.lstM hH
  obtain ⟨its2, r2, p2, _⟩ := I.list hB
  obtain ⟨⟨cls2, dd2, data2, sl2⟩, n2, ho2, hc2, hdd2, hd2⟩ := p2
  simp only at hc2 hd2 hdd2
  subst hc2 hd2
  have hl2 := r2.length
  have hsz : its.toArray.size + its2.toArray.size ≤ sizeLine := by rw [List.size_toArray, List.size_toArray]; omega
  have hlong : ¬ (!its.toArray.isEmpty && Builtin.List.listTooLong (its.toArray.size + its2.toArray.size)) = true := by
    rw [notLongL hsz, Bool.and_false]
    exact Bool.false_ne_true
  refine call_meets PySem.F.slot_list_extend ⟨_, e, rfl⟩ PySem.F.entry_list_extend (PySem.F.args_list_extend_2 _ _)
    (list_extendW l its.toArray n b its2.toArray n2 dd2 sl2 hlong (by rw [List.size_toArray]; omega) (by omega)) ⟨e, ho2, ?_⟩
  refine ⟨.non, _, I.lset (its' := its ++ its2) hH e (by simp) (r.append r2) ?_, rfl, q⟩
  rw [List.length_append]
  omega
def dExtL : DM := fun x vs O R => match x, vs with | .ref a, [y] => (match O a, lstOf O y with | some (.lst xs), some ys => xs.length + ys.length ≤ sizeLine ∧ R .non (up O a (.lst (xs ++ ys))) | _, _ => False) | _, _ => False
theorem sExtL {K : PySem.W.Frag} : MtS K (rExtendL K) dExtL := fun {G O H x xs v vs R Q} rl hx hv h k => by
  match x, xs, hx, hv, h with
  | .ref a, [y], hx, hv, h =>
    cases hx
    obtain ⟨u, rfl, hu⟩ := hv.one
    have h : (match O a, lstOf O y with | some (.lst xs), some ys => xs.length + ys.length ≤ sizeLine ∧ R .non (up O a (.lst (xs ++ ys))) | _, _ => False) := h
    cases e1 : O a with
    | none => simp only [e1] at h
    | some o1 =>
      cases e2 : lstOf O y with
      | none => simp only [e1, e2] at h
      | some ys =>
        cases o1 with
        | lst xs =>
          simp only [e1, e2] at h
          obtain ⟨ws, h1, h2⟩ := rl.lst e1
          obtain ⟨b, zs, rfl, h3, h4⟩ := rl.lstOf hu e2
          exact ⟨a, b, ws, zs, rfl, rfl, h1, h3, by rw [h2.length, h4.length]; exact h.1, k _ _ _ _ _ (Go.write rl (o := .lst (xs ++ ys)) (u := .lst (ws ++ zs)) e1 (h2.append h4)) .non h.2⟩
        | _ => simp only [e1, e2] at h
end DL
set_option Elab.async false
set_option linter.all false
set_option maxRecDepth 100000
set_option maxHeartbeats 2000000
namespace DL
open PySem PySem.Spec PyProof.Rows L2
open Evl (Ex)
/-! ### {(a, b): v for ..}: the proof goes as the layer's own one for keys that are numbers or texts -/
section
variable {X : Cx}
theorem d_dictSetT {pins : List (Addr × Obj)} {σ : L2.St} {H : Hp} {s : Shared} {E : Value → Shared → Prop} {D b : Addr} {kvs : List (List Key × V)} {k : List Key} {v : V} {r : Value} {Q : Unit → Shared → Prop} (hu : X.A.units + 1 < cLine) (I : Inv X pins σ H s) (hD : H D = some (.dT kvs)) (eb : H b = some (.tup (k.map kV))) (hz : kvs.length < sizeLine)
    (rv : RelV v r) (h : ∀ s', Inv X pins σ (upd H D (.dT (putK kvs k v))) s' → Q () s') : wpAny (model X.prog X.w) X.A (dictSet D (.ref b) r) Q E s := by
  obtain ⟨z, hd, xs, rel, dd⟩ := dt_of I.hok hD
  have hzv : xs.length ≤ sizeLine := by rw [← Paired.length rel]; exact z
  have hl : (putK kvs k v).length ≤ sizeLine := by have := length_putK kvs k v; omega
  refine wpAny_dictSet_heap (hsz := hzv) (show (tupleKind (mixKind X.prog X.w)).room X.A from (show X.A.units < cLine by omega)) (key_of I.hok eb) dd fun h' dd' hs => h _ ?_
  obtain ⟨q, es, ep, hq, h2, h3, h4, _, h5⟩ := dd'
  refine d_write I (by rw [hD]; exact True.intro) hs ⟨q, hq⟩ ⟨hl, hd, _, (rel.put k eb rv).keeps fun c ys ec => ?_, q, es, ep, hq, h2, h3, h4, h5⟩
  rw [upd_ne (ne_of ec hD (fun z => nomatch z))]
  exact ec
def tDcT (wi : TI) (g : TG) (tt : TT) (tk tv : TE) (vs : List Nat) : TE := fun σ H Q => wi σ H fun J H1 => ∀ D, H1 D = none → ∃ W : Nat → Nat → Hp → Prop, (∃ m, W 0 m (upd H1 D (.dT []))) ∧ ∀ i m H, W i m H →
  (J.stop i H ∧ Q (.ref D) H) ∨ (J.go i H ∧ ∃ Nx : Hp → Prop, (∀ H', Nx H' → ∃ m', m' < m ∧ W (i + 1) m' H') ∧ ∀ x H', J.yld i H x H' → g x (wipe σ vs) H' fun σ2 H2 => wipe σ2 vs = wipe σ vs ∧ tt σ2 H2 fun b H3 =>
    if b = true then tk σ2 H3 fun y H4 => tv σ2 H4 fun z H5 => ∃ kvs k q, y = .ref q ∧ H5 q = some (.tup (k.map kV)) ∧ H5 D = some (.dT kvs) ∧ kvs.length < sizeLine ∧ Nx (upd H5 D (.dT (putK kvs k z))) else Nx H3)
theorem dcT_core {pins : List (Addr × Obj)} {s : Shared} {σ : L2.St} {H : Hp} {Q : VK} {kx vx tg iter : Expr} {ifs : List Expr} {scope : Scope} {own : List (Str × Nat)} {pos pos' : Pos} {wi : TI} {g : TG} {tt : TT} {tk tv : TE} {use : Option (Value → Sem Unit)} {Qf : Value → Shared → Prop}
    (hu : X.A.units + 1 < cLine) (hc : X.calm = true) (hN : X.N.Nodup) (I : Inv X pins σ H s) (hi : PI X tg iter wi) (ok : BlkOk X.N X.env.scope scope own)
    (hg : ∀ (s : Shared) (H : Hp) (C : Addr) (cl : List (Str × Addr)) (fp : List Addr), PG (X.blk s H scope (compEnvC scope cl C X.env) fp) tg g) (ht : ∀ (s : Shared) (H : Hp) (C : Addr) (cl : List (Str × Addr)) (fp : List Addr), PTs (X.blk s H scope (compEnvC scope cl C X.env) fp) ifs tt)
    (hk : ∀ (s : Shared) (H : Hp) (C : Addr) (cl : List (Str × Addr)) (fp : List Addr), PE (X.blk s H scope (compEnvC scope cl C X.env) fp) kx tk)
    (he : ∀ (s : Shared) (H : Hp) (C : Addr) (cl : List (Str × Addr)) (fp : List Addr), PE (X.blk s H scope (compEnvC scope cl C X.env) fp) vx tv) (hs : ∀ x, foldedSetIterable iter X.env x = pure x)
    (h : tDcT wi g tt tk tv (own.map (·.2)) σ H Q)
    (hRR : ∀ D C s' m H', Inv X pins σ H' s' → Q (.ref D) H' → s'.heap.Ns C m → FpOk X pins H' C → compPost (model X.prog X.w) X.A X.xe use Qf (.ref D) C (.ok .next) s') :
    wpAny (model X.prog X.w) X.A (comprehension (.DictComp kx vx [⟨tg, iter, ifs, 0⟩] scope pos) scope X.env pos' newDict false (eval iter X.env) use) Qf X.xe s := by
  have hfree : ∀ y ∈ scope.names, y.2 = .free → ∃ c, X.env.cells.lookup y.1 = some c := fun y hy e => by
    rcases ok.free y hy e with k | k
    · exact I.ok.has _ (.inl k)
    · exact I.ok.has _ (.inr k)
  refine wpAny_comprehension_free (use := use) rfl hs (closure_ok hfree) ok.kind (fun y hy e => by rw [ok.uniq y hy, e])
    (thn (hi.run pins s σ H _ I h) fun xv s1 hx => thn hx fun itv s2 h2 => ?_)
  obtain ⟨it, fp, tn, J, H2, e, I2, T, st2, f2, q⟩ := h2
  subst e
  refine wpAny_newObj_type (newEnv_comp ?_)
  generalize hD : s2.heap.objs.size = D
  have hDn : H2 D = none := I2.hok.fresh (Nat.le_of_eq hD)
  obtain ⟨W, ⟨m0, w0⟩, turn⟩ := q D hDn
  -- the new list
  generalize hs3 : ({ s2 with heap := s2.heap.push { cls := .type "dict", data := .dict #[] } } : Shared) = s3
  have I3 : Inv X pins σ (upd H2 D (.dT [])) s3 := by
    rw [← hs3]
    refine I2.laid (t' := s2.toks) (fun b o e => Heap.get?_push_of_some _ e) (Nat.le_of_eq hD) ?_
    rw [← hD]
    exact dt_empty s2.heap I2.big
  have h3 : s3.heap = s2.heap.push { cls := .type "dict", data := .dict #[] } := by rw [← hs3]
  have sz : ∀ b ∈ fp, b < s2.heap.objs.size := fun b hb => by
    obtain ⟨o, e, _⟩ := T.obj _ _ st2 b hb
    exact Heap.lt_size e
  have f3 : ∀ b ∈ fp, FpOk X pins (upd H2 D (.dT [])) b ∧ b < s3.heap.objs.size := fun b hb => by
    have hlt := sz b hb
    refine ⟨⟨?_, (f2 b hb).2⟩, by rw [h3, Heap.size_push]; exact Nat.lt_succ_of_lt hlt⟩
    rw [upd_ne (by rw [← hD]; exact Nat.ne_of_lt hlt)]
    exact (f2 b hb).1
  have st3 : tn 0 s3.heap := T.keep _ _ _ st2 fun b _ o e => by rw [h3]; exact Heap.get?_push_of_some _ e
  have I4 := block_start I3 ok hN f3
  have pg := hg s3 (upd H2 D (.dT [])) s3.heap.objs.size (cellsFrom (s3.heap.objs.size + 1) scope.names (cloFrom X.env.cells scope.names [])) fp
  have pt := ht s3 (upd H2 D (.dT [])) s3.heap.objs.size (cellsFrom (s3.heap.objs.size + 1) scope.names (cloFrom X.env.cells scope.names [])) fp
  have pk := hk s3 (upd H2 D (.dT [])) s3.heap.objs.size (cellsFrom (s3.heap.objs.size + 1) scope.names (cloFrom X.env.cells scope.names [])) fp
  have pe := he s3 (upd H2 D (.dT [])) s3.heap.objs.size (cellsFrom (s3.heap.objs.size + 1) scope.names (cloFrom X.env.cells scope.names [])) fp
  show codeAny _ _ (.compStart (.DictComp kx vx [⟨tg, iter, ifs, 0⟩] scope pos) 0 (.ref it) (.ref D) (compEnvC scope (cellsFrom (s3.heap.objs.size + 1) scope.names (cloFrom X.env.cells scope.names [])) s3.heap.objs.size X.env)) (compPost (model X.prog X.w) X.A X.xe use Qf (.ref D) s3.heap.objs.size) { s3 with heap := pushCells (s3.heap.push { cls := .type "dict", data := .dict #[] }) scope.names }
  have nfp : ∀ b ∈ fp, (upd H2 D (.dT [])) b = none := fun b hb => (f3 b hb).1.1
  generalize hce : compEnvC scope (cellsFrom (s3.heap.objs.size + 1) scope.names (cloFrom X.env.cells scope.names [])) s3.heap.objs.size X.env = ce at I4 pg pt pk pe ⊢
  have cL : ce.locals = s3.heap.objs.size := by subst hce; rfl
  generalize hH3 : upd H2 D (.dT []) = H3 at I3 I4 pg pt pk pe w0 nfp f3
  generalize hs4 : ({ s3 with heap := pushCells (s3.heap.push { cls := .type "dict", data := .dict #[] }) scope.names } : Shared) = s4 at I4 ⊢
  have st4 : tn 0 s4.heap := T.keep _ _ _ st3 fun b _ o e => by rw [← hs4]; exact pushCells_keeps _ _ _ _ (Heap.get?_push_of_some _ e)
  have stat : ∀ {σ' : L2.St} {H' : Hp} {s' : Shared}, Inv (X.blk s3 H3 scope ce fp) [] σ' H' s' → (∀ b ∈ fp, H' b = none) → ∀ b ∈ fp, FpOk (X.blk s3 H3 scope ce fp) [] H' b := fun {σ' H' s'} I' hn b hb =>
    ⟨hn b hb, (I'.ok.exf b hb).1, I'.ok.exfs b hb, .inl hb, fun x c e => (I'.ok.exf b hb).2 x c e, fun p hp => absurd (show p ∈ ([] : List (Addr × Obj)) ++ [] from hp) (by simp)⟩
  have loop : codeAny (model X.prog X.w) X.A (.compLoop (.DictComp kx vx [⟨tg, iter, ifs, 0⟩] scope pos) 0 (.ref it) (.ref D) ce) (compPost (model X.prog X.w) X.A X.xe use Qf (.ref D) s3.heap.objs.size) s4 := by
    refine compLoop_anyD (fun n s' => ∃ i H', Inv (X.blk s3 H3 scope ce fp) [] (wipe σ (own.map (·.2))) H' s' ∧ tn i s'.heap ∧ (∀ b ∈ fp, H' b = none) ∧ W i n H') ?_ m0 ⟨0, H3, I4, st4, nfp, w0⟩
    rintro n s5 ⟨i, H5, I5, st5, n5, w5⟩
    rcases turn i n H5 w5 with ⟨stop, qq⟩ | ⟨go, Nx, hNx, step⟩
    · have td := T.done (X.blk s3 H3 scope ce fp) rfl rfl rfl hc i [] s5 _ H5 (fun _ _ => False) I5 (stat I5 n5) st5 stop
      refine thnF td fun r s6 ⟨hr, I6⟩ => ?_
      subst hr
      -- back in the def's context
      have I7 : Inv X pins σ H5 s6 := I3.call' (ch := fp) I6.os I6.base I6.hok I6.bare fun b hb => ⟨(f3 b hb).1.2.2.2.1, (f3 b hb).1.2.1, (f3 b hb).1.2.2.2.2.1, (f3 b hb).1.2.2.2.2.2⟩
      have nC : H5 s3.heap.objs.size = none := by
        have z : H5 ce.locals = none := I6.free
        rw [cL] at z
        exact z
      obtain ⟨m, hn, _⟩ := I6.loc
      have hn : s6.heap.Ns ce.locals m := hn
      rw [cL] at hn
      exact hRR D s3.heap.objs.size s6 m H5 I7 qq hn (I3.fpOk (Nat.le_refl _) nC)
    · have ti := T.item (X.blk s3 H3 scope ce fp) rfl rfl rfl hc i [] s5 _ H5 (fun _ _ => False) I5 (stat I5 n5) st5 go
      refine thnF ti fun r s6 ⟨u, hr, h6⟩ => ?_
      subst hr
      refine thnF h6 fun _ s7 ⟨x, H7, I7, r7, y7, st7, n7⟩ => ?_
      have I7' := I7.pinned (stat I7 n7) (T.obj _ _ st7)
      refine thnF (pg.run _ s7 _ H7 x u _ I7' r7 (step x H7 y7)) fun _ s8 ⟨σ8, H8, I8, hw8, q8⟩ => ?_
      refine thnF (pt.run _ s8 σ8 H8 _ I8 q8) fun b s9 ⟨H9, I9, q9⟩ => ?_
      -- the turn's end
      have fin : ∀ {s' : Shared} {H' : Hp}, Inv (X.blk s3 H3 scope ce fp) ([] ++ pinsAt fp s7.heap) σ8 H' s' → Nx H' → ∃ m, m < n ∧ ∃ i H', Inv (X.blk s3 H3 scope ce fp) [] (wipe σ (own.map (·.2))) H' s' ∧ tn i s'.heap ∧ (∀ b ∈ fp, H' b = none) ∧ W i m H' := fun {s' H'} I' nx => by
        obtain ⟨m', hm, w'⟩ := hNx H' nx
        have pin' : ∀ b ∈ fp, ∀ o, s7.heap.get? b = some o → s'.heap.get? b = some o ∧ H' b = none := fun b hb o e =>
          let z := I'.pin (b, o) (List.mem_append_right _ (List.mem_append_right _ (mem_pinsAt hb e)))
          ⟨z.1, z.2.1⟩
        have hl : (wipe σ (own.map (·.2))).length = σ8.length := by rw [← hw8, wipe_length]
        refine ⟨m', hm, i + 1, H', (I'.unpinned (pins := [])).weak hl (fun j v e => ?_), T.keep _ _ _ st7 fun b hb o e => (pin' b hb o e).1, fun b hb => ?_, w'⟩
        · rw [← hw8] at e
          exact (wipe_some e).1
        · obtain ⟨o, e, _⟩ := T.obj _ _ st7 b hb
          exact (pin' b hb o e).2
      cases b with
      | false =>
        simp only [Bool.false_eq_true, if_false] at q9 ⊢
        exact fin I9 q9
      | true =>
        simp only [if_true] at q9 ⊢
        refine thnF (pk.run _ s9 σ8 H9 _ I9 q9) fun z s10 ⟨yk, H10, I10, r10, q10⟩ => ?_
        refine thnF (pe.run _ s10 σ8 H10 _ I10 q10) fun z2 s11 ⟨yv, H11, I11, r11, kvs, k, q, ek, eq, hD11, hz11, nx⟩ => ?_
        subst ek
        obtain rfl : z = Value.ref q := r10
        exact d_dictSetT (X := X.blk s3 H3 scope ce fp) hu I11 hD11 eq hz11 r11 fun s12 I12 => fin I12 nx
  exact codeAny_compStart_dict loop (T.self X.A 0 _ _ _ st4 loop)
theorem ps_setDcT {i : Nat} {y : Str} {py : Pos} {kx vx tg iter : Expr} {ifs : List Expr} {scope : Scope} {own : List (Str × Nat)} {pos spos : Pos} {wi : TI} {g : TG} {tt : TT} {tk tv : TE} (hu : X.A.units + 1 < cLine) (hc : X.calm = true) (hN : X.N.Nodup) (hy : X.N[i]? = some y) (hyl : X.env.scope.names.lookup y = some .local)
    (hsw : swapsWith (.DictComp kx vx [⟨tg, iter, ifs, 0⟩] scope pos) (some (.Name y py)) spos.line X.env = pure true) (hi : PI X tg iter wi) (ok : BlkOk X.N X.env.scope scope own)
    (hg : ∀ (s : Shared) (H : Hp) (C : Addr) (cl : List (Str × Addr)) (fp : List Addr), PG (X.blk s H scope (compEnvC scope cl C X.env) fp) tg g) (ht : ∀ (s : Shared) (H : Hp) (C : Addr) (cl : List (Str × Addr)) (fp : List Addr), PTs (X.blk s H scope (compEnvC scope cl C X.env) fp) ifs tt)
    (hk : ∀ (s : Shared) (H : Hp) (C : Addr) (cl : List (Str × Addr)) (fp : List Addr), PE (X.blk s H scope (compEnvC scope cl C X.env) fp) kx tk)
    (he : ∀ (s : Shared) (H : Hp) (C : Addr) (cl : List (Str × Addr)) (fp : List Addr), PE (X.blk s H scope (compEnvC scope cl C X.env) fp) vx tv) (hs : ∀ x, foldedSetIterable iter X.env x = pure x := by intro _; rfl) :
    PS X (.Assign [.Name y py] (.DictComp kx vx [⟨tg, iter, ifs, 0⟩] scope pos) spos) (tAsg (tDcT wi g tt tk tv (own.map (·.2))) (gName i)) := by
  refine ⟨fun pins s σ H D I h => ?_⟩
  rw [exec_Assign_Name_used _ _ _ _ hsw]
  refine wpAny_bind (wpAny_standAt (wpAny_bind ?_))
  show wpAny _ X.A (do let _ ← comprehension (.DictComp kx vx [⟨tg, iter, ifs, 0⟩] scope pos) scope X.env (firstIterPos [⟨tg, iter, ifs, 0⟩] pos) newDict false (eval iter X.env) (some (assign (.Name y py) X.env))) _ _ s
  have h : tDcT wi g tt tk tv (own.map (·.2)) σ H (fun x H1 => gName i x σ H1 D.nx) := h
  refine wpAny_bind (thn (dcT_core (Qf := fun _ s' => SP X pins D .next s') hu hc hN I hi ok hg ht hk he hs h fun L C s' m H' I' q hn f => ?_) fun _ s' hq => wpAny_pure (wpAny_pure hq))
  show wpAny _ _ (assign (.Name y py) X.env (.ref L)) _ _ _
  refine wpAny_assign_Name (store_ok2 (v := V.ref L) I' hN hy (.inl hyl) rfl (fun s2 I2 ⟨a, sb, ha⟩ => ?_) (.inr hyl))
  obtain ⟨f0, f1, f2, f3, f4, f5⟩ := f
  have haC : C ≠ a := by
    rcases ha with z | z
    · rw [z]; exact f1
    · exact fun e => f4 y a z e.symm
  refine ⟨m, hn.sameBut sb haC, fun h3 sb3 => ?_⟩
  exact ⟨_, H', I2.turned (t' := s2.toks) (fun b o hb e => (sb3.2 b hb).trans e) f0 f1 f3 f4 f5, q⟩
end
def dCompT (u : DG) (tt : DT) (tA : DA) (tv : DE) (ok : Om → Prop) (g : Gm) (R : List (List Key × D) → Om → Prop) : List D → List (List Key × D) → Om → Prop
  | [], acc, O => ok O ∧ R acc O
  | x :: xs, acc, O => ok O ∧ u x g O fun g1 O1 => tt g1 O1 fun b O2 => if b = true then tA g1 O2 fun ks O3 => tv g1 O3 fun y O4 => (∃ k, keysOf ks = some k ∧ acc.length < sizeLine ∧ dCompT u tt tA tv ok g R xs (putD acc k y) O4) else dCompT u tt tA tv ok g R xs acc O2
def dDcT (it : DI) (u : DG) (tt : DT) (tA : DA) (tv : DE) (vs : List Nat) : DE := fun g O R => it g O fun xs ok O1 => dCompT u tt tA tv ok (wipeD g vs) (fun es O2 => ∀ p, O2 p = none → R (.ref p) (up O2 p (.dT es))) xs [] O1
theorem low_dcT {K : PySem.W.Frag} {it : DI} {u : DG} {tt : DT} {tA : DA} {tv : DE} {vs : List Nat} {n : Nat} (hn : n ≤ 1000) : ∀ s H Q, lowE K (dDcT it u tt tA tv vs) s H Q → tDcT (lowI K it) (lowGw K vs u) (lowT K tt) (tTup (lowA K n tA)) (lowE K tv) vs s H Q := fun s H Q ⟨G, O, g, R, rl, gr, h, k⟩ => by
  refine ⟨G, O, g, _, rl, gr, h, fun xs ok O1 J G1 H1 go1 ir q1 => ?_⟩
  intro Dl hD
  obtain ⟨hO, hG⟩ := go1.rel.fresh hD
  have g0 : Go K G1 O1 H1 G1 (up O1 Dl (.dT [])) (upd H1 Dl (.dT [])) := Go.new go1.rel (o := .dT []) (u := .dT []) hD .nil
  have less : ∀ {O' : Om} {o : DO}, O' Dl = none → ∀ a w, O' a = some w → up O' Dl o a = some w := fun {O' o} n a w e => by rw [up_ne (fun z => by subst z; rw [n] at e; cases e)]; exact e
  refine ⟨fun i m H' => ∃ G' O' acc, Go K G1 O1 H1 G' (up O' Dl (.dT acc)) H' ∧ O' Dl = none ∧ dCompT u tt tA tv ok (wipeD g vs) (fun es O2 => ∀ p, O2 p = none → R (.ref p) (up O2 p (.dT es))) (xs.drop i) acc O' ∧ m = xs.length - i ∧ i ≤ xs.length,
    ⟨_, G1, O1, [], g0, hO, q1, rfl, Nat.zero_le _⟩, ?_⟩
  rintro i m H2 ⟨G2, O2, acc, go2, nO2, q2, hm, hi⟩
  have r2 : Rel K G2 O2 H2 := go2.rel.less (less nO2)
  obtain ⟨nG2, uu, hh, qq⟩ := go2.rel.o Dl _ up_same
  cases e : xs.drop i with
  | nil =>
    rw [e] at q2
    have hl : xs.length = i := by
      have := congrArg List.length e
      rw [List.length_drop, List.length_nil] at this
      omega
    refine .inl ⟨?_, k _ _ _ _ _ (go1.trans rl go2) (.ref Dl) (q2.2 Dl nO2)⟩
    rw [← hl]
    exact ir.stop G2 O2 H2 go2.ex r2 q2.1
  | cons x r =>
    rw [e] at q2
    obtain ⟨hx, hr⟩ := drop_cons e
    have hlt : i < xs.length := (List.getElem?_eq_some_iff.mp hx).1
    refine .inr ⟨ir.go i x G2 O2 H2 hx go2.ex r2 q2.1, fun H' => ∃ G' O' acc, Go K G1 O1 H1 G' (up O' Dl (.dT acc)) H' ∧ O' Dl = none ∧ dCompT u tt tA tv ok (wipeD g vs) (fun es O2 => ∀ p, O2 p = none → R (.ref p) (up O2 p (.dT es))) r acc O', ?_, fun v H3 hy => ?_⟩
    · rintro H3 ⟨G3, O3, acc3, go3, n3, q3⟩
      exact ⟨xs.length - (i + 1), by omega, G3, O3, acc3, go3, n3, by rw [hr]; exact q3, rfl, hlt⟩
    · obtain ⟨G3, go3, vr3⟩ := ir.yld i x G2 O2 H2 v H3 hx go2.ex r2 q2.1 hy
      refine ⟨G3, O2, wipeD g vs, x, _, go3.rel, (gr.mono (go1.ex.trans (go2.ex.trans go3.ex))).wipe vs, vr3, q2.2, fun s4 g4 O4 G4 H4 go4 gr4 w4 q4 => ⟨w4.trans ?_, G4, O4, g4, _, go4.rel, gr4, q4, fun b O5 G5 H5 go5 q5 => ?_⟩⟩
      · have wipe2 : ∀ us : List Nat, (∀ a ∈ us, a ∈ vs) → L2.wipe (L2.wipe s us) vs = L2.wipe s vs := by
          intro us
          induction us with
          | nil => intro _; rfl
          | cons a us ih =>
            intro ha
            show L2.wipe ((L2.wipe s us).set a none) vs = _
            rw [wipe_set (ha a List.mem_cons_self)]
            exact ih fun b hb => ha b (List.mem_cons_of_mem _ hb)
        exact wipe2 vs fun _ z => z
      · have g25 : Go K G2 O2 H2 G5 O5 H5 := (go3.trans r2 go4).trans r2 go5
        cases b with
        | false =>
          obtain ⟨n5, h5, f5⟩ := g25.frame nO2 nG2 hh qq
          exact ⟨G5, O5, acc, go2.trans go1.rel f5, n5, q5⟩
        | true =>
          refine ⟨G5, O5, g4, _, go5.rel, gr4.mono go5.ex, q5, fun ks O6 us G6 H6 go6 vr6 hl6 q6 => ⟨by rw [vr6.length, hl6]; exact Nat.le_trans hn (by decide), fun p hp => ?_⟩⟩
          have gd := Go.data go6.rel (u := .tup us) hp
          refine ⟨upd G6 p (.tup us), O6, g4, _, gd.rel, (gr4.mono go5.ex).mono (go6.ex.trans gd.ex), q6, fun y O7 w G7 H7 go7 vr7 q7 => ?_⟩
          obtain ⟨kk, ek, hsz, q7⟩ := q7
          have hk := keysOf_vr vr6 ek
          have g27 := ((g25.trans r2 go6).trans r2 gd).trans r2 go7
          obtain ⟨n7, h7, f7⟩ := g27.frame nO2 nG2 hh qq
          have g17 := go2.trans go1.rel f7
          obtain ⟨kvs, h7', q7'⟩ := g17.rel.dT up_same
          have hv : PR K G7 kvs acc := q7'
          have gw := Go.write g17.rel (a := Dl) (o := .dT (putD acc kk y)) (u := .dT (putK kvs kk w)) up_same (hv.put kk vr7)
          rw [up_up] at gw
          refine ⟨kvs, kk, p, rfl, ?_, h7', by rw [hv.len]; exact hsz, G7, O7, putD acc kk y, g17.trans go1.rel gw, n7, q7⟩
          have hg7 : G7 p = some (.tup us) := go7.ex _ _ upd_same
          rw [← hk]
          exact go7.rel.g _ _ hg7
section
variable {X : Cx} {tg : Expr} {pos : Pos}
theorem s_setDcT {k : Nat} {W : WX} {i : Nat} {y : Str} {py tp : Pos} {es : List Expr} {x1 : Nat} {vx iter : Expr} {ifs : List Expr} {scope : Scope} {own : List (Str × Nat)} {spos : Pos} {it : DI} {u : DG} {tt : DT} {tA : DA} {tv : DE} {n : Nat} (hr : Room k X.A) (hc : X.calm = true) (hN : X.N.Nodup) (hy : X.N[i]? = some y) (hyl : X.env.scope.names.lookup y = some .local)
    (hsw : swapsWith (.DictComp (.Tuple es x1 tp) vx [⟨tg, iter, ifs, 0⟩] scope pos) (some (.Name y py)) spos.line X.env = pure true) (hi : PI X tg iter (lowI X.K it)) (ok : BlkOk X.N X.env.scope scope own)
    (hg : ∀ (s : Shared) (H : Hp) (C : Addr) (cl : List (Str × Addr)) (fp : List Addr), PG (X.blk s H scope (compEnvC scope cl C X.env) fp) tg (lowGw X.K (own.map (·.2)) u)) (ht : ∀ (s : Shared) (H : Hp) (C : Addr) (cl : List (Str × Addr)) (fp : List Addr), PTs (X.blk s H scope (compEnvC scope cl C X.env) fp) ifs (lowT X.K tt))
    (hk : ∀ (s : Shared) (H : Hp) (C : Addr) (cl : List (Str × Addr)) (fp : List Addr), PA (X.blk s H scope (compEnvC scope cl C X.env) fp) es (lowA X.K n tA))
    (he : ∀ (s : Shared) (H : Hp) (C : Addr) (cl : List (Str × Addr)) (fp : List Addr), PE (X.blk s H scope (compEnvC scope cl C X.env) fp) vx (lowE X.K tv)) (hn : n ≤ 1000 := by decide) (hs : ∀ x, foldedSetIterable iter X.env x = pure x := by intro _; rfl) :
    PS X (.Assign [.Name y py] (.DictComp (.Tuple es x1 tp) vx [⟨tg, iter, ifs, 0⟩] scope pos) spos) (lowS X.K W (dSet i (dDcT it u tt tA tv (own.map (·.2))))) :=
  PS.by (ps_setDcT (by have := hr.un; omega) hc hN hy hyl hsw hi ok hg ht (fun s H C cl fp => pe_tup (hk s H C cl fp)) he hs) fun E s H ⟨G, O, g, F, rl, gr, h, k⟩ =>
  low_dcT hn s H _ ⟨G, O, g, _, rl, gr, h, fun x O1 v G1 H1 go1 vr1 q1 => k.nx _ _ _ _ _ go1 ((gr.mono go1.ex).set i vr1) q1⟩
end
section
variable {X : Cx} {tg : Expr} {pos : Pos}
theorem e_dcT {k : Nat} {tp : Pos} {es : List Expr} {x1 : Nat} {vx iter : Expr} {ifs : List Expr} {scope : Scope} {own : List (Str × Nat)} {it : DI} {u : DG} {tt : DT} {tA : DA} {tv : DE} {n : Nat} (hr : Room k X.A) (hc : X.calm = true) (hN : X.N.Nodup) (hi : PI X tg iter (lowI X.K it)) (ok : BlkOk X.N X.env.scope scope own)
    (hg : ∀ (s : Shared) (H : Hp) (C : Addr) (cl : List (Str × Addr)) (fp : List Addr), PG (X.blk s H scope (compEnvC scope cl C X.env) fp) tg (lowGw X.K (own.map (·.2)) u)) (ht : ∀ (s : Shared) (H : Hp) (C : Addr) (cl : List (Str × Addr)) (fp : List Addr), PTs (X.blk s H scope (compEnvC scope cl C X.env) fp) ifs (lowT X.K tt))
    (hk : ∀ (s : Shared) (H : Hp) (C : Addr) (cl : List (Str × Addr)) (fp : List Addr), PA (X.blk s H scope (compEnvC scope cl C X.env) fp) es (lowA X.K n tA))
    (he : ∀ (s : Shared) (H : Hp) (C : Addr) (cl : List (Str × Addr)) (fp : List Addr), PE (X.blk s H scope (compEnvC scope cl C X.env) fp) vx (lowE X.K tv)) (hn : n ≤ 1000 := by decide) (hs : ∀ x, foldedSetIterable iter X.env x = pure x := by intro _; rfl) :
    PE X (.DictComp (.Tuple es x1 tp) vx [⟨tg, iter, ifs, 0⟩] scope pos) (lowE X.K (dDcT it u tt tA tv (own.map (·.2)))) := by
  refine ⟨fun pins s σ H Q I h => ?_⟩
  rw [arm_eval_DictComp]
  refine dcT_core (by have := hr.un; omega) hc hN I hi ok hg ht (fun s H C cl fp => pe_tup (hk s H C cl fp)) he hs (low_dcT hn σ H Q h) fun D C s' m H' I' q hn f => ⟨m, hn, fun h'' sb => ?_⟩
  obtain ⟨f0, f1, f2, f3, f4, f5⟩ := f
  exact ⟨.ref D, H', I'.turned (t' := s'.toks) (fun b o hb e => (sb.2 b hb).trans e) f0 f1 f3 f4 f5, rfl, q⟩
end
theorem sw_trueD {kx vx : Expr} {gs : List Comprehension} {scope : Scope} {pos py : Pos} {y : Str} {l : Nat} {env : Env} (hk : env.scope.kind = .function) (hy : env.scope.names.lookup y = some .local) (hl : (py.line == pos.line) = true)
    (ha : (scope.names.any fun (n, k) => n == y && (k == .local || k == .cell)) = false) : swapsWith (.DictComp kx vx gs scope pos) (some (.Name y py)) l env = pure true := by
  have ky : env.kindOf y = some .local := hy
  have hb : env.blockKind = .function := by unfold Env.blockKind; rw [hk]; rfl
  unfold swapsWith
  simp only [hb, ky, ha, Expr.pos, hl]
  rfl
/-! ### zip(list, list) -/
def zipD (xs ys : List D) : List D := (xs.zip ys).map fun p => D.tup [p.1, p.2]
section
variable {X : Cx} {K : PySem.W.Frag} {G : Hp}
theorem zipD_get {xs ys : List D} {i : Nat} {d : D} (h : (zipD xs ys)[i]? = some d) : ∃ x y, xs[i]? = some x ∧ ys[i]? = some y ∧ d = .tup [x, y] := by
  unfold zipD at h
  rw [List.getElem?_map] at h
  cases e : (xs.zip ys)[i]? with
  | none => rw [e] at h; cases h
  | some p =>
    rw [e] at h
    cases h
    have := List.getElem?_zip_eq_some.mp e
    exact ⟨p.1, p.2, this.1, this.2, rfl⟩
theorem ItR.zip {a b : Addr} {xs ys : List D} {ok : Om → Prop} (h : ∀ G1 O H, Ex G G1 → Rel K G1 O H → ok O → ∃ vs us, SqL K H a vs ∧ SqL K H b us ∧ VRs K G1 vs xs ∧ VRs K G1 us ys) : ItR K (Itz K a b) G (zipD xs ys) ok where
  stop := fun G1 O H ex rl eo => by
    obtain ⟨vs, us, h1, h2, h3, h4⟩ := h G1 O H ex rl eo
    refine ⟨vs, us, h1, h2, ?_⟩
    have : (zipD xs ys).length = min xs.length ys.length := by unfold zipD; simp
    rw [this, h3.length, h4.length]
    omega
  go := fun i d G1 O H e ex rl eo => by
    obtain ⟨vs, us, h1, h2, h3, h4⟩ := h G1 O H ex rl eo
    obtain ⟨x, y, ex, ey, _⟩ := zipD_get e
    obtain ⟨v, hv, _⟩ := h3.get ex
    obtain ⟨u, hu, _⟩ := h4.get ey
    exact ⟨vs, us, v, u, h1, h2, hv, hu⟩
  yld := fun i d G1 O H x' H' e ex rl eo y' => by
    obtain ⟨T, v', u', rfl, hT, rfl, hv', hu'⟩ := y'
    obtain ⟨vs, us, h1, h2, h3, h4⟩ := h G1 O H ex rl eo
    obtain ⟨x, y, ex, ey, rfl⟩ := zipD_get e
    obtain ⟨v, hv, qv⟩ := h3.get ex
    obtain ⟨u, hu, qu⟩ := h4.get ey
    have e1 := hv' vs h1
    rw [hv] at e1; cases e1
    have e2 := hu' us h2
    rw [hu] at e2; cases e2
    have g := Go.data rl (u := .tup [v', u']) hT
    exact ⟨_, g, .tup (SqT.of upd_same) (.cons (qv.mono g.ex) (.cons (qu.mono g.ex) .nil))⟩
def dZip (t : DA) : DI := fun g O R => t g O fun zs O1 => match zs with
  | [x, y] => (match lstOf O1 x, lstOf O1 y with | some xs, some ys => R (zipD xs ys) (fun O => lstOf O x = some xs ∧ lstOf O y = some ys) O1 | _, _ => False)
  | _ => False
theorem i_zip {e e2 : Expr} {t : DA} {n : Nat} {p pos tpos : Pos} {elts : List Expr} {kk : Nat} (hm : X.mg "zip" = none) (ha : PA X [e, e2] (lowA X.K n t)) (hg : Gl X "zip" := by rfl)
    (hs : starEach [e, e2] X.env = (false, eval e X.env) :: starEach [e2] X.env := by rfl) (hpl : (backTo pos (starEach [e2] X.env)).any (·.1) = false := by rfl) : PI X (.Tuple elts kk tpos) (.Call (.Name "zip" p) [e, e2] [] pos) (lowI X.K (dZip t)) :=
  PI.by (RZ.pi_zipA hg hm ha hs hpl) fun s H R ⟨G, O, g, R', rl, gr, h, k⟩ => ⟨G, O, g, _, rl, gr, h, fun zs O1 vs G1 H1 go1 vr1 hl q1 => by
    match zs, vr1, q1 with
    | [x, y], vr1, q1 =>
      obtain ⟨v, u, rfl, hv, hu⟩ := vr1.two
      have q1 : (match lstOf O1 x, lstOf O1 y with | some xs, some ys => R' (zipD xs ys) (fun O => lstOf O x = some xs ∧ lstOf O y = some ys) O1 | _, _ => False) := q1
      cases e1 : lstOf O1 x with
      | none => simp only [e1] at q1
      | some xs =>
        cases e2 : lstOf O1 y with
        | none => simp only [e1, e2] at q1
        | some ys =>
          simp only [e1, e2] at q1
          obtain ⟨a, ws, rfl, hq, hw⟩ := go1.rel.lstOf hv e1
          obtain ⟨b, ws2, rfl, hq2, hw2⟩ := go1.rel.lstOf hu e2
          refine ⟨a, b, ws, ws2, rfl, .inl ⟨hq, hq2, k _ _ _ _ _ _ go1 (ItR.zip fun G2 O2 H2 ex rl2 eo => ?_) q1⟩⟩
          obtain ⟨a', us, ea, h1, h2⟩ := rl2.lstOf (hv.mono ex) eo.1
          obtain ⟨b', us2, eb, h3, h4⟩ := rl2.lstOf (hu.mono ex) eo.2
          cases ea; cases eb
          exact ⟨us, us2, h1, h3, h2, h4⟩⟩
end
end DL
set_option Elab.async false
set_option linter.all false
set_option maxRecDepth 100000
set_option maxHeartbeats 2000000
namespace DL
open PySem L2
open Evl (Ex)
/-! ### a comprehension with two fors -/
def dComp2 (u : DG) (tt : DT) (it1 : DI) (u1 : DG) (tt1 : DT) (te : DE) (vs1 : List Nat) (ok : Om → Prop) (g : Gm) (R : List D → Om → Prop) : List D → List D → Om → Prop
  | [], acc, O => ok O ∧ R acc O
  | x :: xs, acc, O => ok O ∧ u x g O fun g1 O1 => tt g1 O1 fun b O2 => if b = true then it1 g1 O2 fun ys ok1 O3 => dComp u1 tt1 te ok1 (wipeD g1 vs1) (fun acc' O4 => dComp2 u tt it1 u1 tt1 te vs1 ok g R xs acc' O4) ys acc O3 else dComp2 u tt it1 u1 tt1 te vs1 ok g R xs acc O2
def dLc2 (it : DI) (u : DG) (tt : DT) (it1 : DI) (u1 : DG) (tt1 : DT) (te : DE) (vs vs1 : List Nat) : DE := fun g O R => it g O fun xs ok O1 => dComp2 u tt it1 u1 tt1 te vs1 ok (wipeD g vs) (fun ys O2 => ∀ p, O2 p = none → R (.ref p) (up O2 p (.lst ys))) xs [] O1
theorem wipe_idem (s : L2.St) (vs : List Nat) : L2.wipe (L2.wipe s vs) vs = L2.wipe s vs := by
  have wipe2 : ∀ us : List Nat, (∀ a ∈ us, a ∈ vs) → L2.wipe (L2.wipe s us) vs = L2.wipe s vs := by
    intro us
    induction us with
    | nil => intro _; rfl
    | cons a us ih =>
      intro ha
      show L2.wipe ((L2.wipe s us).set a none) vs = _
      rw [wipe_set (ha a List.mem_cons_self)]
      exact ih fun b hb => ha b (List.mem_cons_of_mem _ hb)
  exact wipe2 vs fun _ z => z
section
variable {X : Cx} {pos : Pos} {tg tg1 : Expr}
theorem low_lc2 {K : PySem.W.Frag} {it it1 : DI} {u u1 : DG} {tt tt1 : DT} {te : DE} {vs vs1 : List Nat} : ∀ s H Q, lowE K (dLc2 it u tt it1 u1 tt1 te vs vs1) s H Q → tLc2 (lowI K it) (lowGw K vs u) (lowT K tt) (lowI K it1) (lowGw K vs1 u1) (lowT K tt1) (lowE K te) vs vs1 s H Q := fun s H Q ⟨G, O, g, R, rl, gr, h, k⟩ => by
  refine ⟨G, O, g, _, rl, gr, h, fun xs ok O1 J G1 H1 go1 ir q1 => ?_⟩
  intro Dl hD
  obtain ⟨hO, hG⟩ := go1.rel.fresh hD
  have g0 : Go K G1 O1 H1 G1 (up O1 Dl (.lst [])) (upd H1 Dl (.lst [])) := Go.new go1.rel (o := .lst []) (u := .lst []) hD .nil
  have less : ∀ {O' : Om} {o : DO}, O' Dl = none → ∀ a w, O' a = some w → up O' Dl o a = some w := fun {O' o} n a w e => by rw [up_ne (fun z => by subst z; rw [n] at e; cases e)]; exact e
  generalize hRR : (fun (ys : List D) (O2 : Om) => ∀ p, O2 p = none → R (.ref p) (up O2 p (.lst ys))) = RR at q1
  refine ⟨fun i m H' => ∃ G' O' acc, Go K G1 O1 H1 G' (up O' Dl (.lst acc)) H' ∧ O' Dl = none ∧ dComp2 u tt it1 u1 tt1 te vs1 ok (wipeD g vs) RR (xs.drop i) acc O' ∧ m = xs.length - i ∧ i ≤ xs.length,
    ⟨_, G1, O1, [], g0, hO, q1, rfl, Nat.zero_le _⟩, ?_⟩
  rintro i m H2 ⟨G2, O2, acc, go2, nO2, q2, hm, hi⟩
  have r2 : Rel K G2 O2 H2 := go2.rel.less (less nO2)
  obtain ⟨nG2, uu, hh, qq⟩ := go2.rel.o Dl _ up_same
  cases e : xs.drop i with
  | nil =>
    rw [e] at q2
    have hl : xs.length = i := by
      have := congrArg List.length e
      rw [List.length_drop, List.length_nil] at this
      omega
    obtain ⟨q2a, q2b⟩ := q2
    rw [← hRR] at q2b
    refine .inl ⟨?_, k _ _ _ _ _ (go1.trans rl go2) (.ref Dl) (q2b Dl nO2)⟩
    rw [← hl]
    exact ir.stop G2 O2 H2 go2.ex r2 q2a
  | cons x r =>
    rw [e] at q2
    obtain ⟨hx, hr⟩ := drop_cons e
    have hlt : i < xs.length := (List.getElem?_eq_some_iff.mp hx).1
    obtain ⟨q2a, q2b⟩ := q2
    refine .inr ⟨ir.go i x G2 O2 H2 hx go2.ex r2 q2a, fun H' => ∃ G' O' acc, Go K G1 O1 H1 G' (up O' Dl (.lst acc)) H' ∧ O' Dl = none ∧ dComp2 u tt it1 u1 tt1 te vs1 ok (wipeD g vs) RR r acc O', ?_, fun v H3 hy => ?_⟩
    · rintro H3 ⟨G3, O3, acc3, go3, n3, q3⟩
      exact ⟨xs.length - (i + 1), by omega, G3, O3, acc3, go3, n3, by rw [hr]; exact q3, rfl, hlt⟩
    · obtain ⟨G3, go3, vr3⟩ := ir.yld i x G2 O2 H2 v H3 hx go2.ex r2 q2a hy
      refine ⟨G3, O2, wipeD g vs, x, _, go3.rel, (gr.mono (go1.ex.trans (go2.ex.trans go3.ex))).wipe vs, vr3, q2b, fun s4 g4 O4 G4 H4 go4 gr4 w4 q4 => ⟨w4.trans (wipe_idem s vs), G4, O4, g4, _, go4.rel, gr4, q4, fun b O5 G5 H5 go5 q5 => ?_⟩⟩
      have g25 : Go K G2 O2 H2 G5 O5 H5 := (go3.trans r2 go4).trans r2 go5
      cases b with
      | false =>
        obtain ⟨n5, h5, f5⟩ := g25.frame nO2 nG2 hh qq
        exact ⟨G5, O5, acc, go2.trans go1.rel f5, n5, q5⟩
      | true =>
        refine ⟨G5, O5, g4, _, go5.rel, gr4.mono go5.ex, q5, fun ys ok1 O6 J1 G6 H6 go6 ir1 q6 => ?_⟩
        have g26 := g25.trans r2 go6
        obtain ⟨n6, h6, f6⟩ := g26.frame nO2 nG2 hh qq
        generalize hR1 : (fun (acc' : List D) (O4 : Om) => dComp2 u tt it1 u1 tt1 te vs1 ok (wipeD g vs) RR r acc' O4) = R1 at q6
        refine ⟨fun j m1 H' => ∃ G' O' acc', Go K G1 O1 H1 G' (up O' Dl (.lst acc')) H' ∧ O' Dl = none ∧ Ex G6 G' ∧ dComp u1 tt1 te ok1 (wipeD g4 vs1) R1 (ys.drop j) acc' O' ∧ m1 = ys.length - j ∧ j ≤ ys.length,
          ⟨_, G6, O6, acc, go2.trans go1.rel f6, n6, Ex.refl G6, q6, rfl, Nat.zero_le _⟩, ?_⟩
        rintro j m1 H7 ⟨G7, O7, acc7, go7, nO7, ex7, q7, hm7, hj7⟩
        have r7 : Rel K G7 O7 H7 := go7.rel.less (less nO7)
        obtain ⟨nG7, uu7, hh7, qq7⟩ := go7.rel.o Dl _ up_same
        cases e1 : ys.drop j with
        | nil =>
          rw [e1] at q7
          have hl : ys.length = j := by
            have := congrArg List.length e1
            rw [List.length_drop, List.length_nil] at this
            omega
          obtain ⟨q7a, q7b⟩ := q7
          rw [← hR1] at q7b
          refine .inl ⟨?_, G7, O7, acc7, go7, nO7, q7b⟩
          rw [← hl]
          exact ir1.stop G7 O7 H7 ex7 r7 q7a
        | cons y1 r1 =>
          rw [e1] at q7
          obtain ⟨hx1, hr1⟩ := drop_cons e1
          have hlt1 : j < ys.length := (List.getElem?_eq_some_iff.mp hx1).1
          obtain ⟨q7a, q7b⟩ := q7
          refine .inr ⟨ir1.go j y1 G7 O7 H7 hx1 ex7 r7 q7a, fun H' => ∃ G' O' acc', Go K G1 O1 H1 G' (up O' Dl (.lst acc')) H' ∧ O' Dl = none ∧ Ex G6 G' ∧ dComp u1 tt1 te ok1 (wipeD g4 vs1) R1 r1 acc' O', ?_, fun v1 H8 hy1 => ?_⟩
          · rintro H8 ⟨G8, O8, acc8, go8, n8, ex8, q8⟩
            exact ⟨ys.length - (j + 1), by omega, G8, O8, acc8, go8, n8, ex8, by rw [hr1]; exact q8, rfl, hlt1⟩
          · obtain ⟨G8, go8, vr8⟩ := ir1.yld j y1 G7 O7 H7 v1 H8 hx1 ex7 r7 q7a hy1
            have ex48 : Ex G4 G8 := (go5.ex.trans go6.ex).trans (ex7.trans go8.ex)
            refine ⟨G8, O7, wipeD g4 vs1, y1, _, go8.rel, (gr4.mono ex48).wipe vs1, vr8, q7b, fun s9 g9 O9 G9 H9 go9 gr9 w9 q9 => ⟨w9.trans (wipe_idem s4 vs1), G9, O9, g9, _, go9.rel, gr9, q9, fun b2 O10 G10 H10 go10 q10 => ?_⟩⟩
            have g710 : Go K G7 O7 H7 G10 O10 H10 := (go8.trans r7 go9).trans r7 go10
            cases b2 with
            | false =>
              obtain ⟨n10, h10, f10⟩ := g710.frame nO7 nG7 hh7 qq7
              exact ⟨G10, O10, acc7, go7.trans go1.rel f10, n10, ex7.trans g710.ex, q10⟩
            | true =>
              refine ⟨G10, O10, g9, _, go10.rel, gr9.mono go10.ex, q10, fun y O11 w G11 H11 go11 vr11 q11 => ?_⟩
              have g711 := g710.trans r7 go11
              obtain ⟨n11, h11, f11⟩ := g711.frame nO7 nG7 hh7 qq7
              have g111 := go7.trans go1.rel f11
              obtain ⟨_, u11, h11', q11'⟩ := g111.rel.o Dl _ up_same
              cases u11 with
              | lst vacc =>
                have hv : VRs K G11 vacc acc7 := q11'
                have gw := Go.write g111.rel (a := Dl) (o := .lst (acc7 ++ [y])) (u := .lst (vacc ++ [w])) up_same (hv.append (.cons vr11 .nil))
                rw [up_up] at gw
                exact ⟨vacc, h11', by rw [hv.length]; exact q11.1, G11, O11, acc7 ++ [y], g111.trans go1.rel gw, n11, ex7.trans g711.ex, q11.2⟩
              | _ => exact False.elim q11'
theorem e_lc2 {elt iter iter1 : Expr} {ifs ifs1 : List Expr} {scope : Scope} {own : List (Str × Nat)} {vs1 : List Nat} {it it1 : DI} {u u1 : DG} {tt tt1 : DT} {te : DE} (hc : X.calm = true) (hN : X.N.Nodup) (hi : PI X tg iter (lowI X.K it)) (ok : BlkOk X.N X.env.scope scope own) (hv : ∀ i ∈ vs1, i ∈ own.map (·.2))
    (hg : ∀ (s : Shared) (H : Hp) (C : Addr) (cl : List (Str × Addr)) (fp : List Addr), PG (X.blk s H scope (compEnvC scope cl C X.env) fp) tg (lowGw X.K (own.map (·.2)) u)) (ht : ∀ (s : Shared) (H : Hp) (C : Addr) (cl : List (Str × Addr)) (fp : List Addr), PTs (X.blk s H scope (compEnvC scope cl C X.env) fp) ifs (lowT X.K tt))
    (hi1 : ∀ (s : Shared) (H : Hp) (C : Addr) (cl : List (Str × Addr)) (fp : List Addr), PI (X.blk s H scope (compEnvC scope cl C X.env) fp) tg1 iter1 (lowI X.K it1))
    (hg1 : ∀ (s : Shared) (H : Hp) (C : Addr) (cl : List (Str × Addr)) (fp : List Addr), PG (X.blk s H scope (compEnvC scope cl C X.env) fp) tg1 (lowGw X.K vs1 u1)) (ht1 : ∀ (s : Shared) (H : Hp) (C : Addr) (cl : List (Str × Addr)) (fp : List Addr), PTs (X.blk s H scope (compEnvC scope cl C X.env) fp) ifs1 (lowT X.K tt1))
    (he : ∀ (s : Shared) (H : Hp) (C : Addr) (cl : List (Str × Addr)) (fp : List Addr), PE (X.blk s H scope (compEnvC scope cl C X.env) fp) elt (lowE X.K te)) (hs : ∀ x, foldedSetIterable iter X.env x = pure x := by intro _; rfl) (hs1 : ∀ env x, foldedSetIterable iter1 env x = pure x := by intro _ _; rfl) :
    PE X (.ListComp elt [⟨tg, iter, ifs, 0⟩, ⟨tg1, iter1, ifs1, 0⟩] scope pos) (lowE X.K (dLc2 it u tt it1 u1 tt1 te (own.map (·.2)) vs1)) := PE.by (pe_lc2 hc hN hi ok hv hg ht hi1 hg1 ht1 he hs hs1) low_lc2
theorem s_setLc2 {W : WX} {i : Nat} {y : Str} {py : Pos} {elt iter iter1 : Expr} {ifs ifs1 : List Expr} {scope : Scope} {own : List (Str × Nat)} {vs1 : List Nat} {spos : Pos} {it it1 : DI} {u u1 : DG} {tt tt1 : DT} {te : DE} (hc : X.calm = true) (hN : X.N.Nodup) (hy : X.N[i]? = some y) (hyl : X.env.scope.names.lookup y = some .local)
    (hsw : swapsWith (.ListComp elt [⟨tg, iter, ifs, 0⟩, ⟨tg1, iter1, ifs1, 0⟩] scope pos) (some (.Name y py)) spos.line X.env = pure true) (hi : PI X tg iter (lowI X.K it)) (ok : BlkOk X.N X.env.scope scope own) (hv : ∀ i ∈ vs1, i ∈ own.map (·.2))
    (hg : ∀ (s : Shared) (H : Hp) (C : Addr) (cl : List (Str × Addr)) (fp : List Addr), PG (X.blk s H scope (compEnvC scope cl C X.env) fp) tg (lowGw X.K (own.map (·.2)) u)) (ht : ∀ (s : Shared) (H : Hp) (C : Addr) (cl : List (Str × Addr)) (fp : List Addr), PTs (X.blk s H scope (compEnvC scope cl C X.env) fp) ifs (lowT X.K tt))
    (hi1 : ∀ (s : Shared) (H : Hp) (C : Addr) (cl : List (Str × Addr)) (fp : List Addr), PI (X.blk s H scope (compEnvC scope cl C X.env) fp) tg1 iter1 (lowI X.K it1))
    (hg1 : ∀ (s : Shared) (H : Hp) (C : Addr) (cl : List (Str × Addr)) (fp : List Addr), PG (X.blk s H scope (compEnvC scope cl C X.env) fp) tg1 (lowGw X.K vs1 u1)) (ht1 : ∀ (s : Shared) (H : Hp) (C : Addr) (cl : List (Str × Addr)) (fp : List Addr), PTs (X.blk s H scope (compEnvC scope cl C X.env) fp) ifs1 (lowT X.K tt1))
    (he : ∀ (s : Shared) (H : Hp) (C : Addr) (cl : List (Str × Addr)) (fp : List Addr), PE (X.blk s H scope (compEnvC scope cl C X.env) fp) elt (lowE X.K te)) (hs : ∀ x, foldedSetIterable iter X.env x = pure x := by intro _; rfl) (hs1 : ∀ env x, foldedSetIterable iter1 env x = pure x := by intro _ _; rfl) :
    PS X (.Assign [.Name y py] (.ListComp elt [⟨tg, iter, ifs, 0⟩, ⟨tg1, iter1, ifs1, 0⟩] scope pos) spos) (lowS X.K W (dSet i (dFz (dLc2 it u tt it1 u1 tt1 te (own.map (·.2)) vs1)))) := PS.by (ps_setLc2 hc hN hy hyl hsw hi ok hv hg ht hi1 hg1 ht1 he hs hs1) fun E s H ⟨G, O, g, F, rl, gr, h, k⟩ =>
  low_lc2 s H _ ⟨G, O, g, _, rl, gr, h, fun x O1 v G1 H1 go1 vr1 q1 => by
    obtain ⟨x', O2, G2, go2, vr2, q2⟩ := fz_back go1.rel vr1 q1
    exact k.nx _ _ _ _ _ (go1.trans rl go2) ((gr.mono (go1.trans rl go2).ex).set i vr2) q2⟩
end
/-- a comprehension of two fors whose every turn keeps the state, over typed rows -/
theorem comp2_typed {A B : Type} {u u1 : DG} {tt tt1 : DT} {it1 : DI} {te : DE} {vs1 : List Nat} {ok : Om → Prop} {g : Gm} {R : List D → Om → Prop} {O : Om} {f : A → D} {as : List A} (inn : A → List D) (hok : ok O)
    (hs : ∀ a, a ∈ as → ∀ (N : List D → Om → Prop) (acc : List D), N (acc ++ inn a) O → u (f a) g O fun g1 O1 => tt g1 O1 fun b O2 => if b = true then it1 g1 O2 fun ys ok1 O3 => dComp u1 tt1 te ok1 (wipeD g1 vs1) N ys acc O3 else N acc O2)
    (hd : R (as.flatMap inn) O) : dComp2 u tt it1 u1 tt1 te vs1 ok g R (as.map f) [] O := by
  have key : ∀ (post pre : List A), as = pre ++ post → dComp2 u tt it1 u1 tt1 te vs1 ok g R (post.map f) (pre.flatMap inn) O := by
    intro post
    induction post with
    | nil =>
      intro pre e
      rw [List.append_nil] at e
      subst e
      exact ⟨hok, hd⟩
    | cons a post ih =>
      intro pre e
      refine ⟨hok, hs a (by rw [e]; simp) (fun acc' O4 => dComp2 u tt it1 u1 tt1 te vs1 ok g R (post.map f) acc' O4) _ ?_⟩
      have := ih (pre ++ [a]) (by rw [e, List.append_assoc]; rfl)
      rw [List.flatMap_append, List.flatMap_cons, List.flatMap_nil, List.append_nil] at this
      exact this
  exact key as [] rfl
/-- the inner row, from what is there -/
theorem comp_more {A : Type} {u : DG} {tt : DT} {te : DE} {ok : Om → Prop} {g : Gm} {R : List D → Om → Prop} {O : Om} {f : A → D} {as : List A} {acc0 : List D} (p : A → Bool) (h : A → D) (hok : ok O) (hl : acc0.length + as.length < 16000000)
    (hs : ∀ a, a ∈ as → ∀ (N : List D → Om → Prop) (acc : List D), acc.length < sizeLine → (p a = true → N (acc ++ [h a]) O) → (p a = false → N acc O) → u (f a) g O fun g1 O1 => tt g1 O1 fun b O2 => if b = true then te g1 O2 fun y O3 => acc.length < sizeLine ∧ N (acc ++ [y]) O3 else N acc O2)
    (hd : R (acc0 ++ (as.filter p).map h) O) : dComp u tt te ok g R (as.map f) acc0 O := by
  have key : ∀ (post pre : List A), as = pre ++ post → dComp u tt te ok g R (post.map f) (acc0 ++ (pre.filter p).map h) O := by
    intro post
    induction post with
    | nil =>
      intro pre e
      rw [List.append_nil] at e
      subst e
      exact ⟨hok, hd⟩
    | cons a post ih =>
      intro pre e
      have hlen : (acc0 ++ (pre.filter p).map h).length < sizeLine := by
        have h1 := congrArg List.length e
        have h2 := List.length_filter_le p pre
        rw [List.length_append, List.length_map, sizeLine_eq]
        simp at h1
        omega
      refine ⟨hok, hs a (by rw [e]; simp) _ _ hlen (fun z => ?_) fun z => ?_⟩
      · have := ih (pre ++ [a]) (by rw [e, List.append_assoc]; rfl)
        rw [List.filter_append, List.filter_cons_of_pos z, List.filter_nil, List.map_append, ← List.append_assoc] at this
        exact this
      · have := ih (pre ++ [a]) (by rw [e, List.append_assoc]; rfl)
        rw [List.filter_append, List.filter_cons_of_neg (by rw [z]; decide), List.filter_nil, List.append_nil] at this
        exact this
  have := key as [] rfl
  rw [List.filter_nil, List.map_nil, List.append_nil] at this
  exact this
end DL
set_option Elab.async false
set_option linter.all false
set_option maxRecDepth 100000
set_option maxHeartbeats 2000000
namespace DL
open PySem PySem.Spec PyProof.Rows L2
open Evl (Ex)
/-! ### xs[::2] of a list of three -/
section
variable {X : Cx} {pos : Pos} {a : Expr} {ta : DE}
theorem pick2 (x y z : Value) : slicePick #[x, y, z] none none (some 2) = #[x, z] := by
  have h : sliceRange (sliceBounds none none (some 2) 3).1 (sliceBounds none none (some 2) 3).2.1 (sliceBounds none none (some 2) 3).2.2 = [0, 2] := by decide +kernel
  unfold slicePick
  show ((sliceRange (sliceBounds none none (some 2) 3).1 (sliceBounds none none (some 2) 3).2.1 (sliceBounds none none (some 2) 3).2.2).filterMap _).toArray = _
  rw [h]
  rfl
def tStep2 (K : PySem.W.Frag) (te : TE) : TE := fun σ H Q => te σ H fun x H1 => ∃ a v1 v2 v3, x = .ref a ∧ SqL K H1 a [v1, v2, v3] ∧ ∀ p, H1 p = none → Q (.ref p) (upd H1 p (.lst [v1, v3]))
theorem pe_step2 {e : Expr} {te : TE} {k : Nat} {p1 p3 pos : Pos} (he : PE X e te) : PE X (.Subscript e (.Slice none none (some (.Constant (.int 2) k p1)) p3) pos) (tStep2 X.K te) := by
  refine ⟨fun pins s σ H Q I h => ?_⟩
  refine Subscript_ (thn (he.run pins s σ H _ I h) fun v s1 ⟨x, H1, I1, r1, q1⟩ => ?_)
  obtain ⟨a, v1, v2, v3, ex, hx, q⟩ := q1
  subst ex
  cases r1
  have hst : PO X (some (.Constant (.int 2) k p1)) (tPart (tC (.int 2))) := po_some pe_int
  refine wpAny_Slice (thn (po_none.run pins s1 σ H1 (fun o H2 => o = none ∧ H2 = H1) I1 ⟨rfl, rfl⟩) fun vl s2 ⟨l, H2, I2, pl, el, e2⟩ => ?_)
  subst el e2
  refine thn (po_none.run pins s2 σ H2 (fun o H3 => o = none ∧ H3 = H2) I2 ⟨rfl, rfl⟩) fun vu s3 ⟨u, H3, I3, pu, eu, e3⟩ => ?_
  subst eu e3
  refine thn (hst.run pins s3 σ H3 (fun o H4 => o = some 2 ∧ H4 = H3) I3 ⟨2, rfl, rfl, rfl⟩) fun vs s4 ⟨o, H4, I4, ps, eo, e4⟩ => ?_
  subst eo e4
  have I5 : Inv X pins σ H4 { s4 with heap := s4.heap.push { cls := .type "slice", data := .fields #[vl, vu, vs] } } := I4.kept (t' := s4.toks) fun b ob q => Heap.get?_push_of_some _ q
  obtain ⟨its, r, ht, hz⟩ := I5.list hx
  cases r with
  | cons r1 r => cases r with
    | cons r2 r => cases r with
      | cons r3 r =>
        cases r
        show wpAny (model X.prog X.w) X.A (subscriptTail e (.Slice none none (some (.Constant (.int 2) k p1)) p3) (.ref a) (.ref s4.heap.objs.size)) (EP X pins σ Q) X.xe { s4 with heap := s4.heap.push { cls := .type "slice", data := .fields #[vl, vu, vs] } }
        refine tail_any (ops := [.ref a, .ref s4.heap.objs.size]) ht.isList.typeIs (PySem.slot_list_getitem.lookup) ?_ (by with_unfolding_all rfl)
        refine wpAny_getItem_list_slice ht.isList (Heap.IsSliceOf.new _ vl vu vs) pl pu ps (by decide) ?_ (by show 3 ≤ sizeLine; decide)
        rw [pick2]
        refine ⟨.ref _, _, I5.laid (t' := s4.toks) (o := .lst [v1, v3]) (fun b ob q => Heap.get?_push_of_some _ q) (Nat.le_refl _) ?_, rfl, q _ (I5.hok.fresh (Nat.le_refl _))⟩
        exact ⟨by show 2 ≤ sizeLine; decide, _, 0, .cons r1 (.cons r3 .nil), Heap.get?_push_size _ rfl⟩
def dStep2 (t : DE) : DE := fun g O R => t g O fun x O1 => match lstOf O1 x with | some [x, _, z] => R (.lst [x, z]) O1 | _ => False
theorem e_step2 {k : Nat} {p1 p3 : Pos} (ha : PE X a (lowE X.K ta)) : PE X (.Subscript a (.Slice none none (some (.Constant (.int 2) k p1)) p3) pos) (lowE X.K (dStep2 ta)) :=
  PE.by (pe_step2 ha) fun s H Q ⟨G, O, g, R, rl, gr, h, k⟩ => ⟨G, O, g, _, rl, gr, h, fun x O1 v G1 H1 go1 vr1 q1 => by
    cases e : lstOf O1 x with
    | none => simp only [e] at q1
    | some xs =>
      simp only [e] at q1
      obtain ⟨a, vs, rfl, hq, hv⟩ := go1.rel.lstOf vr1 e
      rcases xs with _ | ⟨x1, _ | ⟨x2, _ | ⟨x3, _ | ⟨x4, r⟩⟩⟩⟩
      · exact q1.elim
      · exact q1.elim
      · exact q1.elim
      · have q1 : R (.lst [x1, x3]) O1 := q1
        cases hv with
        | cons h1 hv => cases hv with
          | cons h2 hv => cases hv with
            | cons h3 hv =>
              cases hv
              exact ⟨a, _, _, _, rfl, hq, Bk.lstF (fun z O3 w G3 H3 go3 vr3 q3 => k z O3 w G3 H3 (go1.trans rl go3) vr3 q3) go1.rel (.cons h1 (.cons h3 .nil)) q1⟩
      · exact q1.elim⟩
end
end DL

set_option linter.all false
set_option maxRecDepth 100000
set_option maxHeartbeats 2000000
namespace Lw
open PySem PySem.Spec PyProof.Rows L2 DL
open Evl (Ex)
/-! ### owned things that stand -/
def Sb (O O' : Om) : Prop := ∀ a o, O a = some o → O' a = some o
theorem Sb.refl (O : Om) : Sb O O := fun _ _ e => e
theorem Sb.trans {O O1 O2 : Om} (h : Sb O O1) (k : Sb O1 O2) : Sb O O2 := fun a o e => k a o (h a o e)
theorem Sb.new {O : Om} {p : Addr} {o : DO} (h : O p = none) : Sb O (up O p o) := fun a u e => by
  rw [up_ne (fun z => by subst z; rw [h] at e; cases e)]; exact e
theorem Sb.fin {O O' : Om} {R : D → Om → Prop} {x : D} (h : Sb O O') (r : R x O) : Fin R x O' := ⟨O, h, r⟩
theorem some_ne_none {O : Om} {p a : Addr} {o : DO} (h : O p = none) (e : O a = some o) : a ≠ p := fun z => by subst z; rw [h] at e; cases e
/-! ### the bag -/
def bagV (c : Addr) (pos rem seed cnt : Int) : DO := .lst [.ref c, .int pos, .int rem, .int seed, .int cnt]
def Bag (O : Om) (b : Addr) : Prop := ∃ (c : Addr) (cells : List Int) (pos rem seed cnt : Int), O b = some (bagV c pos rem seed cnt) ∧ O c = some (.lst (cells.map D.int)) ∧ c ≠ b ∧ 0 ≤ pos ∧ 0 ≤ rem ∧ 0 ≤ seed ∧ seed < 2147483647
/-- all but the bag stands -/
def cellOf (O : Om) (b : Addr) : Option Addr := match O b with | some (.lst (.ref c :: _)) => some c | _ => none
structure Bst (b : Addr) (O O' : Om) : Prop where
  bag : Bag O' b
  fr : ∀ a o, a ≠ b → O a = some o → O' a = some o
  cell : cellOf O' b = cellOf O b
theorem Bst.trans {b : Addr} {O O1 O2 : Om} (h : Bst b O O1) (k : Bst b O1 O2) : Bst b O O2 := ⟨k.1, fun a o n e => k.2 a o n (h.2 a o n e), k.cell.trans h.cell⟩
theorem Bag.cell {O : Om} {b : Addr} (h : Bag O b) : ∃ (c : Addr) (cells : List Int) (pos rem seed cnt : Int), cellOf O b = some c ∧ O b = some (bagV c pos rem seed cnt) ∧ O c = some (.lst (cells.map D.int)) := by
  obtain ⟨c, cells, pos, rem, seed, cnt, h1, h2, h3⟩ := h
  exact ⟨c, cells, pos, rem, seed, cnt, by unfold cellOf; rw [h1]; rfl, h1, h2⟩
theorem cell_of {O : Om} {b c : Addr} {pos rem seed cnt : Int} (h : O b = some (bagV c pos rem seed cnt)) : cellOf O b = some c := by unfold cellOf; rw [h]; rfl
theorem cell_up {O : Om} {b p : Addr} {o : DO} (h : p ≠ b) : cellOf (up O p o) b = cellOf O b := by unfold cellOf; rw [up_ne (fun z => h z.symm)]
theorem Bag.up {O : Om} {b p : Addr} {o : DO} (h : Bag O b) (n : O p = none) : Bag (up O p o) b := by
  obtain ⟨c, cells, pos, rem, seed, cnt, h1, h2, h3⟩ := h
  exact ⟨c, cells, pos, rem, seed, cnt, by rw [up_ne (some_ne_none n h1)]; exact h1, by rw [up_ne (some_ne_none n h2)]; exact h2, h3⟩
theorem Bst.refl {b : Addr} {O : Om} (h : Bag O b) : Bst b O O := ⟨h, fun _ _ _ e => e, rfl⟩
theorem Bst.up {b p : Addr} {O O' : Om} {o : DO} (h : Bst b O O') (n : O' p = none) : Bst b O (DL.up O' p o) := ⟨h.1.up n, fun a u hn e => Sb.new n a u (h.2 a u hn e), by rw [cell_up (fun z => by obtain ⟨c, _, _, _, _, _, _, e, _⟩ := h.1.cell; rw [← z, n] at e; cases e), h.cell]⟩
theorem ixN_lit {n : Nat} {i : Int} (h0 : 0 ≤ i) (h1 : i < n) : ixN n i = some i.toNat := by unfold ixN; rw [if_pos h0, if_pos h1]
theorem atI_int {ns : List Int} {i : Int} (h0 : 0 ≤ i) (h1 : i < ns.length) : ∃ z, atI (ns.map D.int) i = some (.int z) ∧ z ∈ ns := by
  unfold atI
  have h2 : i.toNat < ns.length := by omega
  rw [ixN_lit h0 (by simpa using h1)]
  exact ⟨ns[i.toNat], by simp [h2], List.getElem_mem h2⟩
theorem atI_cons {A : Type} {xs : List A} {k : Nat} (h : k < xs.length) : atI xs (k : Int) = some xs[k] := by
  unfold atI
  rw [ixN_lit (by omega) (by omega)]
  simp [h]
theorem atI_0 {A : Type} {x : A} {xs : List A} : atI (x :: xs) 0 = some x := atI_cons (k := 0) (by simp)
theorem atI_1 {A : Type} {x y : A} {xs : List A} : atI (x :: y :: xs) 1 = some y := atI_cons (k := 1) (by simp)
theorem atI_2 {A : Type} {x y z : A} {xs : List A} : atI (x :: y :: z :: xs) 2 = some z := atI_cons (k := 2) (by simp)
theorem atI_3 {A : Type} {x y z u : A} {xs : List A} : atI (x :: y :: z :: u :: xs) 3 = some u := atI_cons (k := 3) (by simp)
theorem atI_4 {A : Type} {x y z u v : A} {xs : List A} : atI (x :: y :: z :: u :: v :: xs) 4 = some v := atI_cons (k := 4) (by simp)
theorem atI_5 {A : Type} {x y z u v w : A} {xs : List A} : atI (x :: y :: z :: u :: v :: w :: xs) 5 = some w := atI_cons (k := 5) (by simp)
theorem ixN_0 {n : Nat} : ixN (n + 1) 0 = some 0 := ixN_lit (i := ((0 : Nat) : Int)) (by omega) (by omega)
theorem ixN_1 {n : Nat} : ixN (n + 1 + 1) 1 = some 1 := ixN_lit (i := ((1 : Nat) : Int)) (by omega) (by omega)
theorem ixN_2 {n : Nat} : ixN (n + 1 + 1 + 1) 2 = some 2 := ixN_lit (i := ((2 : Nat) : Int)) (by omega) (by omega)
theorem ixN_3 {n : Nat} : ixN (n + 1 + 1 + 1 + 1) 3 = some 3 := ixN_lit (i := ((3 : Nat) : Int)) (by omega) (by omega)
theorem ixN_4 {n : Nat} : ixN (n + 1 + 1 + 1 + 1 + 1) 4 = some 4 := ixN_lit (i := ((4 : Nat) : Int)) (by omega) (by omega)
theorem ixN_5 {n : Nat} : ixN (n + 1 + 1 + 1 + 1 + 1 + 1) 5 = some 5 := ixN_lit (i := ((5 : Nat) : Int)) (by omega) (by omega)
theorem pick_nil {A : Type} {us ws ds : List A} : pick us ws ds [] = [] := rfl
theorem pick_p {A : Type} {us ws ds : List A} {i : Nat} {l : List Src} : pick us ws ds (.p i :: l) = match us[i]? with | some x => x :: pick us ws ds l | none => pick us ws ds l := by
  unfold pick
  rw [List.filterMap_cons]
  show (match us[i]? with | none => _ | some b => _) = _
  cases us[i]? <;> rfl
theorem pick_k {A : Type} {us ws ds : List A} {i : Nat} {l : List Src} : pick us ws ds (.k i :: l) = match ws[i]? with | some x => x :: pick us ws ds l | none => pick us ws ds l := by
  unfold pick
  rw [List.filterMap_cons]
  show (match ws[i]? with | none => _ | some b => _) = _
  cases ws[i]? <;> rfl
theorem pick_d {A : Type} {us ws ds : List A} {i : Nat} {l : List Src} : pick us ws ds (.d i :: l) = match ds[i]? with | some x => x :: pick us ws ds l | none => pick us ws ds l := by
  unfold pick
  rw [List.filterMap_cons]
  show (match ds[i]? with | none => _ | some b => _) = _
  cases ds[i]? <;> rfl
theorem seq1 {t u : DS} {F : DEnds} {g : Gm} {O : Om} (h : ∀ N : Gm → Om → Prop, N = u F → t { F with nx := N } g O) : dSeq t u F g O := h (u F) rfl
theorem seq_by {t u : DS} {F : DEnds} {g : Gm} {O : Om} (Mid : Gm → Om → Prop) (h : ∀ N : Gm → Om → Prop, (∀ g O, Mid g O → N g O) → t { F with nx := N } g O) (k : ∀ g O, Mid g O → u F g O) : dSeq t u F g O := h (u F) k
def t_law_gcd : DS :=
  (dSeq (dPar 0 1 (dCons (dCB dAbs (dCons (dVar 0) dNil)) (dCons (dCB dAbs (dCons (dVar 1) dNil)) dNil)))
  (dSeq (dWhile (dTest (dOp dGt (dVar 1) (dC (.int 0)))) (dPar 0 1 (dCons (dVar 1) (dCons (dOp dMod (dVar 0) (dVar 1)) dNil))))
  (dRet (dVar 0))))
def n_law_gcd : List Str := ["_law_p", "_law_q"]
def sp_law_gcd : DSp := fun xs O R _ => ∃ p q : Int, xs = [.int p, .int q] ∧ R (.int (Int.gcd p q)) O
theorem gcd_step {a b : Int} (ha : 0 ≤ a) (hb : 0 < b) : Int.gcd a b = Int.gcd b (a % b) := by
  have e : (a % b).natAbs = a.natAbs % b.natAbs := by
    obtain ⟨m, rfl⟩ := Int.eq_ofNat_of_zero_le ha
    obtain ⟨n, rfl⟩ := Int.eq_ofNat_of_zero_le (Int.le_of_lt hb)
    rfl
  unfold Int.gcd
  rw [e, Nat.gcd_comm, Nat.gcd_rec, Nat.gcd_comm]
theorem d_law_gcd : ∀ xs O R Z, sp_law_gcd xs O R Z → t_law_gcd (ends R) (startD n_law_gcd xs) O := by
  rintro _ O R Z ⟨p, q, rfl, h⟩
  show dWhile _ _ _ _ _
  refine while_by (fun m g O' => O' = O ∧ ∃ a b : Int, g = [some (.int a), some (.int b)] ∧ 0 ≤ a ∧ 0 ≤ b ∧ Int.gcd a b = Int.gcd p q ∧ m = b.toNat) (if q < 0 then -q else q).toNat ⟨rfl, _, _, rfl, ?_, ?_, ?_, rfl⟩ ?_
  · split <;> omega
  · split <;> omega
  · split <;> split <;> simp
  · rintro m g _ ⟨rfl, a, b, rfl, ha, hb, hg, rfl⟩
    show (if decide (b > 0) = true then _ else _)
    by_cases hb0 : b > 0
    · rw [if_pos (by simpa using hb0)]
      refine ⟨hb0, (a % b).toNat, ?_, rfl, b, a % b, rfl, by omega, Int.emod_nonneg _ (by omega), ?_, rfl⟩
      · have := Int.emod_lt_of_pos a hb0
        have := Int.emod_nonneg a (show b ≠ 0 by omega)
        omega
      · rw [← hg]
        exact (gcd_step ha hb0).symm
    · rw [if_neg (by simpa using hb0)]
      have hb' : b = 0 := by omega
      subst hb'
      refine Fin.here ?_
      show R (.int a) _
      have : (Int.gcd p q : Int) = a := by rw [← hg, Int.gcd_zero_right]; omega
      rw [← this]; exact h
def t_law_pull : DS :=
  (dSeq (dIfS (dAndT (dTest (dOp dEq (dOp dIx (dVar 0) (dC (.int 2))) (dC (.int 0)))) (dTest (dOp dLt (dOp dIx (dVar 0) (dC (.int 1))) (dCB dLen (dCons (dOp dIx (dVar 0) (dC (.int 0))) dNil))))) (dSeq (dSet 2 (dOp dIx (dOp dIx (dVar 0) (dC (.int 0))) (dOp dIx (dVar 0) (dC (.int 1)))))
  (dSeq (dAsg (dOp dAdd (dOp dIx (dVar 0) (dC (.int 1))) (dC (.int 1))) (gSubD (dVar 0) (dC (.int 1)) dSetL))
  (dIfS (dTest (dOp dGe (dVar 2) (dOp dPow (dC (.int 10)) (dC (.int 18))))) (dAsg (dVar 2) (gSubD (dVar 0) (dC (.int 2)) dSetL)) (dAsg (dOp dMod (dOp dAdd (dOp dAdd (dOp dMul (dOp dIx (dVar 0) (dC (.int 3))) (dC (.int 48271))) (dOp dMul (dOp dMod (dVar 2) (dC (.int 2147483629))) (dC (.int 69621)))) (dC (.int 77))) (dC (.int 2147483647))) (gSubD (dVar 0) (dC (.int 3)) dSetL))))) dNext)
  (dSeq (dIfS (dTest (dOp dGt (dOp dIx (dVar 0) (dC (.int 2))) (dC (.int 0)))) (dSeq (dSet 3 (dOp dMod (dOp dIx (dVar 0) (dC (.int 2))) (dVar 1)))
  (dSeq (dAsg (dOp dFd (dOp dIx (dVar 0) (dC (.int 2))) (dVar 1)) (gSubD (dVar 0) (dC (.int 2)) dSetL))
  (dRet (dVar 3)))) dNext)
  (dSeq (dSet 4 (dOp dIx (dVar 0) (dC (.int 3))))
  (dSeq (dAsg (dOp dAdd (dOp dIx (dVar 0) (dC (.int 4))) (dC (.int 1))) (gSubD (dVar 0) (dC (.int 4)) dSetL))
  (dSeq (dAsg (dOp dMod (dOp dAdd (dOp dAdd (dOp dPow (dVar 4) (dC (.int 3))) (dOp dMul (dC (.int 40692)) (dVar 4))) (dOp dMul (dC (.int 7919)) (dOp dIx (dVar 0) (dC (.int 4))))) (dC (.int 2147483647))) (gSubD (dVar 0) (dC (.int 3)) dSetL))
  (dRet (dOp dMod (dOp dAdd (dOp dFd (dOp dIx (dVar 0) (dC (.int 3))) (dC (.int 61))) (dOp dMul (dOp dMod (dOp dIx (dVar 0) (dC (.int 3))) (dC (.int 8191))) (dC (.int 37)))) (dVar 1))))))))
def n_law_pull : List Str := ["_law_bag_here", "_law_sides", "_law_cell", "_law_got", "_law_seed"]
def sp_law_pull : DSp := fun xs O R _ => ∃ (b : Addr) (n : Int), xs = [.ref b, .int n] ∧ 1 ≤ n ∧ n.natAbs.log2 < 9000 ∧ Bag O b ∧ ∀ r O', 0 ≤ r → r < n → Bst b O O' → R (.int r) O'
theorem bag_put {O : Om} {b c : Addr} {cells : List Int} {pos rem seed cnt : Int} (h0 : cellOf O b = some c) (hc : O c = some (.lst (cells.map D.int))) (hcb : c ≠ b) (hp : 0 ≤ pos) (hr : 0 ≤ rem) (hs : 0 ≤ seed) (hs2 : seed < 2147483647) : Bst b O (DL.up O b (bagV c pos rem seed cnt)) :=
  ⟨⟨c, cells, pos, rem, seed, cnt, up_same, by rw [up_ne hcb]; exact hc, hcb, hp, hr, hs, hs2⟩, fun a o n e => by rw [up_ne n]; exact e, by rw [cell_of up_same, h0]⟩
theorem d_law_pull : ∀ xs O R Z, sp_law_pull xs O R Z → t_law_pull (ends R) (startD n_law_pull xs) O := by
  rintro _ O R Z ⟨b, n, rfl, hn, hn2, ⟨c, cells, pos, rem, seed, cnt, hb, hc, hcb, hp, hr, hs, hs2⟩, k⟩
  have h0 : cellOf O b = some c := cell_of hb
  refine seq_by (fun g O' => (∃ x, g = [some (.ref b), some (.int n), x, none, none]) ∧ ∃ pos rem seed cnt, O' b = some (bagV c pos rem seed cnt) ∧ O' c = some (.lst (cells.map D.int)) ∧ 0 ≤ pos ∧ 0 ≤ rem ∧ 0 ≤ seed ∧ seed < 2147483647 ∧ ∀ a o, a ≠ b → O a = some o → O' a = some o) (fun N hN => ?_) ?_
  · show dIfS _ _ _ _ [some (.ref b), some (.int n), none, none, none] O
    simp only [dIfS, dAndT, dOrT, dNotT, dTest, dTruth, dTru, dAndV, dOrV, dNotV, dIf, dOp, dUn, dVar, dC, dI, dIc, dAdd, dSub, dMul, dFd, dMod, dPow, dNeg, dLt, dLe, dGt, dGe, dEq, dNe, dIsN, dNotN, DL.isNon, dIx, dSl, dPart, dNoPart, dCB, dLen, dAbs, dList, dTuple, dBls, dSum, dIsi, dIsi2, dtOf, isC, seqOf, lstOf, dCons, dNil, dTup, dLst, dRet, dRetN, dNext, dDrop, dAsg, gN, gsNil, gsCons, gT, gSubD, dSetL, dPar, dAug, dIpAdd, dIpSub, dCall, pick_nil, pick_p, pick_k, pick_d, dBreak, dCont, dLM, dLM0, isL, dAppend, dInsert, dPop, dPopAt, dRevL, dStr, dFmt, dJs, dMax2, dMin2, dSorted, dNewK, dctOf, dGetK, dHasK, DL.keyOf, dPutK, dDelK, dSortedD, dSet, dLstF, dRevF, dSlF, dListF, dSortedF, dSortedDF, dMaxF, dMinF, dInS, dLtA, dNewT, dGetT, dHasT, dctT, tkOf, keysOf, dTupP, dPutT, dPutP, putTk, pkOf, dSortedTF, dGet1, dGet2, dGet2T, dDisp1, dRep, dInt, dBits, dExtend, dReverse, dMaxDf, dCat, dCatF, dExtL, dDcT, Option.isSome_some, List.getElem?_cons_zero, List.getElem?_cons_succ, List.set_cons_zero, List.set_cons_succ, atI_0, atI_1, atI_2, atI_3, atI_4, atI_5, ixN_0, ixN_1, ixN_2, ixN_3, ixN_4, ixN_5, up_same, List.length_cons, List.length_nil, Bool.not_true, Bool.not_false, Bool.false_eq_true, if_true, if_false, reduceIte, dSeq, hb, hc, bagV, List.length_map]
    by_cases h1 : rem = 0
    · simp only [h1, decide_true, if_true]
      by_cases h2 : pos < (cells.length : Int)
      · obtain ⟨z, hz, _⟩ := atI_int hp h2
        simp only [h2, decide_true, if_true, hz]
        simp only [dIfS, dAndT, dOrT, dNotT, dTest, dTruth, dTru, dAndV, dOrV, dNotV, dIf, dOp, dUn, dVar, dC, dI, dIc, dAdd, dSub, dMul, dFd, dMod, dPow, dNeg, dLt, dLe, dGt, dGe, dEq, dNe, dIsN, dNotN, DL.isNon, dIx, dSl, dPart, dNoPart, dCB, dLen, dAbs, dList, dTuple, dBls, dSum, dIsi, dIsi2, dtOf, isC, seqOf, lstOf, dCons, dNil, dTup, dLst, dRet, dRetN, dNext, dDrop, dAsg, gN, gsNil, gsCons, gT, gSubD, dSetL, dPar, dAug, dIpAdd, dIpSub, dCall, pick_nil, pick_p, pick_k, pick_d, dBreak, dCont, dLM, dLM0, isL, dAppend, dInsert, dPop, dPopAt, dRevL, dStr, dFmt, dJs, dMax2, dMin2, dSorted, dNewK, dctOf, dGetK, dHasK, DL.keyOf, dPutK, dDelK, dSortedD, dSet, dLstF, dRevF, dSlF, dListF, dSortedF, dSortedDF, dMaxF, dMinF, dInS, dLtA, dNewT, dGetT, dHasT, dctT, tkOf, keysOf, dTupP, dPutT, dPutP, putTk, pkOf, dSortedTF, dGet1, dGet2, dGet2T, dDisp1, dRep, dInt, dBits, dExtend, dReverse, dMaxDf, dCat, dCatF, dExtL, dDcT, Option.isSome_some, List.getElem?_cons_zero, List.getElem?_cons_succ, List.set_cons_zero, List.set_cons_succ, atI_0, atI_1, atI_2, atI_3, atI_4, atI_5, ixN_0, ixN_1, ixN_2, ixN_3, ixN_4, ixN_5, up_same, List.length_cons, List.length_nil, Bool.not_true, Bool.not_false, Bool.false_eq_true, if_true, if_false, reduceIte, dSeq, hb, hc, bagV, up_ne hcb, up_up]
        refine ⟨⟨by decide, by decide, by decide⟩, ?_⟩
        by_cases h3 : z ≥ 10 ^ 18
        · have h3' : z ≥ 10 ^ (18 : Int).toNat := h3
          simp only [h3', decide_true, if_true]
          exact hN _ _ ⟨⟨_, rfl⟩, pos + 1, z, seed, cnt, up_same, by rw [up_ne hcb]; exact hc, by omega, by omega, hs, hs2, fun a o n e => by rw [up_ne n]; exact e⟩
        · have h3' : ¬ z ≥ 10 ^ (18 : Int).toNat := h3
          simp only [h3', decide_false, Bool.false_eq_true, if_false]
          refine ⟨Mok.l (by omega) (by omega), by decide, Mok.r (by decide) (by decide), by decide, hN _ _ ⟨⟨_, rfl⟩, pos + 1, rem, _, cnt, by rw [h1]; exact up_same, by rw [up_ne hcb]; exact hc, by omega, by omega, Int.emod_nonneg _ (by decide), Int.emod_lt_of_pos _ (by decide), fun a o n e => by rw [up_ne n]; exact e⟩⟩
      · simp only [h2, decide_false, Bool.false_eq_true, if_false]
        exact hN _ _ ⟨⟨_, rfl⟩, pos, rem, seed, cnt, hb, hc, hp, hr, hs, hs2, fun a o _ e => e⟩
    · simp only [h1, decide_false, Bool.false_eq_true, if_false]
      exact hN _ _ ⟨⟨_, rfl⟩, pos, rem, seed, cnt, hb, hc, hp, hr, hs, hs2, fun a o _ e => e⟩
  · rintro _ O' ⟨⟨x, rfl⟩, pos, rem, seed, cnt, hb, hc, hp, hr, hs, hs2, hk⟩
    simp only [dIfS, dAndT, dOrT, dNotT, dTest, dTruth, dTru, dAndV, dOrV, dNotV, dIf, dOp, dUn, dVar, dC, dI, dIc, dAdd, dSub, dMul, dFd, dMod, dPow, dNeg, dLt, dLe, dGt, dGe, dEq, dNe, dIsN, dNotN, DL.isNon, dIx, dSl, dPart, dNoPart, dCB, dLen, dAbs, dList, dTuple, dBls, dSum, dIsi, dIsi2, dtOf, isC, seqOf, lstOf, dCons, dNil, dTup, dLst, dRet, dRetN, dNext, dDrop, dAsg, gN, gsNil, gsCons, gT, gSubD, dSetL, dPar, dAug, dIpAdd, dIpSub, dCall, pick_nil, pick_p, pick_k, pick_d, dBreak, dCont, dLM, dLM0, isL, dAppend, dInsert, dPop, dPopAt, dRevL, dStr, dFmt, dJs, dMax2, dMin2, dSorted, dNewK, dctOf, dGetK, dHasK, DL.keyOf, dPutK, dDelK, dSortedD, dSet, dLstF, dRevF, dSlF, dListF, dSortedF, dSortedDF, dMaxF, dMinF, dInS, dLtA, dNewT, dGetT, dHasT, dctT, tkOf, keysOf, dTupP, dPutT, dPutP, putTk, pkOf, dSortedTF, dGet1, dGet2, dGet2T, dDisp1, dRep, dInt, dBits, dExtend, dReverse, dMaxDf, dCat, dCatF, dExtL, dDcT, Option.isSome_some, List.getElem?_cons_zero, List.getElem?_cons_succ, List.set_cons_zero, List.set_cons_succ, atI_0, atI_1, atI_2, atI_3, atI_4, atI_5, ixN_0, ixN_1, ixN_2, ixN_3, ixN_4, ixN_5, up_same, List.length_cons, List.length_nil, Bool.not_true, Bool.not_false, Bool.false_eq_true, if_true, if_false, reduceIte, dSeq, hb, hc, bagV, up_ne hcb, up_up]
    by_cases h1 : rem > 0
    · simp only [h1, decide_true, if_true]
      have hm := Int.emod_lt_of_pos rem (show 0 < n by omega)
      have hm0 := Int.emod_nonneg rem (show n ≠ 0 by omega)
      refine ⟨by omega, Dok.of (by omega) hn2, Fin.here (k _ _ hm0 hm ?_)⟩
      have q := bag_put (pos := pos) (rem := rem / n) (seed := seed) (cnt := cnt) (cell_of hb) hc hcb hp (Int.ediv_nonneg (by omega) (by omega)) hs hs2
      exact ⟨q.1, fun a o n e => q.2 a o n (hk a o n e), (q.cell.trans ((cell_of hb).trans h0.symm))⟩
    · simp only [h1, decide_false, Bool.false_eq_true, if_false]
      refine ⟨⟨by decide, by decide, by omega⟩, Mok.l (by decide) (by decide), Mok.l (by decide) (by decide), by decide, Dok.small (by decide) (by decide), by decide, Mok.r (by decide) (by decide), by omega, Fin.here (k _ _ (Int.emod_nonneg _ (by omega)) (Int.emod_lt_of_pos _ (by omega)) ?_)⟩
      have q := bag_put (pos := pos) (rem := rem) (seed := (seed ^ (3 : Int).toNat + 40692 * seed + 7919 * (cnt + 1)) % 2147483647) (cnt := cnt + 1) (cell_of hb) hc hcb hp hr (Int.emod_nonneg _ (by decide)) (Int.emod_lt_of_pos _ (by decide))
      exact ⟨q.1, fun a o n e => q.2 a o n (hk a o n e), (q.cell.trans ((cell_of hb).trans h0.symm))⟩
/-- a thing that is no part of the bag is written -/
theorem Bag.put {O : Om} {b p : Addr} {o : DO} (h : Bag O b) (hn : p ≠ b) (hc : cellOf O b ≠ some p) : Bag (DL.up O p o) b := by
  obtain ⟨c, cells, pos, rem, seed, cnt, h1, h2, h3⟩ := h
  refine ⟨c, cells, pos, rem, seed, cnt, by rw [up_ne (fun z => hn z.symm)]; exact h1, ?_, h3⟩
  rw [up_ne (fun z => hc (by rw [cell_of h1, z]))]
  exact h2
theorem Bag.free {O : Om} {b p : Addr} (h : Bag O b) (hp : O p = none) : p ≠ b ∧ cellOf O b ≠ some p := by
  obtain ⟨c, cells, pos, rem, seed, cnt, h1, h2, h3⟩ := h
  refine ⟨fun z => (by subst z; rw [hp] at h1; cases h1), fun z => ?_⟩
  rw [cell_of h1] at z
  cases z
  rw [hp] at h2
  cases h2
/-- what was new at O is written -/
theorem Bst.put {b p : Addr} {O O' : Om} {o : DO} (h : Bst b O O') (h0 : Bag O b) (hp : O p = none) : Bst b O (DL.up O' p o) := by
  obtain ⟨n1, n2⟩ := h0.free hp
  refine ⟨h.1.put n1 (by rw [h.cell]; exact n2), fun a u hn e => ?_, by rw [cell_up n1, h.cell]⟩
  rw [up_ne (fun z => by subst z; rw [hp] at e; cases e)]
  exact h.2 a u hn e
end Lw
set_option linter.all false
set_option maxRecDepth 100000
set_option maxHeartbeats 2000000
namespace Lw
open PySem PySem.Spec PyProof.Rows L2 DL
open Evl (Ex)
/-! ### parts -/
def Smi (i : Int) : Prop := i.natAbs.log2 < 60000000
theorem Smi.mok {i j : Int} (h : Smi i) (k : Smi j) : Mok i j := .inr (by unfold Smi at h k; omega)
theorem Smi.of {i : Int} {a : Nat} (h : i.natAbs < 2 ^ a) (h0 : 0 < a) (h1 : a ≤ 60000000) : Smi i := Nat.lt_of_lt_of_le (log2_lt h0 h) h1
theorem Smi.lit {i : Int} (h1 : -1000000000000000000 ≤ i) (h2 : i ≤ 1000000000000000000) : Smi i := Smi.of (a := 64) (by omega) (by decide) (by decide)
abbrev Pt := Int × Int
def pD (p : Pt) : D := .tup [.int p.1, .int p.2]
def SmP (p : Pt) : Prop := Smi p.1 ∧ Smi p.2
def ltP (p q : Pt) : Bool := decide (p.1 * q.2 < q.1 * p.2)
def lowP (p q : Int) : Pt := (p / (Int.gcd p q : Int), q / (Int.gcd p q : Int))
def t_law_less : DS :=
  (dRet (dOp dLt (dOp dMul (dOp dIx (dVar 0) (dC (.int 0))) (dOp dIx (dVar 1) (dC (.int 1)))) (dOp dMul (dOp dIx (dVar 1) (dC (.int 0))) (dOp dIx (dVar 0) (dC (.int 1))))))
def n_law_less : List Str := ["_law_p", "_law_q"]
def sp_law_less : DSp := fun xs O R _ => ∃ p q : Pt, xs = [pD p, pD q] ∧ SmP p ∧ SmP q ∧ R (.bl (ltP p q)) O
theorem d_law_less : ∀ xs O R Z, sp_law_less xs O R Z → t_law_less (ends R) (startD n_law_less xs) O := by
  rintro _ O R Z ⟨p, q, rfl, hp, hq, h⟩
  show t_law_less (ends R) [some (pD p), some (pD q)] O
  simp only [dIfS, dAndT, dOrT, dNotT, dTest, dTruth, dTru, dAndV, dOrV, dNotV, dIf, dOp, dUn, dVar, dC, dI, dIc, dAdd, dSub, dMul, dFd, dMod, dPow, dNeg, dLt, dLe, dGt, dGe, dEq, dNe, dIsN, dNotN, DL.isNon, dIx, dSl, dPart, dNoPart, dCB, dLen, dAbs, dList, dTuple, dBls, dSum, dIsi, dIsi2, dtOf, isC, seqOf, lstOf, dCons, dNil, dTup, dLst, dRet, dRetN, dNext, dDrop, dAsg, gN, gsNil, gsCons, gT, gSubD, dSetL, dPar, dAug, dIpAdd, dIpSub, dCall, pick_nil, pick_p, pick_k, pick_d, dBreak, dCont, dLM, dLM0, isL, dAppend, dInsert, dPop, dPopAt, dRevL, dStr, dFmt, dJs, dMax2, dMin2, dSorted, dNewK, dctOf, dGetK, dHasK, DL.keyOf, dPutK, dDelK, dSortedD, dSet, dLstF, dRevF, dSlF, dListF, dSortedF, dSortedDF, dMaxF, dMinF, dInS, dLtA, dNewT, dGetT, dHasT, dctT, tkOf, keysOf, dTupP, dPutT, dPutP, putTk, pkOf, dSortedTF, dGet1, dGet2, dGet2T, dDisp1, dRep, dInt, dBits, dExtend, dReverse, dMaxDf, dCat, dCatF, dExtL, dDcT, Option.isSome_some, List.getElem?_cons_zero, List.getElem?_cons_succ, List.set_cons_zero, List.set_cons_succ, atI_0, atI_1, atI_2, atI_3, atI_4, atI_5, ixN_0, ixN_1, ixN_2, ixN_3, ixN_4, ixN_5, up_same, List.length_cons, List.length_nil, Bool.not_true, Bool.not_false, Bool.false_eq_true, if_true, if_false, reduceIte, dSeq, t_law_less, pD]
  exact ⟨hp.1.mok hq.2, hq.1.mok hp.2, Fin.here h⟩
def t_below : DS :=
  (dRet (dOp dLt (dOp dMul (dOp dIx (dVar 0) (dC (.int 0))) (dOp dIx (dVar 1) (dC (.int 1)))) (dOp dMul (dOp dIx (dVar 1) (dC (.int 0))) (dOp dIx (dVar 0) (dC (.int 1))))))
def n_below : List Str := ["one", "other"]
def sp_below : DSp := fun xs O R _ => ∃ p q : Pt, xs = [pD p, pD q] ∧ SmP p ∧ SmP q ∧ R (.bl (ltP p q)) O
theorem d_below : ∀ xs O R Z, sp_below xs O R Z → t_below (ends R) (startD n_below xs) O := by
  rintro _ O R Z ⟨p, q, rfl, hp, hq, h⟩
  show t_below (ends R) [some (pD p), some (pD q)] O
  simp only [dIfS, dAndT, dOrT, dNotT, dTest, dTruth, dTru, dAndV, dOrV, dNotV, dIf, dOp, dUn, dVar, dC, dI, dIc, dAdd, dSub, dMul, dFd, dMod, dPow, dNeg, dLt, dLe, dGt, dGe, dEq, dNe, dIsN, dNotN, DL.isNon, dIx, dSl, dPart, dNoPart, dCB, dLen, dAbs, dList, dTuple, dBls, dSum, dIsi, dIsi2, dtOf, isC, seqOf, lstOf, dCons, dNil, dTup, dLst, dRet, dRetN, dNext, dDrop, dAsg, gN, gsNil, gsCons, gT, gSubD, dSetL, dPar, dAug, dIpAdd, dIpSub, dCall, pick_nil, pick_p, pick_k, pick_d, dBreak, dCont, dLM, dLM0, isL, dAppend, dInsert, dPop, dPopAt, dRevL, dStr, dFmt, dJs, dMax2, dMin2, dSorted, dNewK, dctOf, dGetK, dHasK, DL.keyOf, dPutK, dDelK, dSortedD, dSet, dLstF, dRevF, dSlF, dListF, dSortedF, dSortedDF, dMaxF, dMinF, dInS, dLtA, dNewT, dGetT, dHasT, dctT, tkOf, keysOf, dTupP, dPutT, dPutP, putTk, pkOf, dSortedTF, dGet1, dGet2, dGet2T, dDisp1, dRep, dInt, dBits, dExtend, dReverse, dMaxDf, dCat, dCatF, dExtL, dDcT, Option.isSome_some, List.getElem?_cons_zero, List.getElem?_cons_succ, List.set_cons_zero, List.set_cons_succ, atI_0, atI_1, atI_2, atI_3, atI_4, atI_5, ixN_0, ixN_1, ixN_2, ixN_3, ixN_4, ixN_5, up_same, List.length_cons, List.length_nil, Bool.not_true, Bool.not_false, Bool.false_eq_true, if_true, if_false, reduceIte, dSeq, t_below, pD]
  exact ⟨hp.1.mok hq.2, hq.1.mok hp.2, Fin.here h⟩
/-- a box: its ends, the rest -/
def bxD (l r : Pt) (x y : D) : D := .tup [pD l, pD r, x, y]
def meetP (l r l' r' : Pt) : Bool := ltP l r' && ltP l' r
def t_law_meet : DS :=
  (dRet (dAndV (dCall sp_law_less [.p 0, .p 1] [] (dCons (dOp dIx (dVar 0) (dC (.int 0))) (dCons (dOp dIx (dVar 1) (dC (.int 1))) dNil)) dNil) (dCall sp_law_less [.p 0, .p 1] [] (dCons (dOp dIx (dVar 1) (dC (.int 0))) (dCons (dOp dIx (dVar 0) (dC (.int 1))) dNil)) dNil)))
def n_law_meet : List Str := ["_law_a", "_law_b"]
def sp_law_meet : DSp := fun xs O R _ => ∃ (l r l' r' : Pt) (us ws : List D), xs = [.tup (pD l :: pD r :: us), .tup (pD l' :: pD r' :: ws)] ∧ SmP l ∧ SmP r ∧ SmP l' ∧ SmP r' ∧ R (.bl (meetP l r l' r')) O
theorem d_law_meet : ∀ xs O R Z, sp_law_meet xs O R Z → t_law_meet (ends R) (startD n_law_meet xs) O := by
  rintro _ O R Z ⟨l, r, l', r', us, ws, rfl, h1, h2, h3, h4, h⟩
  show t_law_meet (ends R) [some (.tup (pD l :: pD r :: us)), some (.tup (pD l' :: pD r' :: ws))] O
  simp only [dIfS, dAndT, dOrT, dNotT, dTest, dTruth, dTru, dAndV, dOrV, dNotV, dIf, dOp, dUn, dVar, dC, dI, dIc, dAdd, dSub, dMul, dFd, dMod, dPow, dNeg, dLt, dLe, dGt, dGe, dEq, dNe, dIsN, dNotN, DL.isNon, dIx, dSl, dPart, dNoPart, dCB, dLen, dAbs, dList, dTuple, dBls, dSum, dIsi, dIsi2, dtOf, isC, seqOf, lstOf, dCons, dNil, dTup, dLst, dRet, dRetN, dNext, dDrop, dAsg, gN, gsNil, gsCons, gT, gSubD, dSetL, dPar, dAug, dIpAdd, dIpSub, dCall, pick_nil, pick_p, pick_k, pick_d, dBreak, dCont, dLM, dLM0, isL, dAppend, dInsert, dPop, dPopAt, dRevL, dStr, dFmt, dJs, dMax2, dMin2, dSorted, dNewK, dctOf, dGetK, dHasK, DL.keyOf, dPutK, dDelK, dSortedD, dSet, dLstF, dRevF, dSlF, dListF, dSortedF, dSortedDF, dMaxF, dMinF, dInS, dLtA, dNewT, dGetT, dHasT, dctT, tkOf, keysOf, dTupP, dPutT, dPutP, putTk, pkOf, dSortedTF, dGet1, dGet2, dGet2T, dDisp1, dRep, dInt, dBits, dExtend, dReverse, dMaxDf, dCat, dCatF, dExtL, dDcT, Option.isSome_some, List.getElem?_cons_zero, List.getElem?_cons_succ, List.set_cons_zero, List.set_cons_succ, atI_0, atI_1, atI_2, atI_3, atI_4, atI_5, ixN_0, ixN_1, ixN_2, ixN_3, ixN_4, ixN_5, up_same, List.length_cons, List.length_nil, Bool.not_true, Bool.not_false, Bool.false_eq_true, if_true, if_false, reduceIte, dSeq, t_law_meet, bxD]
  refine ⟨l, r', rfl, h1, h4, ?_⟩
  unfold meetP at h
  cases e : ltP l r' with
  | false => rw [e, Bool.false_and] at h; exact Fin.here h
  | true =>
    rw [e, Bool.true_and] at h
    exact ⟨l', r, rfl, h3, h2, Fin.here h⟩
def t_over_v1 : DS :=
  (dRet (dAndV (dCall sp_below [.p 0, .p 1] [] (dCons (dOp dIx (dVar 0) (dC (.int 0))) (dCons (dOp dIx (dVar 1) (dC (.int 1))) dNil)) dNil) (dCall sp_below [.p 0, .p 1] [] (dCons (dOp dIx (dVar 1) (dC (.int 0))) (dCons (dOp dIx (dVar 0) (dC (.int 1))) dNil)) dNil)))
def n_over_v1 : List Str := ["one", "other"]
def sp_over_v1 : DSp := fun xs O R _ => ∃ (l r l' r' : Pt) (us ws : List D), xs = [.tup (pD l :: pD r :: us), .tup (pD l' :: pD r' :: ws)] ∧ SmP l ∧ SmP r ∧ SmP l' ∧ SmP r' ∧ R (.bl (meetP l r l' r')) O
theorem d_over_v1 : ∀ xs O R Z, sp_over_v1 xs O R Z → t_over_v1 (ends R) (startD n_over_v1 xs) O := by
  rintro _ O R Z ⟨l, r, l', r', us, ws, rfl, h1, h2, h3, h4, h⟩
  show t_over_v1 (ends R) [some (.tup (pD l :: pD r :: us)), some (.tup (pD l' :: pD r' :: ws))] O
  simp only [dIfS, dAndT, dOrT, dNotT, dTest, dTruth, dTru, dAndV, dOrV, dNotV, dIf, dOp, dUn, dVar, dC, dI, dIc, dAdd, dSub, dMul, dFd, dMod, dPow, dNeg, dLt, dLe, dGt, dGe, dEq, dNe, dIsN, dNotN, DL.isNon, dIx, dSl, dPart, dNoPart, dCB, dLen, dAbs, dList, dTuple, dBls, dSum, dIsi, dIsi2, dtOf, isC, seqOf, lstOf, dCons, dNil, dTup, dLst, dRet, dRetN, dNext, dDrop, dAsg, gN, gsNil, gsCons, gT, gSubD, dSetL, dPar, dAug, dIpAdd, dIpSub, dCall, pick_nil, pick_p, pick_k, pick_d, dBreak, dCont, dLM, dLM0, isL, dAppend, dInsert, dPop, dPopAt, dRevL, dStr, dFmt, dJs, dMax2, dMin2, dSorted, dNewK, dctOf, dGetK, dHasK, DL.keyOf, dPutK, dDelK, dSortedD, dSet, dLstF, dRevF, dSlF, dListF, dSortedF, dSortedDF, dMaxF, dMinF, dInS, dLtA, dNewT, dGetT, dHasT, dctT, tkOf, keysOf, dTupP, dPutT, dPutP, putTk, pkOf, dSortedTF, dGet1, dGet2, dGet2T, dDisp1, dRep, dInt, dBits, dExtend, dReverse, dMaxDf, dCat, dCatF, dExtL, dDcT, Option.isSome_some, List.getElem?_cons_zero, List.getElem?_cons_succ, List.set_cons_zero, List.set_cons_succ, atI_0, atI_1, atI_2, atI_3, atI_4, atI_5, ixN_0, ixN_1, ixN_2, ixN_3, ixN_4, ixN_5, up_same, List.length_cons, List.length_nil, Bool.not_true, Bool.not_false, Bool.false_eq_true, if_true, if_false, reduceIte, dSeq, t_over_v1, bxD]
  refine ⟨l, r', rfl, h1, h4, ?_⟩
  unfold meetP at h
  cases e : ltP l r' with
  | false => rw [e, Bool.false_and] at h; exact Fin.here h
  | true =>
    rw [e, Bool.true_and] at h
    exact ⟨l', r, rfl, h3, h2, Fin.here h⟩
/-! ### lowest terms -/
def t_law_low : DS :=
  (dSeq (dSet 2 (dCall sp_law_gcd [.p 0, .p 1] [] (dCons (dVar 0) (dCons (dVar 1) dNil)) dNil))
  (dRet (dTup (dCons (dOp dFd (dVar 0) (dVar 2)) (dCons (dOp dFd (dVar 1) (dVar 2)) dNil)))))
def n_law_low : List Str := ["_law_p", "_law_q", "_law_by"]
theorem gcd_pos {p q : Int} (h : 0 < q) : (0 : Int) < (Int.gcd p q : Int) := by
  have : Int.gcd p q ≠ 0 := by
    intro e
    have := Int.gcd_eq_zero_iff.mp e
    omega
  omega
theorem gcd_le {p q : Int} (h : 0 < q) : (Int.gcd p q : Int) ≤ q := Int.le_of_dvd h (Int.gcd_dvd_right ..)
theorem log2_mono {m n : Nat} (h : m ≤ n) : m.log2 ≤ n.log2 := by
  by_cases hm : m = 0
  · subst hm; simp
  · have h1 : 2 ^ m.log2 ≤ m := Nat.log2_self_le hm
    exact (Nat.le_log2 (by omega)).mpr (Nat.le_trans h1 h)
def sp_law_low : DSp := fun xs O R _ => ∃ p q : Int, xs = [.int p, .int q] ∧ 0 < q ∧ q.natAbs.log2 < 9000 ∧ R (pD (lowP p q)) O
theorem d_law_low : ∀ xs O R Z, sp_law_low xs O R Z → t_law_low (ends R) (startD n_law_low xs) O := by
  rintro _ O R Z ⟨p, q, rfl, hq, hq2, h⟩
  show t_law_low (ends R) [some (.int p), some (.int q), none] O
  simp only [dIfS, dAndT, dOrT, dNotT, dTest, dTruth, dTru, dAndV, dOrV, dNotV, dIf, dOp, dUn, dVar, dC, dI, dIc, dAdd, dSub, dMul, dFd, dMod, dPow, dNeg, dLt, dLe, dGt, dGe, dEq, dNe, dIsN, dNotN, DL.isNon, dIx, dSl, dPart, dNoPart, dCB, dLen, dAbs, dList, dTuple, dBls, dSum, dIsi, dIsi2, dtOf, isC, seqOf, lstOf, dCons, dNil, dTup, dLst, dRet, dRetN, dNext, dDrop, dAsg, gN, gsNil, gsCons, gT, gSubD, dSetL, dPar, dAug, dIpAdd, dIpSub, dCall, pick_nil, pick_p, pick_k, pick_d, dBreak, dCont, dLM, dLM0, isL, dAppend, dInsert, dPop, dPopAt, dRevL, dStr, dFmt, dJs, dMax2, dMin2, dSorted, dNewK, dctOf, dGetK, dHasK, DL.keyOf, dPutK, dDelK, dSortedD, dSet, dLstF, dRevF, dSlF, dListF, dSortedF, dSortedDF, dMaxF, dMinF, dInS, dLtA, dNewT, dGetT, dHasT, dctT, tkOf, keysOf, dTupP, dPutT, dPutP, putTk, pkOf, dSortedTF, dGet1, dGet2, dGet2T, dDisp1, dRep, dInt, dBits, dExtend, dReverse, dMaxDf, dCat, dCatF, dExtL, dDcT, Option.isSome_some, List.getElem?_cons_zero, List.getElem?_cons_succ, List.set_cons_zero, List.set_cons_succ, atI_0, atI_1, atI_2, atI_3, atI_4, atI_5, ixN_0, ixN_1, ixN_2, ixN_3, ixN_4, ixN_5, up_same, List.length_cons, List.length_nil, Bool.not_true, Bool.not_false, Bool.false_eq_true, if_true, if_false, reduceIte, dSeq, t_law_low]
  have g1 := gcd_pos (p := p) hq
  have g2 : ((Int.gcd p q : Nat) : Int).natAbs.log2 < 9000 := Nat.lt_of_le_of_lt (log2_mono (by have := gcd_le (p := p) hq; omega)) hq2
  exact ⟨p, q, rfl, Dok.of g1 g2, Dok.of g1 g2, Fin.here h⟩
/-- a part in lowest terms -/
structure Low (p : Pt) : Prop where
  pos : 0 < p.2
  co : Int.gcd p.1 p.2 = 1
theorem low_Low {p q : Int} (h : 0 < q) : Low (lowP p q) := by
  have g1 := gcd_pos (p := p) h
  have d1 : (Int.gcd p q : Int) ∣ p := Int.gcd_dvd_left ..
  have d2 : (Int.gcd p q : Int) ∣ q := Int.gcd_dvd_right ..
  refine ⟨?_, ?_⟩
  · show 0 < q / (Int.gcd p q : Int)
    exact Int.ediv_pos_of_pos_of_dvd h (by omega) d2
  · show Int.gcd (p / (Int.gcd p q : Int)) (q / (Int.gcd p q : Int)) = 1
    rw [Int.gcd_ediv d1 d2]
    simp only [Int.natAbs_natCast]
    exact Nat.div_self (by omega)
theorem low_cross {p q : Int} (h : 0 < q) : (lowP p q).1 * q = p * (lowP p q).2 := by
  have d1 : (Int.gcd p q : Int) ∣ p := Int.gcd_dvd_left ..
  have d2 : (Int.gcd p q : Int) ∣ q := Int.gcd_dvd_right ..
  show p / (Int.gcd p q : Int) * q = p * (q / (Int.gcd p q : Int))
  obtain ⟨a, ha⟩ := d1
  obtain ⟨b, hb⟩ := d2
  have g1 := gcd_pos (p := p) h
  generalize (Int.gcd p q : Int) = g at *
  subst ha hb
  rw [Int.mul_ediv_cancel_left _ (by omega), Int.mul_ediv_cancel_left _ (by omega)]
  rw [Int.mul_comm g a, Int.mul_assoc]
theorem low_le {p q : Int} (h : 0 < q) : (lowP p q).1.natAbs ≤ p.natAbs ∧ (lowP p q).2.natAbs ≤ q.natAbs :=
  ⟨Int.natAbs_ediv_le_natAbs _ _, Int.natAbs_ediv_le_natAbs _ _⟩
def addP (p q : Pt) : Pt := lowP (p.1 * q.2 + q.1 * p.2) (p.2 * q.2)
def t_law_add : DS :=
  (dRet (dCall sp_law_low [.p 0, .p 1] [] (dCons (dOp dAdd (dOp dMul (dOp dIx (dVar 0) (dC (.int 0))) (dOp dIx (dVar 1) (dC (.int 1)))) (dOp dMul (dOp dIx (dVar 1) (dC (.int 0))) (dOp dIx (dVar 0) (dC (.int 1))))) (dCons (dOp dMul (dOp dIx (dVar 0) (dC (.int 1))) (dOp dIx (dVar 1) (dC (.int 1)))) dNil)) dNil))
def n_law_add : List Str := ["_law_p", "_law_q"]
def sp_law_add : DSp := fun xs O R _ => ∃ p q : Pt, xs = [pD p, pD q] ∧ SmP p ∧ SmP q ∧ 0 < p.2 ∧ 0 < q.2 ∧ (p.2 * q.2).natAbs.log2 < 9000 ∧ R (pD (addP p q)) O
theorem d_law_add : ∀ xs O R Z, sp_law_add xs O R Z → t_law_add (ends R) (startD n_law_add xs) O := by
  rintro _ O R Z ⟨p, q, rfl, hp, hq, h1, h2, h3, h⟩
  show t_law_add (ends R) [some (pD p), some (pD q)] O
  simp only [dIfS, dAndT, dOrT, dNotT, dTest, dTruth, dTru, dAndV, dOrV, dNotV, dIf, dOp, dUn, dVar, dC, dI, dIc, dAdd, dSub, dMul, dFd, dMod, dPow, dNeg, dLt, dLe, dGt, dGe, dEq, dNe, dIsN, dNotN, DL.isNon, dIx, dSl, dPart, dNoPart, dCB, dLen, dAbs, dList, dTuple, dBls, dSum, dIsi, dIsi2, dtOf, isC, seqOf, lstOf, dCons, dNil, dTup, dLst, dRet, dRetN, dNext, dDrop, dAsg, gN, gsNil, gsCons, gT, gSubD, dSetL, dPar, dAug, dIpAdd, dIpSub, dCall, pick_nil, pick_p, pick_k, pick_d, dBreak, dCont, dLM, dLM0, isL, dAppend, dInsert, dPop, dPopAt, dRevL, dStr, dFmt, dJs, dMax2, dMin2, dSorted, dNewK, dctOf, dGetK, dHasK, DL.keyOf, dPutK, dDelK, dSortedD, dSet, dLstF, dRevF, dSlF, dListF, dSortedF, dSortedDF, dMaxF, dMinF, dInS, dLtA, dNewT, dGetT, dHasT, dctT, tkOf, keysOf, dTupP, dPutT, dPutP, putTk, pkOf, dSortedTF, dGet1, dGet2, dGet2T, dDisp1, dRep, dInt, dBits, dExtend, dReverse, dMaxDf, dCat, dCatF, dExtL, dDcT, Option.isSome_some, List.getElem?_cons_zero, List.getElem?_cons_succ, List.set_cons_zero, List.set_cons_succ, atI_0, atI_1, atI_2, atI_3, atI_4, atI_5, ixN_0, ixN_1, ixN_2, ixN_3, ixN_4, ixN_5, up_same, List.length_cons, List.length_nil, Bool.not_true, Bool.not_false, Bool.false_eq_true, if_true, if_false, reduceIte, dSeq, t_law_add, pD]
  exact ⟨hp.1.mok hq.2, hq.1.mok hp.2, hp.2.mok hq.2, _, _, rfl, Int.mul_pos h1 h2, h3, Fin.here h⟩
/-! ### the draws of parts -/
def t_law_part : DS :=
  (dRet (dCall sp_law_low [.p 0, .p 1] [] (dCons (dOp dSub (dCall sp_law_pull [.p 0, .p 1] [] (dCons (dVar 0) (dCons (dOp dAdd (dOp dMul (dC (.int 2)) (dVar 1)) (dC (.int 1))) dNil)) dNil) (dVar 1)) (dCons (dOp dAdd (dC (.int 1)) (dCall sp_law_pull [.p 0, .p 1] [] (dCons (dVar 0) (dCons (dOp dIx (dLst (dCons (dC (.int 1)) (dCons (dC (.int 4)) (dCons (dC (.int 12)) (dCons (dVar 1) dNil))))) (dCall sp_law_pull [.p 0, .p 1] [] (dCons (dVar 0) (dCons (dC (.int 4)) dNil)) dNil)) dNil)) dNil)) dNil)) dNil))
def n_law_part : List Str := ["_law_bag_here", "_law_wide"]
/-- of a part: lowest terms, its numbers at most n -/
def PtN (n : Int) (p : Pt) : Prop := Low p ∧ -n ≤ p.1 ∧ p.1 ≤ n ∧ p.2 ≤ n
def sp_law_part : DSp := fun xs O R _ => ∃ (b : Addr) (n : Int), xs = [.ref b, .int n] ∧ 1 ≤ n ∧ n ≤ 1000000 ∧ Bag O b ∧ ∀ p O', PtN (n + 13) p → Bst b O O' → R (pD p) O'
theorem log_small {n : Int} (h0 : 0 ≤ n) (h : n < 2 ^ 62) : n.natAbs.log2 < 9000 := Nat.lt_of_lt_of_le (log2_lt (a := 62) (by decide) (by omega)) (by decide)
theorem d_law_part : ∀ xs O R Z, sp_law_part xs O R Z → t_law_part (ends R) (startD n_law_part xs) O := by
  rintro _ O R Z ⟨b, n, rfl, h1, h2, hb, k⟩
  show t_law_part (ends R) [some (.ref b), some (.int n)] O
  simp only [dIfS, dAndT, dOrT, dNotT, dTest, dTruth, dTru, dAndV, dOrV, dNotV, dIf, dOp, dUn, dVar, dC, dI, dIc, dAdd, dSub, dMul, dFd, dMod, dPow, dNeg, dLt, dLe, dGt, dGe, dEq, dNe, dIsN, dNotN, DL.isNon, dIx, dSl, dPart, dNoPart, dCB, dLen, dAbs, dList, dTuple, dBls, dSum, dIsi, dIsi2, dtOf, isC, seqOf, lstOf, dCons, dNil, dTup, dLst, dRet, dRetN, dNext, dDrop, dAsg, gN, gsNil, gsCons, gT, gSubD, dSetL, dPar, dAug, dIpAdd, dIpSub, dCall, pick_nil, pick_p, pick_k, pick_d, dBreak, dCont, dLM, dLM0, isL, dAppend, dInsert, dPop, dPopAt, dRevL, dStr, dFmt, dJs, dMax2, dMin2, dSorted, dNewK, dctOf, dGetK, dHasK, DL.keyOf, dPutK, dDelK, dSortedD, dSet, dLstF, dRevF, dSlF, dListF, dSortedF, dSortedDF, dMaxF, dMinF, dInS, dLtA, dNewT, dGetT, dHasT, dctT, tkOf, keysOf, dTupP, dPutT, dPutP, putTk, pkOf, dSortedTF, dGet1, dGet2, dGet2T, dDisp1, dRep, dInt, dBits, dExtend, dReverse, dMaxDf, dCat, dCatF, dExtL, dDcT, Option.isSome_some, List.getElem?_cons_zero, List.getElem?_cons_succ, List.set_cons_zero, List.set_cons_succ, atI_0, atI_1, atI_2, atI_3, atI_4, atI_5, ixN_0, ixN_1, ixN_2, ixN_3, ixN_4, ixN_5, up_same, List.length_cons, List.length_nil, Bool.not_true, Bool.not_false, Bool.false_eq_true, if_true, if_false, reduceIte, dSeq, t_law_part]
  refine ⟨Mok.l (by decide) (by decide), b, _, rfl, by omega, log_small (by omega) (by omega), hb, fun r O1 r0 r1 s1 p hp => ⟨b, _, rfl, by omega, log_small (by omega) (by omega), s1.1.up hp, fun r2 O2 r20 r21 s2 => ?_⟩⟩
  have hl : O2 p = some (.lst [.int 1, .int 4, .int 12, .int n]) := s2.2 p _ (by
    obtain ⟨c, cells, pos, rem, seed, cnt, e1, e2, _⟩ := s1.1
    exact fun z => by subst z; rw [hp] at e1; cases e1) up_same
  simp only [dIfS, dAndT, dOrT, dNotT, dTest, dTruth, dTru, dAndV, dOrV, dNotV, dIf, dOp, dUn, dVar, dC, dI, dIc, dAdd, dSub, dMul, dFd, dMod, dPow, dNeg, dLt, dLe, dGt, dGe, dEq, dNe, dIsN, dNotN, DL.isNon, dIx, dSl, dPart, dNoPart, dCB, dLen, dAbs, dList, dTuple, dBls, dSum, dIsi, dIsi2, dtOf, isC, seqOf, lstOf, dCons, dNil, dTup, dLst, dRet, dRetN, dNext, dDrop, dAsg, gN, gsNil, gsCons, gT, gSubD, dSetL, dPar, dAug, dIpAdd, dIpSub, dCall, pick_nil, pick_p, pick_k, pick_d, dBreak, dCont, dLM, dLM0, isL, dAppend, dInsert, dPop, dPopAt, dRevL, dStr, dFmt, dJs, dMax2, dMin2, dSorted, dNewK, dctOf, dGetK, dHasK, DL.keyOf, dPutK, dDelK, dSortedD, dSet, dLstF, dRevF, dSlF, dListF, dSortedF, dSortedDF, dMaxF, dMinF, dInS, dLtA, dNewT, dGetT, dHasT, dctT, tkOf, keysOf, dTupP, dPutT, dPutP, putTk, pkOf, dSortedTF, dGet1, dGet2, dGet2T, dDisp1, dRep, dInt, dBits, dExtend, dReverse, dMaxDf, dCat, dCatF, dExtL, dDcT, Option.isSome_some, List.getElem?_cons_zero, List.getElem?_cons_succ, List.set_cons_zero, List.set_cons_succ, atI_0, atI_1, atI_2, atI_3, atI_4, atI_5, ixN_0, ixN_1, ixN_2, ixN_3, ixN_4, ixN_5, up_same, List.length_cons, List.length_nil, Bool.not_true, Bool.not_false, Bool.false_eq_true, if_true, if_false, reduceIte, dSeq, hl]
  have fin : ∀ m : Int, 1 ≤ m → m ≤ n + 12 → sp_law_pull [.ref b, .int m] O2 (fun x O3 => match x with | .int j => sp_law_low [.int (r - n), .int (1 + j)] O3 (Fin R) X0 | _ => False) X0 := fun m hm1 hm2 =>
    ⟨b, m, rfl, hm1, log_small (by omega) (by omega), s2.1, fun r3 O3 r30 r31 s3 => ⟨_, _, rfl, by omega, log_small (by omega) (by omega), Fin.here (k _ _ ?_ ?_)⟩⟩
  · have e : r2 = 0 ∨ r2 = 1 ∨ r2 = 2 ∨ r2 = 3 := by omega
    rcases e with rfl | rfl | rfl | rfl
    · simp only [dIfS, dAndT, dOrT, dNotT, dTest, dTruth, dTru, dAndV, dOrV, dNotV, dIf, dOp, dUn, dVar, dC, dI, dIc, dAdd, dSub, dMul, dFd, dMod, dPow, dNeg, dLt, dLe, dGt, dGe, dEq, dNe, dIsN, dNotN, DL.isNon, dIx, dSl, dPart, dNoPart, dCB, dLen, dAbs, dList, dTuple, dBls, dSum, dIsi, dIsi2, dtOf, isC, seqOf, lstOf, dCons, dNil, dTup, dLst, dRet, dRetN, dNext, dDrop, dAsg, gN, gsNil, gsCons, gT, gSubD, dSetL, dPar, dAug, dIpAdd, dIpSub, dCall, pick_nil, pick_p, pick_k, pick_d, dBreak, dCont, dLM, dLM0, isL, dAppend, dInsert, dPop, dPopAt, dRevL, dStr, dFmt, dJs, dMax2, dMin2, dSorted, dNewK, dctOf, dGetK, dHasK, DL.keyOf, dPutK, dDelK, dSortedD, dSet, dLstF, dRevF, dSlF, dListF, dSortedF, dSortedDF, dMaxF, dMinF, dInS, dLtA, dNewT, dGetT, dHasT, dctT, tkOf, keysOf, dTupP, dPutT, dPutP, putTk, pkOf, dSortedTF, dGet1, dGet2, dGet2T, dDisp1, dRep, dInt, dBits, dExtend, dReverse, dMaxDf, dCat, dCatF, dExtL, dDcT, Option.isSome_some, List.getElem?_cons_zero, List.getElem?_cons_succ, List.set_cons_zero, List.set_cons_succ, atI_0, atI_1, atI_2, atI_3, atI_4, atI_5, ixN_0, ixN_1, ixN_2, ixN_3, ixN_4, ixN_5, up_same, List.length_cons, List.length_nil, Bool.not_true, Bool.not_false, Bool.false_eq_true, if_true, if_false, reduceIte, dSeq]
      exact fin 1 (by omega) (by omega)
    · simp only [dIfS, dAndT, dOrT, dNotT, dTest, dTruth, dTru, dAndV, dOrV, dNotV, dIf, dOp, dUn, dVar, dC, dI, dIc, dAdd, dSub, dMul, dFd, dMod, dPow, dNeg, dLt, dLe, dGt, dGe, dEq, dNe, dIsN, dNotN, DL.isNon, dIx, dSl, dPart, dNoPart, dCB, dLen, dAbs, dList, dTuple, dBls, dSum, dIsi, dIsi2, dtOf, isC, seqOf, lstOf, dCons, dNil, dTup, dLst, dRet, dRetN, dNext, dDrop, dAsg, gN, gsNil, gsCons, gT, gSubD, dSetL, dPar, dAug, dIpAdd, dIpSub, dCall, pick_nil, pick_p, pick_k, pick_d, dBreak, dCont, dLM, dLM0, isL, dAppend, dInsert, dPop, dPopAt, dRevL, dStr, dFmt, dJs, dMax2, dMin2, dSorted, dNewK, dctOf, dGetK, dHasK, DL.keyOf, dPutK, dDelK, dSortedD, dSet, dLstF, dRevF, dSlF, dListF, dSortedF, dSortedDF, dMaxF, dMinF, dInS, dLtA, dNewT, dGetT, dHasT, dctT, tkOf, keysOf, dTupP, dPutT, dPutP, putTk, pkOf, dSortedTF, dGet1, dGet2, dGet2T, dDisp1, dRep, dInt, dBits, dExtend, dReverse, dMaxDf, dCat, dCatF, dExtL, dDcT, Option.isSome_some, List.getElem?_cons_zero, List.getElem?_cons_succ, List.set_cons_zero, List.set_cons_succ, atI_0, atI_1, atI_2, atI_3, atI_4, atI_5, ixN_0, ixN_1, ixN_2, ixN_3, ixN_4, ixN_5, up_same, List.length_cons, List.length_nil, Bool.not_true, Bool.not_false, Bool.false_eq_true, if_true, if_false, reduceIte, dSeq]
      exact fin 4 (by omega) (by omega)
    · simp only [dIfS, dAndT, dOrT, dNotT, dTest, dTruth, dTru, dAndV, dOrV, dNotV, dIf, dOp, dUn, dVar, dC, dI, dIc, dAdd, dSub, dMul, dFd, dMod, dPow, dNeg, dLt, dLe, dGt, dGe, dEq, dNe, dIsN, dNotN, DL.isNon, dIx, dSl, dPart, dNoPart, dCB, dLen, dAbs, dList, dTuple, dBls, dSum, dIsi, dIsi2, dtOf, isC, seqOf, lstOf, dCons, dNil, dTup, dLst, dRet, dRetN, dNext, dDrop, dAsg, gN, gsNil, gsCons, gT, gSubD, dSetL, dPar, dAug, dIpAdd, dIpSub, dCall, pick_nil, pick_p, pick_k, pick_d, dBreak, dCont, dLM, dLM0, isL, dAppend, dInsert, dPop, dPopAt, dRevL, dStr, dFmt, dJs, dMax2, dMin2, dSorted, dNewK, dctOf, dGetK, dHasK, DL.keyOf, dPutK, dDelK, dSortedD, dSet, dLstF, dRevF, dSlF, dListF, dSortedF, dSortedDF, dMaxF, dMinF, dInS, dLtA, dNewT, dGetT, dHasT, dctT, tkOf, keysOf, dTupP, dPutT, dPutP, putTk, pkOf, dSortedTF, dGet1, dGet2, dGet2T, dDisp1, dRep, dInt, dBits, dExtend, dReverse, dMaxDf, dCat, dCatF, dExtL, dDcT, Option.isSome_some, List.getElem?_cons_zero, List.getElem?_cons_succ, List.set_cons_zero, List.set_cons_succ, atI_0, atI_1, atI_2, atI_3, atI_4, atI_5, ixN_0, ixN_1, ixN_2, ixN_3, ixN_4, ixN_5, up_same, List.length_cons, List.length_nil, Bool.not_true, Bool.not_false, Bool.false_eq_true, if_true, if_false, reduceIte, dSeq]
      exact fin 12 (by omega) (by omega)
    · simp only [dIfS, dAndT, dOrT, dNotT, dTest, dTruth, dTru, dAndV, dOrV, dNotV, dIf, dOp, dUn, dVar, dC, dI, dIc, dAdd, dSub, dMul, dFd, dMod, dPow, dNeg, dLt, dLe, dGt, dGe, dEq, dNe, dIsN, dNotN, DL.isNon, dIx, dSl, dPart, dNoPart, dCB, dLen, dAbs, dList, dTuple, dBls, dSum, dIsi, dIsi2, dtOf, isC, seqOf, lstOf, dCons, dNil, dTup, dLst, dRet, dRetN, dNext, dDrop, dAsg, gN, gsNil, gsCons, gT, gSubD, dSetL, dPar, dAug, dIpAdd, dIpSub, dCall, pick_nil, pick_p, pick_k, pick_d, dBreak, dCont, dLM, dLM0, isL, dAppend, dInsert, dPop, dPopAt, dRevL, dStr, dFmt, dJs, dMax2, dMin2, dSorted, dNewK, dctOf, dGetK, dHasK, DL.keyOf, dPutK, dDelK, dSortedD, dSet, dLstF, dRevF, dSlF, dListF, dSortedF, dSortedDF, dMaxF, dMinF, dInS, dLtA, dNewT, dGetT, dHasT, dctT, tkOf, keysOf, dTupP, dPutT, dPutP, putTk, pkOf, dSortedTF, dGet1, dGet2, dGet2T, dDisp1, dRep, dInt, dBits, dExtend, dReverse, dMaxDf, dCat, dCatF, dExtL, dDcT, Option.isSome_some, List.getElem?_cons_zero, List.getElem?_cons_succ, List.set_cons_zero, List.set_cons_succ, atI_0, atI_1, atI_2, atI_3, atI_4, atI_5, ixN_0, ixN_1, ixN_2, ixN_3, ixN_4, ixN_5, up_same, List.length_cons, List.length_nil, Bool.not_true, Bool.not_false, Bool.false_eq_true, if_true, if_false, reduceIte, dSeq]
      exact fin n (by omega) (by omega)
  · have l := low_le (p := r - n) (q := 1 + r3) (by omega)
    have lo := low_Low (p := r - n) (q := 1 + r3) (by omega)
    have := lo.pos
    exact ⟨lo, by omega, by omega, by omega⟩
  · exact (s1.trans ((Bst.refl s1.1).up hp)).trans (s2.trans s3)
end Lw
set_option linter.all false
set_option maxRecDepth 100000
set_option maxHeartbeats 2000000
namespace Lw
open PySem PySem.Spec PyProof.Rows L2 DL
open Evl (Ex)
theorem Bag.ne {O : Om} {b p : Addr} (h : Bag O b) (hp : O p = none) : p ≠ b := by
  obtain ⟨c, cells, pos, rem, seed, cnt, e1, _⟩ := h
  exact fun z => by subst z; rw [hp] at e1; cases e1
/-! ### the bag made -/
def t_law_bag : DS :=
  (dRet (dLst (dCons (dCB dList (dCons (dSl (dVar 0) dNoPart (dPart (dC (.int 63)))) dNil)) (dCons (dC (.int 0)) (dCons (dC (.int 0)) (dCons (dOp dAdd (dC (.int 1009)) (dOp dMul (dC (.int 31)) (dCB dLen (dCons (dSl (dVar 0) dNoPart (dPart (dC (.int 63)))) dNil)))) (dCons (dC (.int 0)) dNil)))))))
def n_law_bag : List Str := ["_law_script"]
def sp_law_bag : DSp := fun xs O R _ => ∃ ns : List Int, xs = [.lst (ns.map D.int)] ∧ ns.length ≤ 63 ∧ ∀ b O', O b = none → Bag O' b → Sb O O' → R (.ref b) O'
theorem cut_ints {ns : List Int} {lo hi : Option Int} : ∃ ms : List Int, DL.cutD (ns.map D.int) lo hi = ms.map D.int ∧ ms.length ≤ ns.length := by
  refine ⟨(ns.drop (HT.sIx (ns.map D.int).length 0 lo)).take (HT.sIx (ns.map D.int).length (ns.map D.int).length hi - HT.sIx (ns.map D.int).length 0 lo), ?_, ?_⟩
  · unfold DL.cutD
    rw [List.map_take, List.map_drop]
  · rw [List.length_take, List.length_drop]; omega
theorem d_law_bag : ∀ xs O R Z, sp_law_bag xs O R Z → t_law_bag (ends R) (startD n_law_bag xs) O := by
  rintro _ O R Z ⟨ns, rfl, hl, k⟩
  show t_law_bag (ends R) [some (.lst (ns.map D.int))] O
  obtain ⟨ms, e, he⟩ := cut_ints (ns := ns) (lo := none) (hi := some 63)
  simp only [dIfS, dAndT, dOrT, dNotT, dTest, dTruth, dTru, dAndV, dOrV, dNotV, dIf, dOp, dUn, dVar, dC, dI, dIc, dAdd, dSub, dMul, dFd, dMod, dPow, dNeg, dLt, dLe, dGt, dGe, dEq, dNe, dIsN, dNotN, DL.isNon, dIx, dSl, dPart, dNoPart, dCB, dLen, dAbs, dList, dTuple, dBls, dSum, dIsi, dIsi2, dtOf, isC, seqOf, lstOf, dCons, dNil, dTup, dLst, dRet, dRetN, dNext, dDrop, dAsg, gN, gsNil, gsCons, gT, gSubD, dSetL, dPar, dAug, dIpAdd, dIpSub, dCall, pick_nil, pick_p, pick_k, pick_d, dBreak, dCont, dLM, dLM0, isL, dAppend, dInsert, dPop, dPopAt, dRevL, dStr, dFmt, dJs, dMax2, dMin2, dSorted, dNewK, dctOf, dGetK, dHasK, DL.keyOf, dPutK, dDelK, dSortedD, dSet, dLstF, dRevF, dSlF, dListF, dSortedF, dSortedDF, dMaxF, dMinF, dInS, dLtA, dNewT, dGetT, dHasT, dctT, tkOf, keysOf, dTupP, dPutT, dPutP, putTk, pkOf, dSortedTF, dGet1, dGet2, dGet2T, dDisp1, dRep, dInt, dBits, dExtend, dReverse, dMaxDf, dCat, dCatF, dExtL, dDcT, Option.isSome_some, List.getElem?_cons_zero, List.getElem?_cons_succ, List.set_cons_zero, List.set_cons_succ, atI_0, atI_1, atI_2, atI_3, atI_4, atI_5, ixN_0, ixN_1, ixN_2, ixN_3, ixN_4, ixN_5, up_same, List.length_cons, List.length_nil, Bool.not_true, Bool.not_false, Bool.false_eq_true, if_true, if_false, reduceIte, dSeq, t_law_bag, e]
  intro p hp q hq
  have hq1 : O q = none := by
    cases h : O q with
    | none => rfl
    | some o => rw [Sb.new hp q o h] at hq; cases hq
  intro p2 hp2
  have n0 : q ≠ p := fun z => by subst z; rw [up_same] at hq; cases hq
  have n1 : p2 ≠ q := fun z => by subst z; rw [up_same] at hp2; cases hp2
  simp only [dIfS, dAndT, dOrT, dNotT, dTest, dTruth, dTru, dAndV, dOrV, dNotV, dIf, dOp, dUn, dVar, dC, dI, dIc, dAdd, dSub, dMul, dFd, dMod, dPow, dNeg, dLt, dLe, dGt, dGe, dEq, dNe, dIsN, dNotN, DL.isNon, dIx, dSl, dPart, dNoPart, dCB, dLen, dAbs, dList, dTuple, dBls, dSum, dIsi, dIsi2, dtOf, isC, seqOf, lstOf, dCons, dNil, dTup, dLst, dRet, dRetN, dNext, dDrop, dAsg, gN, gsNil, gsCons, gT, gSubD, dSetL, dPar, dAug, dIpAdd, dIpSub, dCall, pick_nil, pick_p, pick_k, pick_d, dBreak, dCont, dLM, dLM0, isL, dAppend, dInsert, dPop, dPopAt, dRevL, dStr, dFmt, dJs, dMax2, dMin2, dSorted, dNewK, dctOf, dGetK, dHasK, DL.keyOf, dPutK, dDelK, dSortedD, dSet, dLstF, dRevF, dSlF, dListF, dSortedF, dSortedDF, dMaxF, dMinF, dInS, dLtA, dNewT, dGetT, dHasT, dctT, tkOf, keysOf, dTupP, dPutT, dPutP, putTk, pkOf, dSortedTF, dGet1, dGet2, dGet2T, dDisp1, dRep, dInt, dBits, dExtend, dReverse, dMaxDf, dCat, dCatF, dExtL, dDcT, Option.isSome_some, List.getElem?_cons_zero, List.getElem?_cons_succ, List.set_cons_zero, List.set_cons_succ, atI_0, atI_1, atI_2, atI_3, atI_4, atI_5, ixN_0, ixN_1, ixN_2, ixN_3, ixN_4, ixN_5, up_same, List.length_cons, List.length_nil, Bool.not_true, Bool.not_false, Bool.false_eq_true, if_true, if_false, reduceIte, dSeq, List.length_map]
  refine ⟨Mok.l (by decide) (by decide), fun b hb => Fin.here (k b _ ?_ ?_ ?_)⟩
  · have s : Sb O (up (up (up O p (.lst (ms.map D.int))) q (.lst (ms.map D.int))) p2 (.lst (ms.map D.int))) := ((Sb.new hp).trans (Sb.new hq)).trans (Sb.new hp2)
    cases h : O b with
    | none => rfl
    | some o => rw [s b o h] at hb; cases hb
  · have nq : q ≠ b := fun z => by subst z; rw [up_ne n1.symm, up_same] at hb; cases hb
    refine ⟨q, ms, 0, 0, _, 0, up_same, ?_, nq, by decide, by decide, ?_, ?_⟩
    · rw [up_ne nq, up_ne n1.symm, up_same]
    · omega
    · omega
  · exact (((Sb.new hp).trans (Sb.new hq)).trans (Sb.new hp2)).trans (Sb.new hb)
/-! ### boxes drawn -/
def t_law_box : DS :=
  (dSeq (dSet 1 (dCall sp_law_part [.p 0, .p 1] [] (dCons (dVar 0) (dCons (dC (.int 30)) dNil)) dNil))
  (dSeq (dSet 2 (dCall sp_law_add [.p 0, .p 1] [] (dCons (dVar 1) (dCons (dCall sp_law_low [.p 0, .p 1] [] (dCons (dOp dAdd (dC (.int 1)) (dCall sp_law_pull [.p 0, .p 1] [] (dCons (dVar 0) (dCons (dC (.int 30)) dNil)) dNil)) (dCons (dOp dAdd (dC (.int 1)) (dCall sp_law_pull [.p 0, .p 1] [] (dCons (dVar 0) (dCons (dOp dIx (dLst (dCons (dC (.int 1)) (dCons (dC (.int 3)) (dCons (dC (.int 8)) dNil)))) (dCall sp_law_pull [.p 0, .p 1] [] (dCons (dVar 0) (dCons (dC (.int 3)) dNil)) dNil)) dNil)) dNil)) dNil)) dNil) dNil)) dNil))
  (dSeq (dSet 3 (dOp dSub (dCall sp_law_pull [.p 0, .p 1] [] (dCons (dVar 0) (dCons (dC (.int 30)) dNil)) dNil) (dC (.int 15))))
  (dRet (dTup (dCons (dVar 1) (dCons (dVar 2) (dCons (dVar 3) (dCons (dOp dAdd (dVar 3) (dCall sp_law_pull [.p 0, .p 1] [] (dCons (dVar 0) (dCons (dC (.int 9)) dNil)) dNil)) dNil)))))))))
def n_law_box : List Str := ["_law_bag_here", "_law_left", "_law_right", "_law_low_here"]
def sp_law_box : DSp := fun xs O R _ => ∃ b : Addr, xs = [.ref b] ∧ Bag O b ∧ ∀ (l r : Pt) (lo hi : Int) O', PtN 1000000 l → PtN 1000000 r → ltP l r = true → lo ≤ hi → -20 ≤ lo → hi ≤ 30 → Bst b O O' → R (bxD l r (.int lo) (.int hi)) O'
theorem PtN.sm {n : Int} {p : Pt} (h : PtN n p) (hn : n ≤ 1000000000) : SmP p := by
  obtain ⟨lo, h1, h2, h3⟩ := h
  have := lo.pos
  exact ⟨Smi.lit (by omega) (by omega), Smi.lit (by omega) (by omega)⟩
theorem PtN.mono {n m : Int} {p : Pt} (h : PtN n p) (hn : n ≤ m) : PtN m p := ⟨h.1, by have := h.2.1; omega, by have := h.2.2.1; omega, by have := h.2.2.2; omega⟩
theorem mul_bd {a b m n : Int} (ha : -m ≤ a) (ha' : a ≤ m) (hb : 0 < b) (hb' : b ≤ n) (hm : 0 ≤ m) : -(m * n) ≤ a * b ∧ a * b ≤ m * n := by
  have h1 : a * b ≤ m * b := Int.mul_le_mul_of_nonneg_right ha' (by omega)
  have h2 : m * b ≤ m * n := Int.mul_le_mul_of_nonneg_left hb' hm
  have h3 : -m * b ≤ a * b := Int.mul_le_mul_of_nonneg_right ha (by omega)
  rw [Int.neg_mul] at h3
  omega
theorem addP_N {m n : Int} {p q : Pt} (hp : PtN m p) (hq : PtN n q) (hm : 0 ≤ m) (hn : 0 ≤ n) : PtN (2 * (m * n)) (addP p q) := by
  obtain ⟨l1, a1, a2, a3⟩ := hp
  obtain ⟨l2, b1, b2, b3⟩ := hq
  have x := mul_bd a1 a2 l2.pos b3 hm
  have y := mul_bd b1 b2 l1.pos a3 hn
  rw [Int.mul_comm n m] at y
  have z := mul_bd (show -m ≤ p.2 by have := l1.pos; omega) a3 l2.pos b3 hm
  have w := Int.mul_pos l1.pos l2.pos
  have le := low_le (p := p.1 * q.2 + q.1 * p.2) (q := p.2 * q.2) w
  have lo := low_Low (p := p.1 * q.2 + q.1 * p.2) (q := p.2 * q.2) w
  have := lo.pos
  have e1 : (addP p q).1 = (lowP (p.1 * q.2 + q.1 * p.2) (p.2 * q.2)).1 := rfl
  have e2 : (addP p q).2 = (lowP (p.1 * q.2 + q.1 * p.2) (p.2 * q.2)).2 := rfl
  exact ⟨lo, by omega, by omega, by omega⟩
/-- a part grows by a part above nought -/
theorem lt_add {p q : Pt} (hp : 0 < p.2) (hq : 0 < q.2) (h : 0 < q.1) : ltP p (addP p q) = true := by
  unfold ltP
  rw [decide_eq_true_eq]
  have w := Int.mul_pos hp hq
  have c := low_cross (p := p.1 * q.2 + q.1 * p.2) w
  have lo := low_Low (p := p.1 * q.2 + q.1 * p.2) (q := p.2 * q.2) w
  show p.1 * (lowP _ _).2 < (lowP _ _).1 * p.2
  generalize lowP (p.1 * q.2 + q.1 * p.2) (p.2 * q.2) = r at *
  have hr := lo.pos
  have e : r.1 * p.2 * q.2 = p.1 * r.2 * q.2 + q.1 * p.2 * r.2 := by
    rw [Int.mul_assoc, c, Int.add_mul]
    congr 1
    rw [Int.mul_assoc, Int.mul_comm q.2, ← Int.mul_assoc]
  have pos : 0 < q.1 * p.2 * r.2 := Int.mul_pos (Int.mul_pos h hp) hr
  have lt : p.1 * r.2 * q.2 < r.1 * p.2 * q.2 := by omega
  exact Int.lt_of_mul_lt_mul_right lt (by omega)
theorem low_num_pos {p q : Int} (hp : 0 < p) (hq : 0 < q) : 0 < (lowP p q).1 := Int.ediv_pos_of_pos_of_dvd hp (by omega) (Int.gcd_dvd_left ..)
theorem d_law_box : ∀ xs O R Z, sp_law_box xs O R Z → t_law_box (ends R) (startD n_law_box xs) O := by
  rintro _ O R Z ⟨b, rfl, hb, k⟩
  show t_law_box (ends R) [some (.ref b), none, none, none] O
  simp only [dIfS, dAndT, dOrT, dNotT, dTest, dTruth, dTru, dAndV, dOrV, dNotV, dIf, dOp, dUn, dVar, dC, dI, dIc, dAdd, dSub, dMul, dFd, dMod, dPow, dNeg, dLt, dLe, dGt, dGe, dEq, dNe, dIsN, dNotN, DL.isNon, dIx, dSl, dPart, dNoPart, dCB, dLen, dAbs, dList, dTuple, dBls, dSum, dIsi, dIsi2, dtOf, isC, seqOf, lstOf, dCons, dNil, dTup, dLst, dRet, dRetN, dNext, dDrop, dAsg, gN, gsNil, gsCons, gT, gSubD, dSetL, dPar, dAug, dIpAdd, dIpSub, dCall, pick_nil, pick_p, pick_k, pick_d, dBreak, dCont, dLM, dLM0, isL, dAppend, dInsert, dPop, dPopAt, dRevL, dStr, dFmt, dJs, dMax2, dMin2, dSorted, dNewK, dctOf, dGetK, dHasK, DL.keyOf, dPutK, dDelK, dSortedD, dSet, dLstF, dRevF, dSlF, dListF, dSortedF, dSortedDF, dMaxF, dMinF, dInS, dLtA, dNewT, dGetT, dHasT, dctT, tkOf, keysOf, dTupP, dPutT, dPutP, putTk, pkOf, dSortedTF, dGet1, dGet2, dGet2T, dDisp1, dRep, dInt, dBits, dExtend, dReverse, dMaxDf, dCat, dCatF, dExtL, dDcT, Option.isSome_some, List.getElem?_cons_zero, List.getElem?_cons_succ, List.set_cons_zero, List.set_cons_succ, atI_0, atI_1, atI_2, atI_3, atI_4, atI_5, ixN_0, ixN_1, ixN_2, ixN_3, ixN_4, ixN_5, up_same, List.length_cons, List.length_nil, Bool.not_true, Bool.not_false, Bool.false_eq_true, if_true, if_false, reduceIte, dSeq, t_law_box]
  refine ⟨b, 30, rfl, by decide, by decide, hb, fun l O1 hl s1 => ?_⟩
  simp only [dIfS, dAndT, dOrT, dNotT, dTest, dTruth, dTru, dAndV, dOrV, dNotV, dIf, dOp, dUn, dVar, dC, dI, dIc, dAdd, dSub, dMul, dFd, dMod, dPow, dNeg, dLt, dLe, dGt, dGe, dEq, dNe, dIsN, dNotN, DL.isNon, dIx, dSl, dPart, dNoPart, dCB, dLen, dAbs, dList, dTuple, dBls, dSum, dIsi, dIsi2, dtOf, isC, seqOf, lstOf, dCons, dNil, dTup, dLst, dRet, dRetN, dNext, dDrop, dAsg, gN, gsNil, gsCons, gT, gSubD, dSetL, dPar, dAug, dIpAdd, dIpSub, dCall, pick_nil, pick_p, pick_k, pick_d, dBreak, dCont, dLM, dLM0, isL, dAppend, dInsert, dPop, dPopAt, dRevL, dStr, dFmt, dJs, dMax2, dMin2, dSorted, dNewK, dctOf, dGetK, dHasK, DL.keyOf, dPutK, dDelK, dSortedD, dSet, dLstF, dRevF, dSlF, dListF, dSortedF, dSortedDF, dMaxF, dMinF, dInS, dLtA, dNewT, dGetT, dHasT, dctT, tkOf, keysOf, dTupP, dPutT, dPutP, putTk, pkOf, dSortedTF, dGet1, dGet2, dGet2T, dDisp1, dRep, dInt, dBits, dExtend, dReverse, dMaxDf, dCat, dCatF, dExtL, dDcT, Option.isSome_some, List.getElem?_cons_zero, List.getElem?_cons_succ, List.set_cons_zero, List.set_cons_succ, atI_0, atI_1, atI_2, atI_3, atI_4, atI_5, ixN_0, ixN_1, ixN_2, ixN_3, ixN_4, ixN_5, up_same, List.length_cons, List.length_nil, Bool.not_true, Bool.not_false, Bool.false_eq_true, if_true, if_false, reduceIte, dSeq]
  refine ⟨b, 30, rfl, by decide, by decide, s1.1, fun r O2 r0 r1 s2 p hp => ⟨b, 3, rfl, by decide, by decide, s2.1.up hp, fun r3 O3 r30 r31 s3 => ?_⟩⟩
  have hlp : O3 p = some (.lst [.int 1, .int 3, .int 8]) := s3.2 p _ (by
    obtain ⟨c, cells, pos, rem, seed, cnt, e1, e2, _⟩ := s2.1
    exact fun z => by subst z; rw [hp] at e1; cases e1) up_same
  obtain ⟨m, hm, m1, m2⟩ : ∃ m : Int, atI [D.int 1, .int 3, .int 8] r3 = some (.int m) ∧ 1 ≤ m ∧ m ≤ 8 := by
    have e : r3 = 0 ∨ r3 = 1 ∨ r3 = 2 := by omega
    rcases e with rfl | rfl | rfl
    · exact ⟨1, rfl, by omega, by omega⟩
    · exact ⟨3, rfl, by omega, by omega⟩
    · exact ⟨8, rfl, by omega, by omega⟩
  simp only [dIfS, dAndT, dOrT, dNotT, dTest, dTruth, dTru, dAndV, dOrV, dNotV, dIf, dOp, dUn, dVar, dC, dI, dIc, dAdd, dSub, dMul, dFd, dMod, dPow, dNeg, dLt, dLe, dGt, dGe, dEq, dNe, dIsN, dNotN, DL.isNon, dIx, dSl, dPart, dNoPart, dCB, dLen, dAbs, dList, dTuple, dBls, dSum, dIsi, dIsi2, dtOf, isC, seqOf, lstOf, dCons, dNil, dTup, dLst, dRet, dRetN, dNext, dDrop, dAsg, gN, gsNil, gsCons, gT, gSubD, dSetL, dPar, dAug, dIpAdd, dIpSub, dCall, pick_nil, pick_p, pick_k, pick_d, dBreak, dCont, dLM, dLM0, isL, dAppend, dInsert, dPop, dPopAt, dRevL, dStr, dFmt, dJs, dMax2, dMin2, dSorted, dNewK, dctOf, dGetK, dHasK, DL.keyOf, dPutK, dDelK, dSortedD, dSet, dLstF, dRevF, dSlF, dListF, dSortedF, dSortedDF, dMaxF, dMinF, dInS, dLtA, dNewT, dGetT, dHasT, dctT, tkOf, keysOf, dTupP, dPutT, dPutP, putTk, pkOf, dSortedTF, dGet1, dGet2, dGet2T, dDisp1, dRep, dInt, dBits, dExtend, dReverse, dMaxDf, dCat, dCatF, dExtL, dDcT, Option.isSome_some, List.getElem?_cons_zero, List.getElem?_cons_succ, List.set_cons_zero, List.set_cons_succ, atI_0, atI_1, atI_2, atI_3, atI_4, atI_5, ixN_0, ixN_1, ixN_2, ixN_3, ixN_4, ixN_5, up_same, List.length_cons, List.length_nil, Bool.not_true, Bool.not_false, Bool.false_eq_true, if_true, if_false, reduceIte, dSeq, hlp, hm]
  refine ⟨b, m, rfl, m1, log_small (by omega) (by omega), s3.1, fun j O4 j0 j1 s4 => ?_⟩
  simp only [dIfS, dAndT, dOrT, dNotT, dTest, dTruth, dTru, dAndV, dOrV, dNotV, dIf, dOp, dUn, dVar, dC, dI, dIc, dAdd, dSub, dMul, dFd, dMod, dPow, dNeg, dLt, dLe, dGt, dGe, dEq, dNe, dIsN, dNotN, DL.isNon, dIx, dSl, dPart, dNoPart, dCB, dLen, dAbs, dList, dTuple, dBls, dSum, dIsi, dIsi2, dtOf, isC, seqOf, lstOf, dCons, dNil, dTup, dLst, dRet, dRetN, dNext, dDrop, dAsg, gN, gsNil, gsCons, gT, gSubD, dSetL, dPar, dAug, dIpAdd, dIpSub, dCall, pick_nil, pick_p, pick_k, pick_d, dBreak, dCont, dLM, dLM0, isL, dAppend, dInsert, dPop, dPopAt, dRevL, dStr, dFmt, dJs, dMax2, dMin2, dSorted, dNewK, dctOf, dGetK, dHasK, DL.keyOf, dPutK, dDelK, dSortedD, dSet, dLstF, dRevF, dSlF, dListF, dSortedF, dSortedDF, dMaxF, dMinF, dInS, dLtA, dNewT, dGetT, dHasT, dctT, tkOf, keysOf, dTupP, dPutT, dPutP, putTk, pkOf, dSortedTF, dGet1, dGet2, dGet2T, dDisp1, dRep, dInt, dBits, dExtend, dReverse, dMaxDf, dCat, dCatF, dExtL, dDcT, Option.isSome_some, List.getElem?_cons_zero, List.getElem?_cons_succ, List.set_cons_zero, List.set_cons_succ, atI_0, atI_1, atI_2, atI_3, atI_4, atI_5, ixN_0, ixN_1, ixN_2, ixN_3, ixN_4, ixN_5, up_same, List.length_cons, List.length_nil, Bool.not_true, Bool.not_false, Bool.false_eq_true, if_true, if_false, reduceIte, dSeq]
  refine ⟨1 + r, 1 + j, rfl, by omega, log_small (by omega) (by omega), ?_⟩
  have bst : Bst b O O4 := ((s1.trans s2).trans (((Bst.refl s2.1).up hp).trans s3)).trans s4
  have lo := low_Low (p := 1 + r) (q := 1 + j) (by omega)
  have le := low_le (p := 1 + r) (q := 1 + j) (by omega)
  have np := low_num_pos (p := 1 + r) (q := 1 + j) (by omega) (by omega)
  have lp := lo.pos
  have hq : PtN 30 (lowP (1 + r) (1 + j)) := ⟨lo, by omega, by omega, by omega⟩
  have hmu := mul_bd (show -43 ≤ l.2 by have := hl.1.pos; omega) hl.2.2.2 lo.pos hq.2.2.2 (by decide)
  refine ⟨l, _, rfl, hl.sm (by decide), hq.sm (by decide), hl.1.pos, lo.pos, log_small (Int.le_of_lt (Int.mul_pos hl.1.pos lo.pos)) (by omega), ?_⟩
  simp only [dIfS, dAndT, dOrT, dNotT, dTest, dTruth, dTru, dAndV, dOrV, dNotV, dIf, dOp, dUn, dVar, dC, dI, dIc, dAdd, dSub, dMul, dFd, dMod, dPow, dNeg, dLt, dLe, dGt, dGe, dEq, dNe, dIsN, dNotN, DL.isNon, dIx, dSl, dPart, dNoPart, dCB, dLen, dAbs, dList, dTuple, dBls, dSum, dIsi, dIsi2, dtOf, isC, seqOf, lstOf, dCons, dNil, dTup, dLst, dRet, dRetN, dNext, dDrop, dAsg, gN, gsNil, gsCons, gT, gSubD, dSetL, dPar, dAug, dIpAdd, dIpSub, dCall, pick_nil, pick_p, pick_k, pick_d, dBreak, dCont, dLM, dLM0, isL, dAppend, dInsert, dPop, dPopAt, dRevL, dStr, dFmt, dJs, dMax2, dMin2, dSorted, dNewK, dctOf, dGetK, dHasK, DL.keyOf, dPutK, dDelK, dSortedD, dSet, dLstF, dRevF, dSlF, dListF, dSortedF, dSortedDF, dMaxF, dMinF, dInS, dLtA, dNewT, dGetT, dHasT, dctT, tkOf, keysOf, dTupP, dPutT, dPutP, putTk, pkOf, dSortedTF, dGet1, dGet2, dGet2T, dDisp1, dRep, dInt, dBits, dExtend, dReverse, dMaxDf, dCat, dCatF, dExtL, dDcT, Option.isSome_some, List.getElem?_cons_zero, List.getElem?_cons_succ, List.set_cons_zero, List.set_cons_succ, atI_0, atI_1, atI_2, atI_3, atI_4, atI_5, ixN_0, ixN_1, ixN_2, ixN_3, ixN_4, ixN_5, up_same, List.length_cons, List.length_nil, Bool.not_true, Bool.not_false, Bool.false_eq_true, if_true, if_false, reduceIte, dSeq]
  refine ⟨b, 30, rfl, by decide, by decide, bst.1, fun i O5 i0 i1 s5 => ?_⟩
  simp only [dIfS, dAndT, dOrT, dNotT, dTest, dTruth, dTru, dAndV, dOrV, dNotV, dIf, dOp, dUn, dVar, dC, dI, dIc, dAdd, dSub, dMul, dFd, dMod, dPow, dNeg, dLt, dLe, dGt, dGe, dEq, dNe, dIsN, dNotN, DL.isNon, dIx, dSl, dPart, dNoPart, dCB, dLen, dAbs, dList, dTuple, dBls, dSum, dIsi, dIsi2, dtOf, isC, seqOf, lstOf, dCons, dNil, dTup, dLst, dRet, dRetN, dNext, dDrop, dAsg, gN, gsNil, gsCons, gT, gSubD, dSetL, dPar, dAug, dIpAdd, dIpSub, dCall, pick_nil, pick_p, pick_k, pick_d, dBreak, dCont, dLM, dLM0, isL, dAppend, dInsert, dPop, dPopAt, dRevL, dStr, dFmt, dJs, dMax2, dMin2, dSorted, dNewK, dctOf, dGetK, dHasK, DL.keyOf, dPutK, dDelK, dSortedD, dSet, dLstF, dRevF, dSlF, dListF, dSortedF, dSortedDF, dMaxF, dMinF, dInS, dLtA, dNewT, dGetT, dHasT, dctT, tkOf, keysOf, dTupP, dPutT, dPutP, putTk, pkOf, dSortedTF, dGet1, dGet2, dGet2T, dDisp1, dRep, dInt, dBits, dExtend, dReverse, dMaxDf, dCat, dCatF, dExtL, dDcT, Option.isSome_some, List.getElem?_cons_zero, List.getElem?_cons_succ, List.set_cons_zero, List.set_cons_succ, atI_0, atI_1, atI_2, atI_3, atI_4, atI_5, ixN_0, ixN_1, ixN_2, ixN_3, ixN_4, ixN_5, up_same, List.length_cons, List.length_nil, Bool.not_true, Bool.not_false, Bool.false_eq_true, if_true, if_false, reduceIte, dSeq]
  refine ⟨b, 9, rfl, by decide, by decide, s5.1, fun i2 O6 i20 i21 s6 => ?_⟩
  simp only [dIfS, dAndT, dOrT, dNotT, dTest, dTruth, dTru, dAndV, dOrV, dNotV, dIf, dOp, dUn, dVar, dC, dI, dIc, dAdd, dSub, dMul, dFd, dMod, dPow, dNeg, dLt, dLe, dGt, dGe, dEq, dNe, dIsN, dNotN, DL.isNon, dIx, dSl, dPart, dNoPart, dCB, dLen, dAbs, dList, dTuple, dBls, dSum, dIsi, dIsi2, dtOf, isC, seqOf, lstOf, dCons, dNil, dTup, dLst, dRet, dRetN, dNext, dDrop, dAsg, gN, gsNil, gsCons, gT, gSubD, dSetL, dPar, dAug, dIpAdd, dIpSub, dCall, pick_nil, pick_p, pick_k, pick_d, dBreak, dCont, dLM, dLM0, isL, dAppend, dInsert, dPop, dPopAt, dRevL, dStr, dFmt, dJs, dMax2, dMin2, dSorted, dNewK, dctOf, dGetK, dHasK, DL.keyOf, dPutK, dDelK, dSortedD, dSet, dLstF, dRevF, dSlF, dListF, dSortedF, dSortedDF, dMaxF, dMinF, dInS, dLtA, dNewT, dGetT, dHasT, dctT, tkOf, keysOf, dTupP, dPutT, dPutP, putTk, pkOf, dSortedTF, dGet1, dGet2, dGet2T, dDisp1, dRep, dInt, dBits, dExtend, dReverse, dMaxDf, dCat, dCatF, dExtL, dDcT, Option.isSome_some, List.getElem?_cons_zero, List.getElem?_cons_succ, List.set_cons_zero, List.set_cons_succ, atI_0, atI_1, atI_2, atI_3, atI_4, atI_5, ixN_0, ixN_1, ixN_2, ixN_3, ixN_4, ixN_5, up_same, List.length_cons, List.length_nil, Bool.not_true, Bool.not_false, Bool.false_eq_true, if_true, if_false, reduceIte, dSeq]
  exact Fin.here (k _ _ _ _ _ (hl.mono (by decide)) ((addP_N hl hq (by decide) (by decide)).mono (by decide)) (lt_add hl.1.pos lo.pos np) (by omega) (by omega) (by omega) ((bst.trans s5).trans s6))
/-! ### the same -/
def scal : D → Bool
  | .non => true | .bl _ => true | .int _ => true | .str _ => true | _ => false
/-- the same data, seen through what is owned, at most n deep -/
def Sm (O : Om) : Nat → D → D → Prop
  | 0, x, y => x = y ∧ scal x = true
  | n + 1, x, y => (x = y ∧ scal x = true) ∨ (∃ xs ys, lstOf O x = some xs ∧ lstOf O y = some ys ∧ xs.length = ys.length ∧ xs.length ≤ 1000000 ∧ ∀ (i : Nat) (a b : D), xs[i]? = some a → ys[i]? = some b → Sm O n a b) ∨
      (∃ xs ys, x = .tup xs ∧ y = .tup ys ∧ xs.length = ys.length ∧ xs.length ≤ 1000000 ∧ ∀ (i : Nat) (a b : D), xs[i]? = some a → ys[i]? = some b → Sm O n a b)
def t_law_same (sp_law_same : DSp) : DS :=
  (dSeq (dIfS (dTest (dUn (dIsi2 .lst .tup) (dVar 1))) (dSeq (dIfS (dOrT (dTest (dOp dNe (dUn (dIsi .lst) (dVar 0)) (dUn (dIsi .lst) (dVar 1)))) (dTest (dOp dNe (dUn (dIsi .tup) (dVar 0)) (dUn (dIsi .tup) (dVar 1))))) (dRet (dC (.bl false))) dNext)
  (dRet (dAndV (dOp dEq (dCB dLen (dCons (dVar 0) dNil)) (dCB dLen (dCons (dVar 1) dNil))) (dCB (dBls fun bs => bs.all fun b => b) (dCons (dLc (dRng1 (dCons (dCB dLen (dCons (dVar 1) dNil)) dNil)) (gN 2) dYes (dCall sp_law_same [.p 0, .p 1] [] (dCons (dOp dIx (dVar 0) (dVar 2)) (dCons (dOp dIx (dVar 1) (dVar 2)) dNil)) dNil) [2]) dNil))))) dNext)
  (dSeq (dIfS (dOrT (dTest (dOp dIsN (dVar 1) (dC .non))) (dTest (dOp dIsN (dVar 0) (dC .non)))) (dRet (dAndV (dOp dIsN (dVar 0) (dC .non)) (dOp dIsN (dVar 1) (dC .non)))) dNext)
  (dSeq (dIfS (dOrT (dTest (dOp dNe (dUn (dIsi .bl) (dVar 1)) (dUn (dIsi .bl) (dVar 0)))) (dTest (dOp dNe (dUn (dIsi .int) (dVar 1)) (dUn (dIsi .int) (dVar 0))))) (dRet (dC (.bl false))) dNext)
  (dRet (dAndV (dOp dEq (dUn (dIsi .str) (dVar 1)) (dUn (dIsi .str) (dVar 0))) (dOp dEq (dVar 0) (dVar 1)))))))
def n_law_same : List Str := ["_law_found", "_law_due", "_law_k"]
def sp_law_sameN (n : Nat) : DSp := fun xs O R _ => ∃ x y, xs = [x, y] ∧ Sm O n x y ∧ R (.bl true) O
def sp_law_same : DSp := sp_law_sameN 9
theorem str_refl {x : Str} : decide (x = x) = true := by simp
theorem same_scal {O : Om} {R : D → Om → Prop} {x : D} {sp : DSp} (hs : scal x = true) (h : R (.bl true) O) : t_law_same sp (ends R) [some x, some x, none] O := by
  cases x <;> first | (cases hs; done) | skip
  all_goals (simp only [dIfS, dAndT, dOrT, dNotT, dTest, dTruth, dTru, dAndV, dOrV, dNotV, dIf, dOp, dUn, dVar, dC, dI, dIc, dAdd, dSub, dMul, dFd, dMod, dPow, dNeg, dLt, dLe, dGt, dGe, dEq, dNe, dIsN, dNotN, DL.isNon, dIx, dSl, dPart, dNoPart, dCB, dLen, dAbs, dList, dTuple, dBls, dSum, dIsi, dIsi2, dtOf, isC, seqOf, lstOf, dCons, dNil, dTup, dLst, dRet, dRetN, dNext, dDrop, dAsg, gN, gsNil, gsCons, gT, gSubD, dSetL, dPar, dAug, dIpAdd, dIpSub, dCall, pick_nil, pick_p, pick_k, pick_d, dBreak, dCont, dLM, dLM0, isL, dAppend, dInsert, dPop, dPopAt, dRevL, dStr, dFmt, dJs, dMax2, dMin2, dSorted, dNewK, dctOf, dGetK, dHasK, DL.keyOf, dPutK, dDelK, dSortedD, dSet, dLstF, dRevF, dSlF, dListF, dSortedF, dSortedDF, dMaxF, dMinF, dInS, dLtA, dNewT, dGetT, dHasT, dctT, tkOf, keysOf, dTupP, dPutT, dPutP, putTk, pkOf, dSortedTF, dGet1, dGet2, dGet2T, dDisp1, dRep, dInt, dBits, dExtend, dReverse, dMaxDf, dCat, dCatF, dExtL, dDcT, Option.isSome_some, List.getElem?_cons_zero, List.getElem?_cons_succ, List.set_cons_zero, List.set_cons_succ, atI_0, atI_1, atI_2, atI_3, atI_4, atI_5, ixN_0, ixN_1, ixN_2, ixN_3, ixN_4, ixN_5, up_same, List.length_cons, List.length_nil, Bool.not_true, Bool.not_false, Bool.false_eq_true, if_true, if_false, reduceIte, dSeq, t_law_same, decide_true, Bool.false_or, bne_self_eq_false, Bool.or_self])
  all_goals exact Fin.here h
/-- a comprehension whose turns leave all as it is -/
theorem comp_map {u : DG} {tt : DT} {te : DE} {ok : Om → Prop} {g : Gm} {R : List D → Om → Prop} {xs : List D} {O : Om} (f : D → D) (hok : ok O) (hl : xs.length < 16000000)
    (hs : ∀ (i : Nat) x, xs[i]? = some x → ∀ N : List D → Om → Prop, ∀ acc : List D, acc.length < sizeLine → N (acc ++ [f x]) O → u x g O fun g1 O1 => tt g1 O1 fun b O2 => if b = true then te g1 O2 fun y O3 => acc.length < sizeLine ∧ N (acc ++ [y]) O3 else N acc O2)
    (hd : R (xs.map f) O) : dComp u tt te ok g R xs [] O := by
  refine comp_by (fun pre acc O' => O' = O ∧ acc = pre.map f ∧ ∃ post, xs = pre ++ post) ⟨rfl, rfl, xs, rfl⟩ (fun _ _ _ h => by rw [h.1]; exact hok) ?_ ?_
  · rintro pre x post acc _ N e ⟨rfl, rfl, _⟩ k
    have hi : xs[pre.length]? = some x := by rw [e]; simp
    have hlen : pre.length < 16000000 := Nat.lt_of_lt_of_le (List.getElem?_eq_some_iff.mp hi).1 (Nat.le_of_lt hl)
    refine hs pre.length x hi N (pre.map f) (by rw [List.length_map, sizeLine_eq]; omega) (k _ _ ⟨rfl, by rw [List.map_append]; rfl, post, by rw [e, List.append_assoc]; rfl⟩)
  · rintro acc _ ⟨rfl, rfl, _⟩
    exact hd
theorem rgD_get {lo : Int} {n i : Nat} {x : D} (h : (rgD lo n)[i]? = some x) : i < n ∧ x = .int (lo + (i : Nat)) := by
  unfold rgD at h
  have hi : i < n := by simpa using (List.getElem?_eq_some_iff.mp h).1
  rw [List.getElem?_map, List.getElem?_range hi] at h
  cases h
  exact ⟨hi, rfl⟩
theorem rgD_len {lo : Int} {n : Nat} : (rgD lo n).length = n := by unfold rgD; simp
theorem atI_at {A : Type} {xs : List A} {i : Nat} {x : A} (h : xs[i]? = some x) : atI xs (i : Int) = some x := by
  have hi := (List.getElem?_eq_some_iff.mp h)
  rw [atI_cons hi.1, hi.2]
theorem dIx_seq {O : Om} {v w : D} {vs : List D} {i : Int} {Q : D → Om → Prop} (h1 : seqOf O v = some vs) (h2 : atI vs i = some w) (q : Q w O) : dIx v (.int i) O Q := by
  cases v <;> first | (cases h1; done) | skip
  all_goals (simp only [dIx, h1, h2]; exact q)
theorem lstOf_cases {O : Om} {x : D} {xs : List D} (h : lstOf O x = some xs) : x = .lst xs ∨ ∃ a, x = .ref a ∧ O a = some (.lst xs) := by
  cases x with
  | lst ys => cases h; exact .inl rfl
  | ref a =>
    refine .inr ⟨a, rfl, ?_⟩
    have h : (match O a with | some (.lst xs) => some xs | _ => none) = some xs := h
    cases e : O a with
    | none => rw [e] at h; cases h
    | some o => cases o <;> rw [e] at h <;> cases h <;> rfl
  | _ => cases h
theorem same_row {n : Nat} {O : Om} {x y : D} {xs ys : List D} (hx : seqOf O x = some xs) (hy : seqOf O y = some ys) (hl : xs.length = ys.length) (hl2 : xs.length ≤ 1000000) (hs : ∀ (i : Nat) (a b : D), xs[i]? = some a → ys[i]? = some b → Sm O n a b)
    (hlen : ∀ R, R (.int (ys.length : Nat)) O → dLen [y] O R) {R : D → Om → Prop} (k : ∀ p, O p = none → R (.ref p) (up O p (.lst ((List.replicate ys.length true).map D.bl)))) :
    dLc (dRng1 (dCons (dCB dLen (dCons (dVar 1) dNil)) dNil)) (gN 2) dYes (dCall (sp_law_sameN n) [.p 0, .p 1] [] (dCons (dOp dIx (dVar 0) (dVar 2)) (dCons (dOp dIx (dVar 1) (dVar 2)) dNil)) dNil) [2] [some x, some y, none] O R := by
  simp only [dLc, dRng1, dCB, dCons, dNil, dVar, List.getElem?_cons_succ, List.getElem?_cons_zero]
  refine hlen _ ?_
  refine ⟨by omega, by omega, ?_⟩
  have e : ((ys.length : Nat) : Int).toNat = ys.length := by omega
  rw [e]
  refine comp_map (fun _ => .bl true) True.intro (by rw [rgD_len]; omega) (fun i z hz N acc ha hN => ?_) ?_
  · obtain ⟨hi, rfl⟩ := rgD_get hz
    have ha1 : xs[i]? = some xs[i] := List.getElem?_eq_getElem (by omega)
    have hb1 : ys[i]? = some ys[i] := List.getElem?_eq_getElem hi
    simp only [gN, wipeD, dYes, dCall, dCons, dNil, dOp, dVar, List.set_cons_succ, List.set_cons_zero, List.getElem?_cons_succ, List.getElem?_cons_zero, if_true, Int.zero_add]
    refine dIx_seq hx (atI_at ha1) ?_
    refine dIx_seq hy (atI_at hb1) ?_
    exact ⟨_, _, rfl, hs i _ _ ha1 hb1, ha, hN⟩
  · intro p hp
    have e2 : (rgD 0 ys.length).map (fun _ => D.bl true) = (List.replicate ys.length true).map D.bl := by
      rw [List.map_const', rgD_len, List.map_replicate]
    rw [e2]
    exact k p hp
theorem d_law_same0 : ∀ xs O R Z, sp_law_sameN 0 xs O R Z → t_law_same spBot (ends R) (startD n_law_same xs) O := by
  rintro _ O R Z ⟨x, y, rfl, ⟨rfl, hs⟩, r⟩
  exact same_scal hs r
theorem d_law_same : ∀ n xs O R Z, sp_law_sameN (n + 1) xs O R Z → t_law_same (sp_law_sameN n) (ends R) (startD n_law_same xs) O := by
  rintro n _ O R Z ⟨x, y, rfl, h, r⟩
  show t_law_same _ (ends R) [some x, some y, none] O
  have fin : ∀ (m : Nat) (p : Addr), O p = none → (match DL.blsOf ((List.replicate m true).map D.bl) with | some bs => Fin R (.bl (bs.all fun b => b)) (up O p (.lst ((List.replicate m true).map D.bl))) | none => False) := fun m p hp => by
    rw [blsOf_map]
    have e : (List.replicate m true).all (fun b => b) = true := by simp
    show Fin R (.bl ((List.replicate m true).all fun b => b)) _
    rw [e]
    exact Sb.fin (Sb.new hp) r
  rcases h with ⟨rfl, hs⟩ | ⟨xs, ys, hx, hy, hl, hl2, hs⟩ | ⟨xs, ys, rfl, rfl, hl, hl2, hs⟩
  · exact same_scal hs r
  · rcases lstOf_cases hx with rfl | ⟨a, rfl, ha⟩ <;> rcases lstOf_cases hy with rfl | ⟨b, rfl, hb⟩
    · simp only [dIfS, dAndT, dOrT, dNotT, dTest, dTruth, dTru, dAndV, dOrV, dNotV, dIf, dOp, dUn, dVar, dC, dI, dIc, dAdd, dSub, dMul, dFd, dMod, dPow, dNeg, dLt, dLe, dGt, dGe, dEq, dNe, dIsN, dNotN, DL.isNon, dIx, dSl, dPart, dNoPart, dCB, dLen, dAbs, dList, dTuple, dBls, dSum, dIsi, dIsi2, dtOf, isC, seqOf, lstOf, dCons, dNil, dTup, dLst, dRet, dRetN, dNext, dDrop, dAsg, gN, gsNil, gsCons, gT, gSubD, dSetL, dPar, dAug, dIpAdd, dIpSub, dCall, pick_nil, pick_p, pick_k, pick_d, dBreak, dCont, dLM, dLM0, isL, dAppend, dInsert, dPop, dPopAt, dRevL, dStr, dFmt, dJs, dMax2, dMin2, dSorted, dNewK, dctOf, dGetK, dHasK, DL.keyOf, dPutK, dDelK, dSortedD, dSet, dLstF, dRevF, dSlF, dListF, dSortedF, dSortedDF, dMaxF, dMinF, dInS, dLtA, dNewT, dGetT, dHasT, dctT, tkOf, keysOf, dTupP, dPutT, dPutP, putTk, pkOf, dSortedTF, dGet1, dGet2, dGet2T, dDisp1, dRep, dInt, dBits, dExtend, dReverse, dMaxDf, dCat, dCatF, dExtL, dDcT, Option.isSome_some, List.getElem?_cons_zero, List.getElem?_cons_succ, List.set_cons_zero, List.set_cons_succ, atI_0, atI_1, atI_2, atI_3, atI_4, atI_5, ixN_0, ixN_1, ixN_2, ixN_3, ixN_4, ixN_5, up_same, List.length_cons, List.length_nil, Bool.not_true, Bool.not_false, Bool.false_eq_true, if_true, if_false, reduceIte, dSeq, t_law_same, hl, decide_true, Bool.or_self, Bool.true_or, Bool.or_true]
      exact same_row (x := .lst xs) (y := .lst ys) (n := n) rfl rfl hl hl2 hs (fun _ q => q) fun p hp => by simp only [dIfS, dAndT, dOrT, dNotT, dTest, dTruth, dTru, dAndV, dOrV, dNotV, dIf, dOp, dUn, dVar, dC, dI, dIc, dAdd, dSub, dMul, dFd, dMod, dPow, dNeg, dLt, dLe, dGt, dGe, dEq, dNe, dIsN, dNotN, DL.isNon, dIx, dSl, dPart, dNoPart, dCB, dLen, dAbs, dList, dTuple, dBls, dSum, dIsi, dIsi2, dtOf, isC, seqOf, lstOf, dCons, dNil, dTup, dLst, dRet, dRetN, dNext, dDrop, dAsg, gN, gsNil, gsCons, gT, gSubD, dSetL, dPar, dAug, dIpAdd, dIpSub, dCall, pick_nil, pick_p, pick_k, pick_d, dBreak, dCont, dLM, dLM0, isL, dAppend, dInsert, dPop, dPopAt, dRevL, dStr, dFmt, dJs, dMax2, dMin2, dSorted, dNewK, dctOf, dGetK, dHasK, DL.keyOf, dPutK, dDelK, dSortedD, dSet, dLstF, dRevF, dSlF, dListF, dSortedF, dSortedDF, dMaxF, dMinF, dInS, dLtA, dNewT, dGetT, dHasT, dctT, tkOf, keysOf, dTupP, dPutT, dPutP, putTk, pkOf, dSortedTF, dGet1, dGet2, dGet2T, dDisp1, dRep, dInt, dBits, dExtend, dReverse, dMaxDf, dCat, dCatF, dExtL, dDcT, Option.isSome_some, List.getElem?_cons_zero, List.getElem?_cons_succ, List.set_cons_zero, List.set_cons_succ, atI_0, atI_1, atI_2, atI_3, atI_4, atI_5, ixN_0, ixN_1, ixN_2, ixN_3, ixN_4, ixN_5, up_same, List.length_cons, List.length_nil, Bool.not_true, Bool.not_false, Bool.false_eq_true, if_true, if_false, reduceIte, dSeq, up_same]; exact fin _ p hp
    · simp only [dIfS, dAndT, dOrT, dNotT, dTest, dTruth, dTru, dAndV, dOrV, dNotV, dIf, dOp, dUn, dVar, dC, dI, dIc, dAdd, dSub, dMul, dFd, dMod, dPow, dNeg, dLt, dLe, dGt, dGe, dEq, dNe, dIsN, dNotN, DL.isNon, dIx, dSl, dPart, dNoPart, dCB, dLen, dAbs, dList, dTuple, dBls, dSum, dIsi, dIsi2, dtOf, isC, seqOf, lstOf, dCons, dNil, dTup, dLst, dRet, dRetN, dNext, dDrop, dAsg, gN, gsNil, gsCons, gT, gSubD, dSetL, dPar, dAug, dIpAdd, dIpSub, dCall, pick_nil, pick_p, pick_k, pick_d, dBreak, dCont, dLM, dLM0, isL, dAppend, dInsert, dPop, dPopAt, dRevL, dStr, dFmt, dJs, dMax2, dMin2, dSorted, dNewK, dctOf, dGetK, dHasK, DL.keyOf, dPutK, dDelK, dSortedD, dSet, dLstF, dRevF, dSlF, dListF, dSortedF, dSortedDF, dMaxF, dMinF, dInS, dLtA, dNewT, dGetT, dHasT, dctT, tkOf, keysOf, dTupP, dPutT, dPutP, putTk, pkOf, dSortedTF, dGet1, dGet2, dGet2T, dDisp1, dRep, dInt, dBits, dExtend, dReverse, dMaxDf, dCat, dCatF, dExtL, dDcT, Option.isSome_some, List.getElem?_cons_zero, List.getElem?_cons_succ, List.set_cons_zero, List.set_cons_succ, atI_0, atI_1, atI_2, atI_3, atI_4, atI_5, ixN_0, ixN_1, ixN_2, ixN_3, ixN_4, ixN_5, up_same, List.length_cons, List.length_nil, Bool.not_true, Bool.not_false, Bool.false_eq_true, if_true, if_false, reduceIte, dSeq, t_law_same, hl, decide_true, Bool.or_self, Bool.true_or, Bool.or_true, hb]
      exact same_row (x := .lst xs) (y := .ref b) (n := n) rfl (by simp only [dIfS, dAndT, dOrT, dNotT, dTest, dTruth, dTru, dAndV, dOrV, dNotV, dIf, dOp, dUn, dVar, dC, dI, dIc, dAdd, dSub, dMul, dFd, dMod, dPow, dNeg, dLt, dLe, dGt, dGe, dEq, dNe, dIsN, dNotN, DL.isNon, dIx, dSl, dPart, dNoPart, dCB, dLen, dAbs, dList, dTuple, dBls, dSum, dIsi, dIsi2, dtOf, isC, seqOf, lstOf, dCons, dNil, dTup, dLst, dRet, dRetN, dNext, dDrop, dAsg, gN, gsNil, gsCons, gT, gSubD, dSetL, dPar, dAug, dIpAdd, dIpSub, dCall, pick_nil, pick_p, pick_k, pick_d, dBreak, dCont, dLM, dLM0, isL, dAppend, dInsert, dPop, dPopAt, dRevL, dStr, dFmt, dJs, dMax2, dMin2, dSorted, dNewK, dctOf, dGetK, dHasK, DL.keyOf, dPutK, dDelK, dSortedD, dSet, dLstF, dRevF, dSlF, dListF, dSortedF, dSortedDF, dMaxF, dMinF, dInS, dLtA, dNewT, dGetT, dHasT, dctT, tkOf, keysOf, dTupP, dPutT, dPutP, putTk, pkOf, dSortedTF, dGet1, dGet2, dGet2T, dDisp1, dRep, dInt, dBits, dExtend, dReverse, dMaxDf, dCat, dCatF, dExtL, dDcT, Option.isSome_some, List.getElem?_cons_zero, List.getElem?_cons_succ, List.set_cons_zero, List.set_cons_succ, atI_0, atI_1, atI_2, atI_3, atI_4, atI_5, ixN_0, ixN_1, ixN_2, ixN_3, ixN_4, ixN_5, up_same, List.length_cons, List.length_nil, Bool.not_true, Bool.not_false, Bool.false_eq_true, if_true, if_false, reduceIte, dSeq, hb]) hl hl2 hs (fun _ q => by simp only [dIfS, dAndT, dOrT, dNotT, dTest, dTruth, dTru, dAndV, dOrV, dNotV, dIf, dOp, dUn, dVar, dC, dI, dIc, dAdd, dSub, dMul, dFd, dMod, dPow, dNeg, dLt, dLe, dGt, dGe, dEq, dNe, dIsN, dNotN, DL.isNon, dIx, dSl, dPart, dNoPart, dCB, dLen, dAbs, dList, dTuple, dBls, dSum, dIsi, dIsi2, dtOf, isC, seqOf, lstOf, dCons, dNil, dTup, dLst, dRet, dRetN, dNext, dDrop, dAsg, gN, gsNil, gsCons, gT, gSubD, dSetL, dPar, dAug, dIpAdd, dIpSub, dCall, pick_nil, pick_p, pick_k, pick_d, dBreak, dCont, dLM, dLM0, isL, dAppend, dInsert, dPop, dPopAt, dRevL, dStr, dFmt, dJs, dMax2, dMin2, dSorted, dNewK, dctOf, dGetK, dHasK, DL.keyOf, dPutK, dDelK, dSortedD, dSet, dLstF, dRevF, dSlF, dListF, dSortedF, dSortedDF, dMaxF, dMinF, dInS, dLtA, dNewT, dGetT, dHasT, dctT, tkOf, keysOf, dTupP, dPutT, dPutP, putTk, pkOf, dSortedTF, dGet1, dGet2, dGet2T, dDisp1, dRep, dInt, dBits, dExtend, dReverse, dMaxDf, dCat, dCatF, dExtL, dDcT, Option.isSome_some, List.getElem?_cons_zero, List.getElem?_cons_succ, List.set_cons_zero, List.set_cons_succ, atI_0, atI_1, atI_2, atI_3, atI_4, atI_5, ixN_0, ixN_1, ixN_2, ixN_3, ixN_4, ixN_5, up_same, List.length_cons, List.length_nil, Bool.not_true, Bool.not_false, Bool.false_eq_true, if_true, if_false, reduceIte, dSeq, hb]; exact q) fun p hp => by simp only [dIfS, dAndT, dOrT, dNotT, dTest, dTruth, dTru, dAndV, dOrV, dNotV, dIf, dOp, dUn, dVar, dC, dI, dIc, dAdd, dSub, dMul, dFd, dMod, dPow, dNeg, dLt, dLe, dGt, dGe, dEq, dNe, dIsN, dNotN, DL.isNon, dIx, dSl, dPart, dNoPart, dCB, dLen, dAbs, dList, dTuple, dBls, dSum, dIsi, dIsi2, dtOf, isC, seqOf, lstOf, dCons, dNil, dTup, dLst, dRet, dRetN, dNext, dDrop, dAsg, gN, gsNil, gsCons, gT, gSubD, dSetL, dPar, dAug, dIpAdd, dIpSub, dCall, pick_nil, pick_p, pick_k, pick_d, dBreak, dCont, dLM, dLM0, isL, dAppend, dInsert, dPop, dPopAt, dRevL, dStr, dFmt, dJs, dMax2, dMin2, dSorted, dNewK, dctOf, dGetK, dHasK, DL.keyOf, dPutK, dDelK, dSortedD, dSet, dLstF, dRevF, dSlF, dListF, dSortedF, dSortedDF, dMaxF, dMinF, dInS, dLtA, dNewT, dGetT, dHasT, dctT, tkOf, keysOf, dTupP, dPutT, dPutP, putTk, pkOf, dSortedTF, dGet1, dGet2, dGet2T, dDisp1, dRep, dInt, dBits, dExtend, dReverse, dMaxDf, dCat, dCatF, dExtL, dDcT, Option.isSome_some, List.getElem?_cons_zero, List.getElem?_cons_succ, List.set_cons_zero, List.set_cons_succ, atI_0, atI_1, atI_2, atI_3, atI_4, atI_5, ixN_0, ixN_1, ixN_2, ixN_3, ixN_4, ixN_5, up_same, List.length_cons, List.length_nil, Bool.not_true, Bool.not_false, Bool.false_eq_true, if_true, if_false, reduceIte, dSeq, up_same]; exact fin _ p hp
    · simp only [dIfS, dAndT, dOrT, dNotT, dTest, dTruth, dTru, dAndV, dOrV, dNotV, dIf, dOp, dUn, dVar, dC, dI, dIc, dAdd, dSub, dMul, dFd, dMod, dPow, dNeg, dLt, dLe, dGt, dGe, dEq, dNe, dIsN, dNotN, DL.isNon, dIx, dSl, dPart, dNoPart, dCB, dLen, dAbs, dList, dTuple, dBls, dSum, dIsi, dIsi2, dtOf, isC, seqOf, lstOf, dCons, dNil, dTup, dLst, dRet, dRetN, dNext, dDrop, dAsg, gN, gsNil, gsCons, gT, gSubD, dSetL, dPar, dAug, dIpAdd, dIpSub, dCall, pick_nil, pick_p, pick_k, pick_d, dBreak, dCont, dLM, dLM0, isL, dAppend, dInsert, dPop, dPopAt, dRevL, dStr, dFmt, dJs, dMax2, dMin2, dSorted, dNewK, dctOf, dGetK, dHasK, DL.keyOf, dPutK, dDelK, dSortedD, dSet, dLstF, dRevF, dSlF, dListF, dSortedF, dSortedDF, dMaxF, dMinF, dInS, dLtA, dNewT, dGetT, dHasT, dctT, tkOf, keysOf, dTupP, dPutT, dPutP, putTk, pkOf, dSortedTF, dGet1, dGet2, dGet2T, dDisp1, dRep, dInt, dBits, dExtend, dReverse, dMaxDf, dCat, dCatF, dExtL, dDcT, Option.isSome_some, List.getElem?_cons_zero, List.getElem?_cons_succ, List.set_cons_zero, List.set_cons_succ, atI_0, atI_1, atI_2, atI_3, atI_4, atI_5, ixN_0, ixN_1, ixN_2, ixN_3, ixN_4, ixN_5, up_same, List.length_cons, List.length_nil, Bool.not_true, Bool.not_false, Bool.false_eq_true, if_true, if_false, reduceIte, dSeq, t_law_same, hl, decide_true, Bool.or_self, Bool.true_or, Bool.or_true, ha]
      exact same_row (x := .ref a) (y := .lst ys) (n := n) (by simp only [dIfS, dAndT, dOrT, dNotT, dTest, dTruth, dTru, dAndV, dOrV, dNotV, dIf, dOp, dUn, dVar, dC, dI, dIc, dAdd, dSub, dMul, dFd, dMod, dPow, dNeg, dLt, dLe, dGt, dGe, dEq, dNe, dIsN, dNotN, DL.isNon, dIx, dSl, dPart, dNoPart, dCB, dLen, dAbs, dList, dTuple, dBls, dSum, dIsi, dIsi2, dtOf, isC, seqOf, lstOf, dCons, dNil, dTup, dLst, dRet, dRetN, dNext, dDrop, dAsg, gN, gsNil, gsCons, gT, gSubD, dSetL, dPar, dAug, dIpAdd, dIpSub, dCall, pick_nil, pick_p, pick_k, pick_d, dBreak, dCont, dLM, dLM0, isL, dAppend, dInsert, dPop, dPopAt, dRevL, dStr, dFmt, dJs, dMax2, dMin2, dSorted, dNewK, dctOf, dGetK, dHasK, DL.keyOf, dPutK, dDelK, dSortedD, dSet, dLstF, dRevF, dSlF, dListF, dSortedF, dSortedDF, dMaxF, dMinF, dInS, dLtA, dNewT, dGetT, dHasT, dctT, tkOf, keysOf, dTupP, dPutT, dPutP, putTk, pkOf, dSortedTF, dGet1, dGet2, dGet2T, dDisp1, dRep, dInt, dBits, dExtend, dReverse, dMaxDf, dCat, dCatF, dExtL, dDcT, Option.isSome_some, List.getElem?_cons_zero, List.getElem?_cons_succ, List.set_cons_zero, List.set_cons_succ, atI_0, atI_1, atI_2, atI_3, atI_4, atI_5, ixN_0, ixN_1, ixN_2, ixN_3, ixN_4, ixN_5, up_same, List.length_cons, List.length_nil, Bool.not_true, Bool.not_false, Bool.false_eq_true, if_true, if_false, reduceIte, dSeq, ha]) rfl hl hl2 hs (fun _ q => q) fun p hp => by simp only [dIfS, dAndT, dOrT, dNotT, dTest, dTruth, dTru, dAndV, dOrV, dNotV, dIf, dOp, dUn, dVar, dC, dI, dIc, dAdd, dSub, dMul, dFd, dMod, dPow, dNeg, dLt, dLe, dGt, dGe, dEq, dNe, dIsN, dNotN, DL.isNon, dIx, dSl, dPart, dNoPart, dCB, dLen, dAbs, dList, dTuple, dBls, dSum, dIsi, dIsi2, dtOf, isC, seqOf, lstOf, dCons, dNil, dTup, dLst, dRet, dRetN, dNext, dDrop, dAsg, gN, gsNil, gsCons, gT, gSubD, dSetL, dPar, dAug, dIpAdd, dIpSub, dCall, pick_nil, pick_p, pick_k, pick_d, dBreak, dCont, dLM, dLM0, isL, dAppend, dInsert, dPop, dPopAt, dRevL, dStr, dFmt, dJs, dMax2, dMin2, dSorted, dNewK, dctOf, dGetK, dHasK, DL.keyOf, dPutK, dDelK, dSortedD, dSet, dLstF, dRevF, dSlF, dListF, dSortedF, dSortedDF, dMaxF, dMinF, dInS, dLtA, dNewT, dGetT, dHasT, dctT, tkOf, keysOf, dTupP, dPutT, dPutP, putTk, pkOf, dSortedTF, dGet1, dGet2, dGet2T, dDisp1, dRep, dInt, dBits, dExtend, dReverse, dMaxDf, dCat, dCatF, dExtL, dDcT, Option.isSome_some, List.getElem?_cons_zero, List.getElem?_cons_succ, List.set_cons_zero, List.set_cons_succ, atI_0, atI_1, atI_2, atI_3, atI_4, atI_5, ixN_0, ixN_1, ixN_2, ixN_3, ixN_4, ixN_5, up_same, List.length_cons, List.length_nil, Bool.not_true, Bool.not_false, Bool.false_eq_true, if_true, if_false, reduceIte, dSeq, up_same]; exact fin _ p hp
    · simp only [dIfS, dAndT, dOrT, dNotT, dTest, dTruth, dTru, dAndV, dOrV, dNotV, dIf, dOp, dUn, dVar, dC, dI, dIc, dAdd, dSub, dMul, dFd, dMod, dPow, dNeg, dLt, dLe, dGt, dGe, dEq, dNe, dIsN, dNotN, DL.isNon, dIx, dSl, dPart, dNoPart, dCB, dLen, dAbs, dList, dTuple, dBls, dSum, dIsi, dIsi2, dtOf, isC, seqOf, lstOf, dCons, dNil, dTup, dLst, dRet, dRetN, dNext, dDrop, dAsg, gN, gsNil, gsCons, gT, gSubD, dSetL, dPar, dAug, dIpAdd, dIpSub, dCall, pick_nil, pick_p, pick_k, pick_d, dBreak, dCont, dLM, dLM0, isL, dAppend, dInsert, dPop, dPopAt, dRevL, dStr, dFmt, dJs, dMax2, dMin2, dSorted, dNewK, dctOf, dGetK, dHasK, DL.keyOf, dPutK, dDelK, dSortedD, dSet, dLstF, dRevF, dSlF, dListF, dSortedF, dSortedDF, dMaxF, dMinF, dInS, dLtA, dNewT, dGetT, dHasT, dctT, tkOf, keysOf, dTupP, dPutT, dPutP, putTk, pkOf, dSortedTF, dGet1, dGet2, dGet2T, dDisp1, dRep, dInt, dBits, dExtend, dReverse, dMaxDf, dCat, dCatF, dExtL, dDcT, Option.isSome_some, List.getElem?_cons_zero, List.getElem?_cons_succ, List.set_cons_zero, List.set_cons_succ, atI_0, atI_1, atI_2, atI_3, atI_4, atI_5, ixN_0, ixN_1, ixN_2, ixN_3, ixN_4, ixN_5, up_same, List.length_cons, List.length_nil, Bool.not_true, Bool.not_false, Bool.false_eq_true, if_true, if_false, reduceIte, dSeq, t_law_same, hl, decide_true, Bool.or_self, Bool.true_or, Bool.or_true, ha, hb]
      exact same_row (x := .ref a) (y := .ref b) (n := n) (by simp only [dIfS, dAndT, dOrT, dNotT, dTest, dTruth, dTru, dAndV, dOrV, dNotV, dIf, dOp, dUn, dVar, dC, dI, dIc, dAdd, dSub, dMul, dFd, dMod, dPow, dNeg, dLt, dLe, dGt, dGe, dEq, dNe, dIsN, dNotN, DL.isNon, dIx, dSl, dPart, dNoPart, dCB, dLen, dAbs, dList, dTuple, dBls, dSum, dIsi, dIsi2, dtOf, isC, seqOf, lstOf, dCons, dNil, dTup, dLst, dRet, dRetN, dNext, dDrop, dAsg, gN, gsNil, gsCons, gT, gSubD, dSetL, dPar, dAug, dIpAdd, dIpSub, dCall, pick_nil, pick_p, pick_k, pick_d, dBreak, dCont, dLM, dLM0, isL, dAppend, dInsert, dPop, dPopAt, dRevL, dStr, dFmt, dJs, dMax2, dMin2, dSorted, dNewK, dctOf, dGetK, dHasK, DL.keyOf, dPutK, dDelK, dSortedD, dSet, dLstF, dRevF, dSlF, dListF, dSortedF, dSortedDF, dMaxF, dMinF, dInS, dLtA, dNewT, dGetT, dHasT, dctT, tkOf, keysOf, dTupP, dPutT, dPutP, putTk, pkOf, dSortedTF, dGet1, dGet2, dGet2T, dDisp1, dRep, dInt, dBits, dExtend, dReverse, dMaxDf, dCat, dCatF, dExtL, dDcT, Option.isSome_some, List.getElem?_cons_zero, List.getElem?_cons_succ, List.set_cons_zero, List.set_cons_succ, atI_0, atI_1, atI_2, atI_3, atI_4, atI_5, ixN_0, ixN_1, ixN_2, ixN_3, ixN_4, ixN_5, up_same, List.length_cons, List.length_nil, Bool.not_true, Bool.not_false, Bool.false_eq_true, if_true, if_false, reduceIte, dSeq, ha]) (by simp only [dIfS, dAndT, dOrT, dNotT, dTest, dTruth, dTru, dAndV, dOrV, dNotV, dIf, dOp, dUn, dVar, dC, dI, dIc, dAdd, dSub, dMul, dFd, dMod, dPow, dNeg, dLt, dLe, dGt, dGe, dEq, dNe, dIsN, dNotN, DL.isNon, dIx, dSl, dPart, dNoPart, dCB, dLen, dAbs, dList, dTuple, dBls, dSum, dIsi, dIsi2, dtOf, isC, seqOf, lstOf, dCons, dNil, dTup, dLst, dRet, dRetN, dNext, dDrop, dAsg, gN, gsNil, gsCons, gT, gSubD, dSetL, dPar, dAug, dIpAdd, dIpSub, dCall, pick_nil, pick_p, pick_k, pick_d, dBreak, dCont, dLM, dLM0, isL, dAppend, dInsert, dPop, dPopAt, dRevL, dStr, dFmt, dJs, dMax2, dMin2, dSorted, dNewK, dctOf, dGetK, dHasK, DL.keyOf, dPutK, dDelK, dSortedD, dSet, dLstF, dRevF, dSlF, dListF, dSortedF, dSortedDF, dMaxF, dMinF, dInS, dLtA, dNewT, dGetT, dHasT, dctT, tkOf, keysOf, dTupP, dPutT, dPutP, putTk, pkOf, dSortedTF, dGet1, dGet2, dGet2T, dDisp1, dRep, dInt, dBits, dExtend, dReverse, dMaxDf, dCat, dCatF, dExtL, dDcT, Option.isSome_some, List.getElem?_cons_zero, List.getElem?_cons_succ, List.set_cons_zero, List.set_cons_succ, atI_0, atI_1, atI_2, atI_3, atI_4, atI_5, ixN_0, ixN_1, ixN_2, ixN_3, ixN_4, ixN_5, up_same, List.length_cons, List.length_nil, Bool.not_true, Bool.not_false, Bool.false_eq_true, if_true, if_false, reduceIte, dSeq, hb]) hl hl2 hs (fun _ q => by simp only [dIfS, dAndT, dOrT, dNotT, dTest, dTruth, dTru, dAndV, dOrV, dNotV, dIf, dOp, dUn, dVar, dC, dI, dIc, dAdd, dSub, dMul, dFd, dMod, dPow, dNeg, dLt, dLe, dGt, dGe, dEq, dNe, dIsN, dNotN, DL.isNon, dIx, dSl, dPart, dNoPart, dCB, dLen, dAbs, dList, dTuple, dBls, dSum, dIsi, dIsi2, dtOf, isC, seqOf, lstOf, dCons, dNil, dTup, dLst, dRet, dRetN, dNext, dDrop, dAsg, gN, gsNil, gsCons, gT, gSubD, dSetL, dPar, dAug, dIpAdd, dIpSub, dCall, pick_nil, pick_p, pick_k, pick_d, dBreak, dCont, dLM, dLM0, isL, dAppend, dInsert, dPop, dPopAt, dRevL, dStr, dFmt, dJs, dMax2, dMin2, dSorted, dNewK, dctOf, dGetK, dHasK, DL.keyOf, dPutK, dDelK, dSortedD, dSet, dLstF, dRevF, dSlF, dListF, dSortedF, dSortedDF, dMaxF, dMinF, dInS, dLtA, dNewT, dGetT, dHasT, dctT, tkOf, keysOf, dTupP, dPutT, dPutP, putTk, pkOf, dSortedTF, dGet1, dGet2, dGet2T, dDisp1, dRep, dInt, dBits, dExtend, dReverse, dMaxDf, dCat, dCatF, dExtL, dDcT, Option.isSome_some, List.getElem?_cons_zero, List.getElem?_cons_succ, List.set_cons_zero, List.set_cons_succ, atI_0, atI_1, atI_2, atI_3, atI_4, atI_5, ixN_0, ixN_1, ixN_2, ixN_3, ixN_4, ixN_5, up_same, List.length_cons, List.length_nil, Bool.not_true, Bool.not_false, Bool.false_eq_true, if_true, if_false, reduceIte, dSeq, hb]; exact q) fun p hp => by simp only [dIfS, dAndT, dOrT, dNotT, dTest, dTruth, dTru, dAndV, dOrV, dNotV, dIf, dOp, dUn, dVar, dC, dI, dIc, dAdd, dSub, dMul, dFd, dMod, dPow, dNeg, dLt, dLe, dGt, dGe, dEq, dNe, dIsN, dNotN, DL.isNon, dIx, dSl, dPart, dNoPart, dCB, dLen, dAbs, dList, dTuple, dBls, dSum, dIsi, dIsi2, dtOf, isC, seqOf, lstOf, dCons, dNil, dTup, dLst, dRet, dRetN, dNext, dDrop, dAsg, gN, gsNil, gsCons, gT, gSubD, dSetL, dPar, dAug, dIpAdd, dIpSub, dCall, pick_nil, pick_p, pick_k, pick_d, dBreak, dCont, dLM, dLM0, isL, dAppend, dInsert, dPop, dPopAt, dRevL, dStr, dFmt, dJs, dMax2, dMin2, dSorted, dNewK, dctOf, dGetK, dHasK, DL.keyOf, dPutK, dDelK, dSortedD, dSet, dLstF, dRevF, dSlF, dListF, dSortedF, dSortedDF, dMaxF, dMinF, dInS, dLtA, dNewT, dGetT, dHasT, dctT, tkOf, keysOf, dTupP, dPutT, dPutP, putTk, pkOf, dSortedTF, dGet1, dGet2, dGet2T, dDisp1, dRep, dInt, dBits, dExtend, dReverse, dMaxDf, dCat, dCatF, dExtL, dDcT, Option.isSome_some, List.getElem?_cons_zero, List.getElem?_cons_succ, List.set_cons_zero, List.set_cons_succ, atI_0, atI_1, atI_2, atI_3, atI_4, atI_5, ixN_0, ixN_1, ixN_2, ixN_3, ixN_4, ixN_5, up_same, List.length_cons, List.length_nil, Bool.not_true, Bool.not_false, Bool.false_eq_true, if_true, if_false, reduceIte, dSeq, up_same]; exact fin _ p hp
  · simp only [dIfS, dAndT, dOrT, dNotT, dTest, dTruth, dTru, dAndV, dOrV, dNotV, dIf, dOp, dUn, dVar, dC, dI, dIc, dAdd, dSub, dMul, dFd, dMod, dPow, dNeg, dLt, dLe, dGt, dGe, dEq, dNe, dIsN, dNotN, DL.isNon, dIx, dSl, dPart, dNoPart, dCB, dLen, dAbs, dList, dTuple, dBls, dSum, dIsi, dIsi2, dtOf, isC, seqOf, lstOf, dCons, dNil, dTup, dLst, dRet, dRetN, dNext, dDrop, dAsg, gN, gsNil, gsCons, gT, gSubD, dSetL, dPar, dAug, dIpAdd, dIpSub, dCall, pick_nil, pick_p, pick_k, pick_d, dBreak, dCont, dLM, dLM0, isL, dAppend, dInsert, dPop, dPopAt, dRevL, dStr, dFmt, dJs, dMax2, dMin2, dSorted, dNewK, dctOf, dGetK, dHasK, DL.keyOf, dPutK, dDelK, dSortedD, dSet, dLstF, dRevF, dSlF, dListF, dSortedF, dSortedDF, dMaxF, dMinF, dInS, dLtA, dNewT, dGetT, dHasT, dctT, tkOf, keysOf, dTupP, dPutT, dPutP, putTk, pkOf, dSortedTF, dGet1, dGet2, dGet2T, dDisp1, dRep, dInt, dBits, dExtend, dReverse, dMaxDf, dCat, dCatF, dExtL, dDcT, Option.isSome_some, List.getElem?_cons_zero, List.getElem?_cons_succ, List.set_cons_zero, List.set_cons_succ, atI_0, atI_1, atI_2, atI_3, atI_4, atI_5, ixN_0, ixN_1, ixN_2, ixN_3, ixN_4, ixN_5, up_same, List.length_cons, List.length_nil, Bool.not_true, Bool.not_false, Bool.false_eq_true, if_true, if_false, reduceIte, dSeq, t_law_same, hl, decide_true, Bool.or_self, Bool.true_or, Bool.or_true]
    exact same_row (x := .tup xs) (y := .tup ys) (n := n) rfl rfl hl hl2 hs (fun _ q => q) fun p hp => by simp only [dIfS, dAndT, dOrT, dNotT, dTest, dTruth, dTru, dAndV, dOrV, dNotV, dIf, dOp, dUn, dVar, dC, dI, dIc, dAdd, dSub, dMul, dFd, dMod, dPow, dNeg, dLt, dLe, dGt, dGe, dEq, dNe, dIsN, dNotN, DL.isNon, dIx, dSl, dPart, dNoPart, dCB, dLen, dAbs, dList, dTuple, dBls, dSum, dIsi, dIsi2, dtOf, isC, seqOf, lstOf, dCons, dNil, dTup, dLst, dRet, dRetN, dNext, dDrop, dAsg, gN, gsNil, gsCons, gT, gSubD, dSetL, dPar, dAug, dIpAdd, dIpSub, dCall, pick_nil, pick_p, pick_k, pick_d, dBreak, dCont, dLM, dLM0, isL, dAppend, dInsert, dPop, dPopAt, dRevL, dStr, dFmt, dJs, dMax2, dMin2, dSorted, dNewK, dctOf, dGetK, dHasK, DL.keyOf, dPutK, dDelK, dSortedD, dSet, dLstF, dRevF, dSlF, dListF, dSortedF, dSortedDF, dMaxF, dMinF, dInS, dLtA, dNewT, dGetT, dHasT, dctT, tkOf, keysOf, dTupP, dPutT, dPutP, putTk, pkOf, dSortedTF, dGet1, dGet2, dGet2T, dDisp1, dRep, dInt, dBits, dExtend, dReverse, dMaxDf, dCat, dCatF, dExtL, dDcT, Option.isSome_some, List.getElem?_cons_zero, List.getElem?_cons_succ, List.set_cons_zero, List.set_cons_succ, atI_0, atI_1, atI_2, atI_3, atI_4, atI_5, ixN_0, ixN_1, ixN_2, ixN_3, ixN_4, ixN_5, up_same, List.length_cons, List.length_nil, Bool.not_true, Bool.not_false, Bool.false_eq_true, if_true, if_false, reduceIte, dSeq, up_same]; exact fin _ p hp
theorem Sm.sc {O : Om} {n : Nat} {x : D} (h : scal x = true) : Sm O n x x := by
  cases n with
  | zero => exact ⟨rfl, h⟩
  | succ n => exact .inl ⟨rfl, h⟩
/-- two owned lists of the same items -/
theorem Sm.own {O : Om} {n : Nat} {p q : Addr} {xs ys : List D} (hp : O p = some (.lst xs)) (hq : O q = some (.lst ys)) (hl : xs.length = ys.length) (hl2 : xs.length ≤ 1000000) (h : ∀ (i : Nat) (a b : D), xs[i]? = some a → ys[i]? = some b → Sm O n a b) : Sm O (n + 1) (.ref p) (.ref q) :=
  .inr (.inl ⟨xs, ys, by simp only [lstOf, hp], by simp only [lstOf, hq], hl, hl2, h⟩)
theorem Sm.tup {O : Om} {n : Nat} {xs ys : List D} (hl : xs.length = ys.length) (hl2 : xs.length ≤ 1000000) (h : ∀ (i : Nat) (a b : D), xs[i]? = some a → ys[i]? = some b → Sm O n a b) : Sm O (n + 1) (.tup xs) (.tup ys) :=
  .inr (.inr ⟨xs, ys, rfl, rfl, hl, hl2, h⟩)
/-- rows item by item -/
inductive SmAll (O : Om) (n : Nat) : List D → List D → Prop
  | nil : SmAll O n [] []
  | cons {x y : D} {xs ys : List D} : Sm O n x y → SmAll O n xs ys → SmAll O n (x :: xs) (y :: ys)
theorem SmAll.len {O : Om} {n : Nat} {xs ys : List D} (h : SmAll O n xs ys) : xs.length = ys.length := by
  induction h with
  | nil => rfl
  | cons _ _ ih => rw [List.length_cons, List.length_cons, ih]
theorem SmAll.get {O : Om} {n : Nat} {xs ys : List D} (h : SmAll O n xs ys) : ∀ (i : Nat) (a b : D), xs[i]? = some a → ys[i]? = some b → Sm O n a b := by
  induction h with
  | nil => intro i a b e; simp at e
  | cons h1 h2 ih =>
    intro i a b ha hb
    cases i with
    | zero => simp at ha hb; subst ha hb; exact h1
    | succ i => exact ih i a b (by simpa using ha) (by simpa using hb)
theorem SmAll.own {O : Om} {n : Nat} {p q : Addr} {xs ys : List D} (hp : O p = some (.lst xs)) (hq : O q = some (.lst ys)) (hl2 : xs.length ≤ 1000000) (h : SmAll O n xs ys) : Sm O (n + 1) (.ref p) (.ref q) := Sm.own hp hq h.len hl2 h.get
theorem SmAll.tup {O : Om} {n : Nat} {xs ys : List D} (h : SmAll O n xs ys) (hl2 : xs.length ≤ 1000000) : Sm O (n + 1) (.tup xs) (.tup ys) := Sm.tup h.len hl2 h.get
theorem SmAll.map {A : Type} {O : Om} {n : Nat} {f g : A → D} : ∀ {as : List A}, (∀ a ∈ as, Sm O n (f a) (g a)) → SmAll O n (as.map f) (as.map g)
  | [], _ => .nil
  | a :: as, h => .cons (h a (by simp)) (SmAll.map (as := as) fun b hb => h b (by simp [hb]))
theorem Sm.pt {O : Om} {n : Nat} {p : Pt} : Sm O (n + 1) (pD p) (pD p) := SmAll.tup (.cons (Sm.sc rfl) (.cons (Sm.sc rfl) .nil)) (by simp)
/-- the law's same, asked of what is the same -/
theorem same_of {O : Om} {R : D → Om → Prop} {Z : XD} {x y : D} (h : Sm O 9 x y) (r : R (.bl true) O) : sp_law_same [x, y] O R Z := ⟨x, y, rfl, h, r⟩
end Lw
set_option linter.all false
set_option maxRecDepth 100000
set_option maxHeartbeats 2000000
namespace Lw
open PySem PySem.Spec PyProof.Rows L2 DL
open Evl (Ex)
/-! ### parts as numbers -/
def ptR (x : Rat) : Pt := (x.num, (x.den : Int))
def pR (x : Rat) : D := pD (ptR x)
theorem Low.rat {p : Pt} (h : Low p) : p = ptR (Rat.divInt p.1 p.2) := by
  obtain ⟨n, d⟩ := p
  have hd : 0 < d := h.pos
  have hc : Int.gcd n d = 1 := h.co
  obtain ⟨m, rfl⟩ := Int.eq_ofNat_of_zero_le (Int.le_of_lt hd)
  have hm : m ≠ 0 := by omega
  have e := Rat.mk_eq_divInt (num := n) (den := m) (nz := hm) (c := hc)
  show (n, (m : Int)) = ptR (Rat.divInt n (m : Int))
  rw [← e]
  rfl
theorem ptR_Low (x : Rat) : Low (ptR x) := ⟨by have := x.den_pos; show (0 : Int) < (x.den : Int); omega, x.reduced⟩
theorem lowP_rat {p q : Int} (h : 0 < q) : lowP p q = ptR (Rat.divInt p q) := by
  rw [(low_Low (p := p) h).rat]
  congr 1
  have hl := (low_Low (p := p) h).pos
  rw [Rat.divInt_eq_divInt_iff (by omega) (by omega)]
  exact low_cross h
theorem ptR_eta (x : Rat) : Rat.divInt (ptR x).1 (ptR x).2 = x := Rat.num_divInt_den x
theorem divInt_div (p : Int) (q : Int) : Rat.divInt p q = (p : Rat) / (q : Rat) := Rat.divInt_eq_div p q
theorem den_ne (x : Rat) : ((x.den : Int) : Rat) ≠ 0 := by
  have := x.den_pos
  intro h
  have h2 : ((x.den : Int) : Rat) = ((0 : Int) : Rat) := h
  rw [Rat.intCast_inj] at h2
  omega
theorem num_div (x : Rat) : (x.num : Rat) / ((x.den : Int) : Rat) = x := by
  have := Rat.num_divInt_den x
  rw [Rat.divInt_eq_div] at this
  exact this
theorem add_rat (x y : Rat) : Rat.divInt (x.num * y.den + y.num * x.den) (x.den * y.den) = x + y := by
  have hx := den_ne x
  have hy := den_ne y
  have ex := num_div x
  have ey := num_div y
  rw [Rat.divInt_eq_div, Rat.intCast_add, Rat.intCast_mul, Rat.intCast_mul, Rat.intCast_mul]
  generalize ((x.den : Int) : Rat) = a at *
  generalize ((y.den : Int) : Rat) = b at *
  generalize (x.num : Rat) = n at *
  generalize (y.num : Rat) = m at *
  subst ex ey
  grind
theorem sub_rat (x y : Rat) : Rat.divInt (x.num * y.den - y.num * x.den) (x.den * y.den) = x - y := by
  have hx := den_ne x
  have hy := den_ne y
  have ex := num_div x
  have ey := num_div y
  rw [Rat.divInt_eq_div, Rat.intCast_sub, Rat.intCast_mul, Rat.intCast_mul, Rat.intCast_mul]
  generalize ((x.den : Int) : Rat) = a at *
  generalize ((y.den : Int) : Rat) = b at *
  generalize (x.num : Rat) = n at *
  generalize (y.num : Rat) = m at *
  subst ex ey
  grind
theorem mul_rat (x y : Rat) : Rat.divInt (x.num * y.num) (x.den * y.den) = x * y := by
  have hx := den_ne x
  have hy := den_ne y
  have ex := num_div x
  have ey := num_div y
  rw [Rat.divInt_eq_div, Rat.intCast_mul, Rat.intCast_mul]
  generalize ((x.den : Int) : Rat) = a at *
  generalize ((y.den : Int) : Rat) = b at *
  generalize (x.num : Rat) = n at *
  generalize (y.num : Rat) = m at *
  subst ex ey
  grind
theorem num_ne {y : Rat} (h : y ≠ 0) : (y.num : Rat) ≠ 0 := by
  intro e
  have e2 : (y.num : Rat) = ((0 : Int) : Rat) := e
  rw [Rat.intCast_inj] at e2
  exact h (Rat.num_eq_zero.mp e2)
theorem div_rat (x y : Rat) (h : y ≠ 0) : Rat.divInt (x.num * y.den) (x.den * y.num) = x / y := by
  have hx := den_ne x
  have hy := den_ne y
  have ex := num_div x
  have ey := num_div y
  have hn := num_ne h
  rw [Rat.divInt_eq_div, Rat.intCast_mul, Rat.intCast_mul]
  generalize ((x.den : Int) : Rat) = a at *
  generalize ((y.den : Int) : Rat) = b at *
  generalize (x.num : Rat) = n at *
  generalize (y.num : Rat) = m at *
  subst ex ey
  grind
theorem lt_rat (x y : Rat) : ltP (ptR x) (ptR y) = decide (x < y) := by
  unfold ltP ptR
  rw [decide_eq_decide]
  exact (Rat.lt_iff x y).symm
theorem pR_inj {x y : Rat} (h : ptR x = ptR y) : x = y := by
  rw [← ptR_eta x, ← ptR_eta y, h]
/-! sizes -/
def Bz (n : Nat) (x : Rat) : Prop := x.num.natAbs < 2 ^ n ∧ x.den < 2 ^ n
theorem Bz.mono {m n : Nat} {x : Rat} (h : Bz m x) (k : m ≤ n) : Bz n x := ⟨Nat.lt_of_lt_of_le h.1 (Nat.pow_le_pow_right (by decide) k), Nat.lt_of_lt_of_le h.2 (Nat.pow_le_pow_right (by decide) k)⟩
theorem Bz.sm {n : Nat} {x : Rat} (h : Bz n x) (h0 : 0 < n) (k : n ≤ 60000000) : SmP (ptR x) := ⟨Smi.of (a := n) h.1 h0 k, Smi.of (a := n) (by show (x.den : Int).natAbs < _; simpa using h.2) h0 k⟩
theorem mul_lt {a b m n : Nat} (ha : a < 2 ^ m) (hb : b < 2 ^ n) : a * b < 2 ^ (m + n) := by
  rw [Nat.pow_add]
  exact Nat.mul_lt_mul'' ha hb
theorem Bz.divInt {n : Nat} {p q : Int} (hq : 0 < q) (h1 : p.natAbs < 2 ^ n) (h2 : q.natAbs < 2 ^ n) : Bz n (Rat.divInt p q) := by
  have e := lowP_rat (p := p) hq
  have l := low_le (p := p) hq
  rw [e] at l
  exact ⟨Nat.lt_of_le_of_lt l.1 h1, Nat.lt_of_le_of_lt (by simpa [ptR] using l.2) h2⟩
theorem den_posI (x : Rat) : (0 : Int) < (x.den : Int) := by have := x.den_pos; omega
theorem Bz.add {m n : Nat} {x y : Rat} (hx : Bz m x) (hy : Bz n y) : Bz (m + n + 1) (x + y) := by
  rw [← add_rat]
  refine Bz.divInt (Int.mul_pos (den_posI x) (den_posI y)) ?_ ?_
  · have a := mul_lt hx.1 hy.2
    have b := mul_lt hx.2 hy.1
    have c := Int.natAbs_add_le (x.num * y.den) (y.num * x.den)
    rw [Int.natAbs_mul, Int.natAbs_mul] at c
    simp only [Int.natAbs_natCast] at c
    rw [Nat.mul_comm y.num.natAbs] at c
    rw [Nat.pow_succ]
    omega
  · have a := mul_lt hx.2 hy.2
    rw [Int.natAbs_mul]
    simp only [Int.natAbs_natCast]
    rw [Nat.pow_succ]
    omega
theorem Bz.neg {m : Nat} {x : Rat} (hx : Bz m x) : Bz m (-x) := ⟨by rw [Rat.neg_num, Int.natAbs_neg]; exact hx.1, by rw [Rat.neg_den]; exact hx.2⟩
theorem Bz.sub {m n : Nat} {x y : Rat} (hx : Bz m x) (hy : Bz n y) : Bz (m + n + 1) (x - y) := by
  rw [Rat.sub_eq_add_neg]
  exact hx.add hy.neg
theorem Bz.mul {m n : Nat} {x y : Rat} (hx : Bz m x) (hy : Bz n y) : Bz (m + n) (x * y) := by
  rw [← mul_rat]
  refine Bz.divInt (Int.mul_pos (den_posI x) (den_posI y)) ?_ ?_
  · rw [Int.natAbs_mul]; exact mul_lt hx.1 hy.1
  · rw [Int.natAbs_mul]; simp only [Int.natAbs_natCast]; exact mul_lt hx.2 hy.2
theorem Bz.inv {m : Nat} {x : Rat} (hx : Bz m x) : Bz m x⁻¹ := by
  refine ⟨?_, ?_⟩
  · rw [Rat.num_inv, Int.natAbs_mul]
    simp only [Int.natAbs_natCast]
    have : x.num.sign.natAbs ≤ 1 := by
      rcases Int.lt_trichotomy x.num 0 with h | h | h
      · rw [Int.sign_eq_neg_one_of_neg h]; decide
      · rw [h]; decide
      · rw [Int.sign_eq_one_of_pos h]; decide
    exact Nat.lt_of_le_of_lt (Nat.le_trans (Nat.mul_le_mul_right _ this) (by omega)) hx.2
  · rw [Rat.den_inv]
    split
    · have := hx.2; have := x.den_pos; omega
    · exact hx.1
theorem Bz.div {m n : Nat} {x y : Rat} (hx : Bz m x) (hy : Bz n y) : Bz (m + n) (x / y) := by
  rw [Rat.div_def]
  exact hx.mul hy.inv
theorem Bz.den {m n : Nat} {x y : Rat} (hx : Bz m x) (hy : Bz n y) (h : m + n ≤ 9000) (h0 : 0 < m) : (((x.den : Int) * (y.den : Int))).natAbs.log2 < 9000 := by
  rw [Int.natAbs_mul]
  simp only [Int.natAbs_natCast]
  have := mul_lt hx.2 hy.2
  exact Nat.lt_of_lt_of_le ((Nat.log2_lt (by have := x.den_pos; have := y.den_pos; exact Nat.ne_of_gt (Nat.mul_pos this ‹0 < x.den›) |> fun z => by rw [Nat.mul_comm]; exact z)).mpr this) h
/-! ### the program's parts -/
def t_common : DS :=
  (dSeq (dWhile (dTest (dOp dGt (dVar 1) (dC (.int 0)))) (dPar 0 1 (dCons (dVar 1) (dCons (dOp dMod (dVar 0) (dVar 1)) dNil))))
  (dRet (dVar 0)))
def n_common : List Str := ["one", "other"]
def sp_common : DSp := fun xs O R _ => ∃ p q : Int, xs = [.int p, .int q] ∧ 0 ≤ p ∧ 0 ≤ q ∧ R (.int (Int.gcd p q)) O
theorem d_common : ∀ xs O R Z, sp_common xs O R Z → t_common (ends R) (startD n_common xs) O := by
  rintro _ O R Z ⟨p, q, rfl, hp, hq, h⟩
  show dWhile _ _ _ _ _
  refine while_by (fun m g O' => O' = O ∧ ∃ a b : Int, g = [some (.int a), some (.int b)] ∧ 0 ≤ a ∧ 0 ≤ b ∧ Int.gcd a b = Int.gcd p q ∧ m = b.toNat) q.toNat ⟨rfl, _, _, rfl, hp, hq, rfl, rfl⟩ ?_
  · rintro m g _ ⟨rfl, a, b, rfl, ha, hb, hg, rfl⟩
    show (if decide (b > 0) = true then _ else _)
    by_cases hb0 : b > 0
    · rw [if_pos (by simpa using hb0)]
      refine ⟨hb0, (a % b).toNat, ?_, rfl, b, a % b, rfl, by omega, Int.emod_nonneg _ (by omega), ?_, rfl⟩
      · have := Int.emod_lt_of_pos a hb0
        have := Int.emod_nonneg a (show b ≠ 0 by omega)
        omega
      · rw [← hg]
        exact (gcd_step ha hb0).symm
    · rw [if_neg (by simpa using hb0)]
      have hb' : b = 0 := by omega
      subst hb'
      refine Fin.here ?_
      show R (.int a) _
      have : (Int.gcd p q : Int) = a := by rw [← hg, Int.gcd_zero_right]; omega
      rw [← this]; exact h
def t_part : DS :=
  (dSeq (dIfS (dTest (dOp dLt (dVar 1) (dC (.int 1)))) dNever dNext)
  (dSeq (dSet 2 (dCall sp_common [.p 0, .p 1] [] (dCons (dCB dAbs (dCons (dVar 0) dNil)) (dCons (dVar 1) dNil)) dNil))
  (dRet (dTup (dCons (dOp dFd (dVar 0) (dVar 2)) (dCons (dOp dFd (dVar 1) (dVar 2)) dNil))))))
def n_part : List Str := ["number", "under", "by"]
def sp_part : DSp := fun xs O R _ => ∃ p q : Int, xs = [.int p, .int q] ∧ 0 < q ∧ q.natAbs.log2 < 9000 ∧ R (pR (Rat.divInt p q)) O
theorem gcd_abs (p q : Int) : Int.gcd (if p < 0 then -p else p) q = Int.gcd p q := by split <;> simp
theorem d_part : ∀ xs O R Z, sp_part xs O R Z → t_part (ends R) (startD n_part xs) O := by
  rintro _ O R Z ⟨p, q, rfl, hq, hq2, h⟩
  show t_part (ends R) [some (.int p), some (.int q), none] O
  have hn : ¬ q < 1 := by omega
  simp only [dIfS, dAndT, dOrT, dNotT, dTest, dTruth, dTru, dAndV, dOrV, dNotV, dIf, dOp, dUn, dVar, dC, dI, dIc, dAdd, dSub, dMul, dFd, dMod, dPow, dNeg, dLt, dLe, dGt, dGe, dEq, dNe, dIsN, dNotN, DL.isNon, dIx, dSl, dPart, dNoPart, dCB, dLen, dAbs, dList, dTuple, dBls, dSum, dIsi, dIsi2, dtOf, isC, seqOf, lstOf, dCons, dNil, dTup, dLst, dRet, dRetN, dNext, dDrop, dAsg, gN, gsNil, gsCons, gT, gSubD, dSetL, dPar, dAug, dIpAdd, dIpSub, dCall, pick_nil, pick_p, pick_k, pick_d, dBreak, dCont, dLM, dLM0, isL, dAppend, dInsert, dPop, dPopAt, dRevL, dStr, dFmt, dJs, dMax2, dMin2, dSorted, dNewK, dctOf, dGetK, dHasK, DL.keyOf, dPutK, dDelK, dSortedD, dSet, dLstF, dRevF, dSlF, dListF, dSortedF, dSortedDF, dMaxF, dMinF, dInS, dLtA, dNewT, dGetT, dHasT, dctT, tkOf, keysOf, dTupP, dPutT, dPutP, putTk, pkOf, dSortedTF, dGet1, dGet2, dGet2T, dDisp1, dRep, dInt, dBits, dExtend, dReverse, dMaxDf, dCat, dCatF, dExtL, dDcT, Option.isSome_some, List.getElem?_cons_zero, List.getElem?_cons_succ, List.set_cons_zero, List.set_cons_succ, atI_0, atI_1, atI_2, atI_3, atI_4, atI_5, ixN_0, ixN_1, ixN_2, ixN_3, ixN_4, ixN_5, up_same, List.length_cons, List.length_nil, Bool.not_true, Bool.not_false, Bool.false_eq_true, if_true, if_false, reduceIte, dSeq, t_part, hn, decide_false]
  have g1 := gcd_pos (p := p) hq
  have g2 : ((Int.gcd p q : Nat) : Int).natAbs.log2 < 9000 := Nat.lt_of_le_of_lt (log2_mono (by have := gcd_le (p := p) hq; omega)) hq2
  refine ⟨_, q, rfl, by split <;> omega, by omega, ?_⟩
  rw [gcd_abs]
  simp only [dIfS, dAndT, dOrT, dNotT, dTest, dTruth, dTru, dAndV, dOrV, dNotV, dIf, dOp, dUn, dVar, dC, dI, dIc, dAdd, dSub, dMul, dFd, dMod, dPow, dNeg, dLt, dLe, dGt, dGe, dEq, dNe, dIsN, dNotN, DL.isNon, dIx, dSl, dPart, dNoPart, dCB, dLen, dAbs, dList, dTuple, dBls, dSum, dIsi, dIsi2, dtOf, isC, seqOf, lstOf, dCons, dNil, dTup, dLst, dRet, dRetN, dNext, dDrop, dAsg, gN, gsNil, gsCons, gT, gSubD, dSetL, dPar, dAug, dIpAdd, dIpSub, dCall, pick_nil, pick_p, pick_k, pick_d, dBreak, dCont, dLM, dLM0, isL, dAppend, dInsert, dPop, dPopAt, dRevL, dStr, dFmt, dJs, dMax2, dMin2, dSorted, dNewK, dctOf, dGetK, dHasK, DL.keyOf, dPutK, dDelK, dSortedD, dSet, dLstF, dRevF, dSlF, dListF, dSortedF, dSortedDF, dMaxF, dMinF, dInS, dLtA, dNewT, dGetT, dHasT, dctT, tkOf, keysOf, dTupP, dPutT, dPutP, putTk, pkOf, dSortedTF, dGet1, dGet2, dGet2T, dDisp1, dRep, dInt, dBits, dExtend, dReverse, dMaxDf, dCat, dCatF, dExtL, dDcT, Option.isSome_some, List.getElem?_cons_zero, List.getElem?_cons_succ, List.set_cons_zero, List.set_cons_succ, atI_0, atI_1, atI_2, atI_3, atI_4, atI_5, ixN_0, ixN_1, ixN_2, ixN_3, ixN_4, ixN_5, up_same, List.length_cons, List.length_nil, Bool.not_true, Bool.not_false, Bool.false_eq_true, if_true, if_false, reduceIte, dSeq]
  refine ⟨Dok.of g1 g2, Dok.of g1 g2, Fin.here ?_⟩
  have e := lowP_rat (p := p) hq
  unfold pR at h
  rw [← e] at h
  exact h
/-- two parts, whose unders together are not too great -/
def Two (x y : Rat) : Prop := SmP (ptR x) ∧ SmP (ptR y) ∧ ((x.den : Int) * (y.den : Int)).natAbs.log2 < 9000
theorem Two.of {m n : Nat} {x y : Rat} (hx : Bz m x) (hy : Bz n y) (h : m + n ≤ 9000 := by omega) (h0 : 0 < m := by omega) (h1 : 0 < n := by omega) : Two x y := ⟨hx.sm h0 (by omega), hy.sm h1 (by omega), Bz.den hx hy h h0⟩
theorem den2 (x y : Rat) : (0 : Int) < (x.den : Int) * (y.den : Int) := Int.mul_pos (den_posI x) (den_posI y)
def t_plus : DS :=
  (dRet (dCall sp_part [.p 0, .p 1] [.int 1] (dCons (dOp dAdd (dOp dMul (dOp dIx (dVar 0) (dC (.int 0))) (dOp dIx (dVar 1) (dC (.int 1)))) (dOp dMul (dOp dIx (dVar 1) (dC (.int 0))) (dOp dIx (dVar 0) (dC (.int 1))))) (dCons (dOp dMul (dOp dIx (dVar 0) (dC (.int 1))) (dOp dIx (dVar 1) (dC (.int 1)))) dNil)) dNil))
def n_plus : List Str := ["one", "other"]
def sp_plus : DSp := fun xs O R _ => ∃ x y : Rat, xs = [pR x, pR y] ∧ Two x y ∧ R (pR (x + y)) O
theorem d_plus : ∀ xs O R Z, sp_plus xs O R Z → t_plus (ends R) (startD n_plus xs) O := by
  rintro _ O R Z ⟨x, y, rfl, ⟨hx, hy, hd⟩, h⟩
  show t_plus (ends R) [some (pR x), some (pR y)] O
  simp only [dIfS, dAndT, dOrT, dNotT, dTest, dTruth, dTru, dAndV, dOrV, dNotV, dIf, dOp, dUn, dVar, dC, dI, dIc, dAdd, dSub, dMul, dFd, dMod, dPow, dNeg, dLt, dLe, dGt, dGe, dEq, dNe, dIsN, dNotN, DL.isNon, dIx, dSl, dPart, dNoPart, dCB, dLen, dAbs, dList, dTuple, dBls, dSum, dIsi, dIsi2, dtOf, isC, seqOf, lstOf, dCons, dNil, dTup, dLst, dRet, dRetN, dNext, dDrop, dAsg, gN, gsNil, gsCons, gT, gSubD, dSetL, dPar, dAug, dIpAdd, dIpSub, dCall, pick_nil, pick_p, pick_k, pick_d, dBreak, dCont, dLM, dLM0, isL, dAppend, dInsert, dPop, dPopAt, dRevL, dStr, dFmt, dJs, dMax2, dMin2, dSorted, dNewK, dctOf, dGetK, dHasK, DL.keyOf, dPutK, dDelK, dSortedD, dSet, dLstF, dRevF, dSlF, dListF, dSortedF, dSortedDF, dMaxF, dMinF, dInS, dLtA, dNewT, dGetT, dHasT, dctT, tkOf, keysOf, dTupP, dPutT, dPutP, putTk, pkOf, dSortedTF, dGet1, dGet2, dGet2T, dDisp1, dRep, dInt, dBits, dExtend, dReverse, dMaxDf, dCat, dCatF, dExtL, dDcT, Option.isSome_some, List.getElem?_cons_zero, List.getElem?_cons_succ, List.set_cons_zero, List.set_cons_succ, atI_0, atI_1, atI_2, atI_3, atI_4, atI_5, ixN_0, ixN_1, ixN_2, ixN_3, ixN_4, ixN_5, up_same, List.length_cons, List.length_nil, Bool.not_true, Bool.not_false, Bool.false_eq_true, if_true, if_false, reduceIte, dSeq, t_plus, pR, pD, ptR]
  exact ⟨hx.1.mok hy.2, hy.1.mok hx.2, hx.2.mok hy.2, _, _, rfl, den2 x y, hd, Fin.here (by rw [add_rat]; exact h)⟩
def t_less : DS :=
  (dRet (dCall sp_part [.p 0, .p 1] [.int 1] (dCons (dOp dSub (dOp dMul (dOp dIx (dVar 0) (dC (.int 0))) (dOp dIx (dVar 1) (dC (.int 1)))) (dOp dMul (dOp dIx (dVar 1) (dC (.int 0))) (dOp dIx (dVar 0) (dC (.int 1))))) (dCons (dOp dMul (dOp dIx (dVar 0) (dC (.int 1))) (dOp dIx (dVar 1) (dC (.int 1)))) dNil)) dNil))
def n_less : List Str := ["one", "other"]
def sp_less : DSp := fun xs O R _ => ∃ x y : Rat, xs = [pR x, pR y] ∧ Two x y ∧ R (pR (x - y)) O
theorem d_less : ∀ xs O R Z, sp_less xs O R Z → t_less (ends R) (startD n_less xs) O := by
  rintro _ O R Z ⟨x, y, rfl, ⟨hx, hy, hd⟩, h⟩
  show t_less (ends R) [some (pR x), some (pR y)] O
  simp only [dIfS, dAndT, dOrT, dNotT, dTest, dTruth, dTru, dAndV, dOrV, dNotV, dIf, dOp, dUn, dVar, dC, dI, dIc, dAdd, dSub, dMul, dFd, dMod, dPow, dNeg, dLt, dLe, dGt, dGe, dEq, dNe, dIsN, dNotN, DL.isNon, dIx, dSl, dPart, dNoPart, dCB, dLen, dAbs, dList, dTuple, dBls, dSum, dIsi, dIsi2, dtOf, isC, seqOf, lstOf, dCons, dNil, dTup, dLst, dRet, dRetN, dNext, dDrop, dAsg, gN, gsNil, gsCons, gT, gSubD, dSetL, dPar, dAug, dIpAdd, dIpSub, dCall, pick_nil, pick_p, pick_k, pick_d, dBreak, dCont, dLM, dLM0, isL, dAppend, dInsert, dPop, dPopAt, dRevL, dStr, dFmt, dJs, dMax2, dMin2, dSorted, dNewK, dctOf, dGetK, dHasK, DL.keyOf, dPutK, dDelK, dSortedD, dSet, dLstF, dRevF, dSlF, dListF, dSortedF, dSortedDF, dMaxF, dMinF, dInS, dLtA, dNewT, dGetT, dHasT, dctT, tkOf, keysOf, dTupP, dPutT, dPutP, putTk, pkOf, dSortedTF, dGet1, dGet2, dGet2T, dDisp1, dRep, dInt, dBits, dExtend, dReverse, dMaxDf, dCat, dCatF, dExtL, dDcT, Option.isSome_some, List.getElem?_cons_zero, List.getElem?_cons_succ, List.set_cons_zero, List.set_cons_succ, atI_0, atI_1, atI_2, atI_3, atI_4, atI_5, ixN_0, ixN_1, ixN_2, ixN_3, ixN_4, ixN_5, up_same, List.length_cons, List.length_nil, Bool.not_true, Bool.not_false, Bool.false_eq_true, if_true, if_false, reduceIte, dSeq, t_less, pR, pD, ptR]
  exact ⟨hx.1.mok hy.2, hy.1.mok hx.2, hx.2.mok hy.2, _, _, rfl, den2 x y, hd, Fin.here (by rw [sub_rat]; exact h)⟩
def t_times : DS :=
  (dRet (dCall sp_part [.p 0, .p 1] [.int 1] (dCons (dOp dMul (dOp dIx (dVar 0) (dC (.int 0))) (dOp dIx (dVar 1) (dC (.int 0)))) (dCons (dOp dMul (dOp dIx (dVar 0) (dC (.int 1))) (dOp dIx (dVar 1) (dC (.int 1)))) dNil)) dNil))
def n_times : List Str := ["one", "other"]
def sp_times : DSp := fun xs O R _ => ∃ x y : Rat, xs = [pR x, pR y] ∧ Two x y ∧ R (pR (x * y)) O
theorem d_times : ∀ xs O R Z, sp_times xs O R Z → t_times (ends R) (startD n_times xs) O := by
  rintro _ O R Z ⟨x, y, rfl, ⟨hx, hy, hd⟩, h⟩
  show t_times (ends R) [some (pR x), some (pR y)] O
  simp only [dIfS, dAndT, dOrT, dNotT, dTest, dTruth, dTru, dAndV, dOrV, dNotV, dIf, dOp, dUn, dVar, dC, dI, dIc, dAdd, dSub, dMul, dFd, dMod, dPow, dNeg, dLt, dLe, dGt, dGe, dEq, dNe, dIsN, dNotN, DL.isNon, dIx, dSl, dPart, dNoPart, dCB, dLen, dAbs, dList, dTuple, dBls, dSum, dIsi, dIsi2, dtOf, isC, seqOf, lstOf, dCons, dNil, dTup, dLst, dRet, dRetN, dNext, dDrop, dAsg, gN, gsNil, gsCons, gT, gSubD, dSetL, dPar, dAug, dIpAdd, dIpSub, dCall, pick_nil, pick_p, pick_k, pick_d, dBreak, dCont, dLM, dLM0, isL, dAppend, dInsert, dPop, dPopAt, dRevL, dStr, dFmt, dJs, dMax2, dMin2, dSorted, dNewK, dctOf, dGetK, dHasK, DL.keyOf, dPutK, dDelK, dSortedD, dSet, dLstF, dRevF, dSlF, dListF, dSortedF, dSortedDF, dMaxF, dMinF, dInS, dLtA, dNewT, dGetT, dHasT, dctT, tkOf, keysOf, dTupP, dPutT, dPutP, putTk, pkOf, dSortedTF, dGet1, dGet2, dGet2T, dDisp1, dRep, dInt, dBits, dExtend, dReverse, dMaxDf, dCat, dCatF, dExtL, dDcT, Option.isSome_some, List.getElem?_cons_zero, List.getElem?_cons_succ, List.set_cons_zero, List.set_cons_succ, atI_0, atI_1, atI_2, atI_3, atI_4, atI_5, ixN_0, ixN_1, ixN_2, ixN_3, ixN_4, ixN_5, up_same, List.length_cons, List.length_nil, Bool.not_true, Bool.not_false, Bool.false_eq_true, if_true, if_false, reduceIte, dSeq, t_times, pR, pD, ptR]
  exact ⟨hx.1.mok hy.1, hx.2.mok hy.2, _, _, rfl, den2 x y, hd, Fin.here (by rw [mul_rat]; exact h)⟩
def t_over : DS :=
  (dSeq (dIfS (dTest (dOp dEq (dOp dIx (dVar 1) (dC (.int 0))) (dC (.int 0)))) dNever dNext)
  (dSeq (dPar 2 3 (dCons (dOp dMul (dOp dIx (dVar 0) (dC (.int 0))) (dOp dIx (dVar 1) (dC (.int 1)))) (dCons (dOp dMul (dOp dIx (dVar 0) (dC (.int 1))) (dOp dIx (dVar 1) (dC (.int 0)))) dNil)))
  (dSeq (dIfS (dTest (dOp dLt (dVar 3) (dC (.int 0)))) (dPar 2 3 (dCons (dOp dSub (dC (.int 0)) (dVar 2)) (dCons (dOp dSub (dC (.int 0)) (dVar 3)) dNil))) dNext)
  (dRet (dCall sp_part [.p 0, .p 1] [.int 1] (dCons (dVar 2) (dCons (dVar 3) dNil)) dNil)))))
def n_over : List Str := ["one", "other", "number", "under"]
def sp_over : DSp := fun xs O R _ => ∃ x y : Rat, xs = [pR x, pR y] ∧ y ≠ 0 ∧ SmP (ptR x) ∧ SmP (ptR y) ∧ ((x.den : Int) * y.num).natAbs.log2 < 9000 ∧ R (pR (x / y)) O
theorem d_over : ∀ xs O R Z, sp_over xs O R Z → t_over (ends R) (startD n_over xs) O := by
  rintro _ O R Z ⟨x, y, rfl, hne, hx, hy, hd, h⟩
  show t_over (ends R) [some (pR x), some (pR y), none, none] O
  have hn : ¬ y.num = 0 := fun z => hne (Rat.num_eq_zero.mp z)
  simp only [dIfS, dAndT, dOrT, dNotT, dTest, dTruth, dTru, dAndV, dOrV, dNotV, dIf, dOp, dUn, dVar, dC, dI, dIc, dAdd, dSub, dMul, dFd, dMod, dPow, dNeg, dLt, dLe, dGt, dGe, dEq, dNe, dIsN, dNotN, DL.isNon, dIx, dSl, dPart, dNoPart, dCB, dLen, dAbs, dList, dTuple, dBls, dSum, dIsi, dIsi2, dtOf, isC, seqOf, lstOf, dCons, dNil, dTup, dLst, dRet, dRetN, dNext, dDrop, dAsg, gN, gsNil, gsCons, gT, gSubD, dSetL, dPar, dAug, dIpAdd, dIpSub, dCall, pick_nil, pick_p, pick_k, pick_d, dBreak, dCont, dLM, dLM0, isL, dAppend, dInsert, dPop, dPopAt, dRevL, dStr, dFmt, dJs, dMax2, dMin2, dSorted, dNewK, dctOf, dGetK, dHasK, DL.keyOf, dPutK, dDelK, dSortedD, dSet, dLstF, dRevF, dSlF, dListF, dSortedF, dSortedDF, dMaxF, dMinF, dInS, dLtA, dNewT, dGetT, dHasT, dctT, tkOf, keysOf, dTupP, dPutT, dPutP, putTk, pkOf, dSortedTF, dGet1, dGet2, dGet2T, dDisp1, dRep, dInt, dBits, dExtend, dReverse, dMaxDf, dCat, dCatF, dExtL, dDcT, Option.isSome_some, List.getElem?_cons_zero, List.getElem?_cons_succ, List.set_cons_zero, List.set_cons_succ, atI_0, atI_1, atI_2, atI_3, atI_4, atI_5, ixN_0, ixN_1, ixN_2, ixN_3, ixN_4, ixN_5, up_same, List.length_cons, List.length_nil, Bool.not_true, Bool.not_false, Bool.false_eq_true, if_true, if_false, reduceIte, dSeq, t_over, pR, pD, ptR, hn, decide_false]
  refine ⟨hx.1.mok hy.2, hx.2.mok hy.1, ?_⟩
  by_cases hu : (x.den : Int) * y.num < 0
  · simp only [dIfS, dAndT, dOrT, dNotT, dTest, dTruth, dTru, dAndV, dOrV, dNotV, dIf, dOp, dUn, dVar, dC, dI, dIc, dAdd, dSub, dMul, dFd, dMod, dPow, dNeg, dLt, dLe, dGt, dGe, dEq, dNe, dIsN, dNotN, DL.isNon, dIx, dSl, dPart, dNoPart, dCB, dLen, dAbs, dList, dTuple, dBls, dSum, dIsi, dIsi2, dtOf, isC, seqOf, lstOf, dCons, dNil, dTup, dLst, dRet, dRetN, dNext, dDrop, dAsg, gN, gsNil, gsCons, gT, gSubD, dSetL, dPar, dAug, dIpAdd, dIpSub, dCall, pick_nil, pick_p, pick_k, pick_d, dBreak, dCont, dLM, dLM0, isL, dAppend, dInsert, dPop, dPopAt, dRevL, dStr, dFmt, dJs, dMax2, dMin2, dSorted, dNewK, dctOf, dGetK, dHasK, DL.keyOf, dPutK, dDelK, dSortedD, dSet, dLstF, dRevF, dSlF, dListF, dSortedF, dSortedDF, dMaxF, dMinF, dInS, dLtA, dNewT, dGetT, dHasT, dctT, tkOf, keysOf, dTupP, dPutT, dPutP, putTk, pkOf, dSortedTF, dGet1, dGet2, dGet2T, dDisp1, dRep, dInt, dBits, dExtend, dReverse, dMaxDf, dCat, dCatF, dExtL, dDcT, Option.isSome_some, List.getElem?_cons_zero, List.getElem?_cons_succ, List.set_cons_zero, List.set_cons_succ, atI_0, atI_1, atI_2, atI_3, atI_4, atI_5, ixN_0, ixN_1, ixN_2, ixN_3, ixN_4, ixN_5, up_same, List.length_cons, List.length_nil, Bool.not_true, Bool.not_false, Bool.false_eq_true, if_true, if_false, reduceIte, dSeq, hu, decide_true, if_pos]
    refine ⟨_, _, rfl, by omega, by rw [Int.zero_sub, Int.natAbs_neg]; exact hd, Fin.here ?_⟩
    rw [Int.zero_sub, Int.zero_sub, Rat.neg_divInt_neg, div_rat x y hne]
    exact h
  · have hp : 0 < (x.den : Int) * y.num := by
      have h0 : (x.den : Int) * y.num ≠ 0 := Int.mul_ne_zero (by have := den_posI x; omega) hn
      omega
    simp only [dIfS, dAndT, dOrT, dNotT, dTest, dTruth, dTru, dAndV, dOrV, dNotV, dIf, dOp, dUn, dVar, dC, dI, dIc, dAdd, dSub, dMul, dFd, dMod, dPow, dNeg, dLt, dLe, dGt, dGe, dEq, dNe, dIsN, dNotN, DL.isNon, dIx, dSl, dPart, dNoPart, dCB, dLen, dAbs, dList, dTuple, dBls, dSum, dIsi, dIsi2, dtOf, isC, seqOf, lstOf, dCons, dNil, dTup, dLst, dRet, dRetN, dNext, dDrop, dAsg, gN, gsNil, gsCons, gT, gSubD, dSetL, dPar, dAug, dIpAdd, dIpSub, dCall, pick_nil, pick_p, pick_k, pick_d, dBreak, dCont, dLM, dLM0, isL, dAppend, dInsert, dPop, dPopAt, dRevL, dStr, dFmt, dJs, dMax2, dMin2, dSorted, dNewK, dctOf, dGetK, dHasK, DL.keyOf, dPutK, dDelK, dSortedD, dSet, dLstF, dRevF, dSlF, dListF, dSortedF, dSortedDF, dMaxF, dMinF, dInS, dLtA, dNewT, dGetT, dHasT, dctT, tkOf, keysOf, dTupP, dPutT, dPutP, putTk, pkOf, dSortedTF, dGet1, dGet2, dGet2T, dDisp1, dRep, dInt, dBits, dExtend, dReverse, dMaxDf, dCat, dCatF, dExtL, dDcT, Option.isSome_some, List.getElem?_cons_zero, List.getElem?_cons_succ, List.set_cons_zero, List.set_cons_succ, atI_0, atI_1, atI_2, atI_3, atI_4, atI_5, ixN_0, ixN_1, ixN_2, ixN_3, ixN_4, ixN_5, up_same, List.length_cons, List.length_nil, Bool.not_true, Bool.not_false, Bool.false_eq_true, if_true, if_false, reduceIte, dSeq, hu, decide_false, if_neg]
    refine ⟨_, _, rfl, hp, hd, Fin.here ?_⟩
    rw [div_rat x y hne]
    exact h
theorem below_of {x y : Rat} {O : Om} {R : D → Om → Prop} {Z : XD} (hx : SmP (ptR x)) (hy : SmP (ptR y)) (h : R (.bl (decide (x < y))) O) : sp_below [pR x, pR y] O R Z :=
  ⟨ptR x, ptR y, rfl, hx, hy, by rw [lt_rat]; exact h⟩
def t_floor_of : DS :=
  (dRet (dOp dFd (dOp dIx (dVar 0) (dC (.int 0))) (dOp dIx (dVar 0) (dC (.int 1)))))
def n_floor_of : List Str := ["one"]
def sp_floor_of : DSp := fun xs O R _ => ∃ x : Rat, xs = [pR x] ∧ (x.den : Int).natAbs.log2 < 9000 ∧ R (.int (x.num / x.den)) O
theorem d_floor_of : ∀ xs O R Z, sp_floor_of xs O R Z → t_floor_of (ends R) (startD n_floor_of xs) O := by
  rintro _ O R Z ⟨x, rfl, hx, h⟩
  show t_floor_of (ends R) [some (pR x)] O
  simp only [dIfS, dAndT, dOrT, dNotT, dTest, dTruth, dTru, dAndV, dOrV, dNotV, dIf, dOp, dUn, dVar, dC, dI, dIc, dAdd, dSub, dMul, dFd, dMod, dPow, dNeg, dLt, dLe, dGt, dGe, dEq, dNe, dIsN, dNotN, DL.isNon, dIx, dSl, dPart, dNoPart, dCB, dLen, dAbs, dList, dTuple, dBls, dSum, dIsi, dIsi2, dtOf, isC, seqOf, lstOf, dCons, dNil, dTup, dLst, dRet, dRetN, dNext, dDrop, dAsg, gN, gsNil, gsCons, gT, gSubD, dSetL, dPar, dAug, dIpAdd, dIpSub, dCall, pick_nil, pick_p, pick_k, pick_d, dBreak, dCont, dLM, dLM0, isL, dAppend, dInsert, dPop, dPopAt, dRevL, dStr, dFmt, dJs, dMax2, dMin2, dSorted, dNewK, dctOf, dGetK, dHasK, DL.keyOf, dPutK, dDelK, dSortedD, dSet, dLstF, dRevF, dSlF, dListF, dSortedF, dSortedDF, dMaxF, dMinF, dInS, dLtA, dNewT, dGetT, dHasT, dctT, tkOf, keysOf, dTupP, dPutT, dPutP, putTk, pkOf, dSortedTF, dGet1, dGet2, dGet2T, dDisp1, dRep, dInt, dBits, dExtend, dReverse, dMaxDf, dCat, dCatF, dExtL, dDcT, Option.isSome_some, List.getElem?_cons_zero, List.getElem?_cons_succ, List.set_cons_zero, List.set_cons_succ, atI_0, atI_1, atI_2, atI_3, atI_4, atI_5, ixN_0, ixN_1, ixN_2, ixN_3, ixN_4, ixN_5, up_same, List.length_cons, List.length_nil, Bool.not_true, Bool.not_false, Bool.false_eq_true, if_true, if_false, reduceIte, dSeq, t_floor_of, pR, pD, ptR]
  exact ⟨Dok.of (den_posI x) hx, Fin.here h⟩
def t_ceiling_of : DS :=
  (dRet (dOp dSub (dC (.int 0)) (dOp dFd (dOp dSub (dC (.int 0)) (dOp dIx (dVar 0) (dC (.int 0)))) (dOp dIx (dVar 0) (dC (.int 1))))))
def n_ceiling_of : List Str := ["one"]
def sp_ceiling_of : DSp := fun xs O R _ => ∃ x : Rat, xs = [pR x] ∧ (x.den : Int).natAbs.log2 < 9000 ∧ R (.int (0 - (0 - x.num) / x.den)) O
theorem d_ceiling_of : ∀ xs O R Z, sp_ceiling_of xs O R Z → t_ceiling_of (ends R) (startD n_ceiling_of xs) O := by
  rintro _ O R Z ⟨x, rfl, hx, h⟩
  show t_ceiling_of (ends R) [some (pR x)] O
  simp only [dIfS, dAndT, dOrT, dNotT, dTest, dTruth, dTru, dAndV, dOrV, dNotV, dIf, dOp, dUn, dVar, dC, dI, dIc, dAdd, dSub, dMul, dFd, dMod, dPow, dNeg, dLt, dLe, dGt, dGe, dEq, dNe, dIsN, dNotN, DL.isNon, dIx, dSl, dPart, dNoPart, dCB, dLen, dAbs, dList, dTuple, dBls, dSum, dIsi, dIsi2, dtOf, isC, seqOf, lstOf, dCons, dNil, dTup, dLst, dRet, dRetN, dNext, dDrop, dAsg, gN, gsNil, gsCons, gT, gSubD, dSetL, dPar, dAug, dIpAdd, dIpSub, dCall, pick_nil, pick_p, pick_k, pick_d, dBreak, dCont, dLM, dLM0, isL, dAppend, dInsert, dPop, dPopAt, dRevL, dStr, dFmt, dJs, dMax2, dMin2, dSorted, dNewK, dctOf, dGetK, dHasK, DL.keyOf, dPutK, dDelK, dSortedD, dSet, dLstF, dRevF, dSlF, dListF, dSortedF, dSortedDF, dMaxF, dMinF, dInS, dLtA, dNewT, dGetT, dHasT, dctT, tkOf, keysOf, dTupP, dPutT, dPutP, putTk, pkOf, dSortedTF, dGet1, dGet2, dGet2T, dDisp1, dRep, dInt, dBits, dExtend, dReverse, dMaxDf, dCat, dCatF, dExtL, dDcT, Option.isSome_some, List.getElem?_cons_zero, List.getElem?_cons_succ, List.set_cons_zero, List.set_cons_succ, atI_0, atI_1, atI_2, atI_3, atI_4, atI_5, ixN_0, ixN_1, ixN_2, ixN_3, ixN_4, ixN_5, up_same, List.length_cons, List.length_nil, Bool.not_true, Bool.not_false, Bool.false_eq_true, if_true, if_false, reduceIte, dSeq, t_ceiling_of, pR, pD, ptR]
  exact ⟨Dok.of (den_posI x) hx, Fin.here h⟩
theorem Bz.den1 {m : Nat} {x : Rat} (hx : Bz m x) (h : m ≤ 9000 := by omega) : (x.den : Int).natAbs.log2 < 9000 := by
  simp only [Int.natAbs_natCast]
  exact Nat.lt_of_lt_of_le ((Nat.log2_lt (by have := x.den_pos; omega)).mpr hx.2) h
/-! ### any part -/
def t_law_any_part : DS :=
  (dSeq (dSet 1 (dCall sp_law_pull [.p 0, .p 1] [] (dCons (dVar 0) (dCons (dC (.int 4)) dNil)) dNil))
  (dSeq (dIfS (dTest (dOp dEq (dVar 1) (dC (.int 0)))) (dRet (dCall sp_law_low [.p 0, .p 1] [] (dCons (dOp dSub (dCall sp_law_pull [.p 0, .p 1] [] (dCons (dVar 0) (dCons (dOp dPow (dC (.int 10)) (dC (.int 29))) dNil)) dNil) (dOp dMul (dC (.int 5)) (dOp dPow (dC (.int 10)) (dC (.int 28))))) (dCons (dOp dAdd (dC (.int 1)) (dCall sp_law_pull [.p 0, .p 1] [] (dCons (dVar 0) (dCons (dOp dPow (dC (.int 10)) (dC (.int 29))) dNil)) dNil)) dNil)) dNil)) dNext)
  (dRet (dCall sp_law_part [.p 0, .p 1] [] (dCons (dVar 0) (dCons (dOp dIx (dLst (dCons (dC (.int 3)) (dCons (dC (.int 40)) (dCons (dC (.int 9999)) dNil)))) (dOp dSub (dVar 1) (dC (.int 1)))) dNil)) dNil))))
def n_law_any_part : List Str := ["_law_bag_here", "_law_way"]
def sp_law_any_part : DSp := fun xs O R _ => ∃ b : Addr, xs = [.ref b] ∧ Bag O b ∧ ∀ (x : Rat) O', Bz 97 x → Bst b O O' → R (pR x) O'
theorem pR_of {n : Int} {p : Pt} (h : PtN n p) : pD p = pR (Rat.divInt p.1 p.2) := congrArg pD h.1.rat
theorem bz_of {n : Int} {p : Pt} {m : Nat} (h : PtN n p) (hn : n < 2 ^ m) : Bz m (Rat.divInt p.1 p.2) := by
  obtain ⟨l, h1, h2, h3⟩ := h
  have hp := l.pos
  have e : (((2 : Nat) ^ m : Nat) : Int) = 2 ^ m := by simp
  refine Bz.divInt hp ?_ ?_ <;> omega
theorem log_lt {n : Int} {m : Nat} (h0 : 0 ≤ n) (h : n < 2 ^ m) (hm : 0 < m) (hm2 : m ≤ 9000) : n.natAbs.log2 < 9000 := by
  have e : (((2 : Nat) ^ m : Nat) : Int) = 2 ^ m := by simp
  exact Nat.lt_of_lt_of_le (log2_lt (a := m) hm (by omega)) hm2
theorem d_law_any_part : ∀ xs O R Z, sp_law_any_part xs O R Z → t_law_any_part (ends R) (startD n_law_any_part xs) O := by
  rintro _ O R Z ⟨b, rfl, hb, k⟩
  show t_law_any_part (ends R) [some (.ref b), none] O
  simp only [dIfS, dAndT, dOrT, dNotT, dTest, dTruth, dTru, dAndV, dOrV, dNotV, dIf, dOp, dUn, dVar, dC, dI, dIc, dAdd, dSub, dMul, dFd, dMod, dPow, dNeg, dLt, dLe, dGt, dGe, dEq, dNe, dIsN, dNotN, DL.isNon, dIx, dSl, dPart, dNoPart, dCB, dLen, dAbs, dList, dTuple, dBls, dSum, dIsi, dIsi2, dtOf, isC, seqOf, lstOf, dCons, dNil, dTup, dLst, dRet, dRetN, dNext, dDrop, dAsg, gN, gsNil, gsCons, gT, gSubD, dSetL, dPar, dAug, dIpAdd, dIpSub, dCall, pick_nil, pick_p, pick_k, pick_d, dBreak, dCont, dLM, dLM0, isL, dAppend, dInsert, dPop, dPopAt, dRevL, dStr, dFmt, dJs, dMax2, dMin2, dSorted, dNewK, dctOf, dGetK, dHasK, DL.keyOf, dPutK, dDelK, dSortedD, dSet, dLstF, dRevF, dSlF, dListF, dSortedF, dSortedDF, dMaxF, dMinF, dInS, dLtA, dNewT, dGetT, dHasT, dctT, tkOf, keysOf, dTupP, dPutT, dPutP, putTk, pkOf, dSortedTF, dGet1, dGet2, dGet2T, dDisp1, dRep, dInt, dBits, dExtend, dReverse, dMaxDf, dCat, dCatF, dExtL, dDcT, Option.isSome_some, List.getElem?_cons_zero, List.getElem?_cons_succ, List.set_cons_zero, List.set_cons_succ, atI_0, atI_1, atI_2, atI_3, atI_4, atI_5, ixN_0, ixN_1, ixN_2, ixN_3, ixN_4, ixN_5, up_same, List.length_cons, List.length_nil, Bool.not_true, Bool.not_false, Bool.false_eq_true, if_true, if_false, reduceIte, dSeq, t_law_any_part]
  refine ⟨b, 4, rfl, by decide, by decide, hb, fun w O1 w0 w1 s1 => ?_⟩
  simp only [dIfS, dAndT, dOrT, dNotT, dTest, dTruth, dTru, dAndV, dOrV, dNotV, dIf, dOp, dUn, dVar, dC, dI, dIc, dAdd, dSub, dMul, dFd, dMod, dPow, dNeg, dLt, dLe, dGt, dGe, dEq, dNe, dIsN, dNotN, DL.isNon, dIx, dSl, dPart, dNoPart, dCB, dLen, dAbs, dList, dTuple, dBls, dSum, dIsi, dIsi2, dtOf, isC, seqOf, lstOf, dCons, dNil, dTup, dLst, dRet, dRetN, dNext, dDrop, dAsg, gN, gsNil, gsCons, gT, gSubD, dSetL, dPar, dAug, dIpAdd, dIpSub, dCall, pick_nil, pick_p, pick_k, pick_d, dBreak, dCont, dLM, dLM0, isL, dAppend, dInsert, dPop, dPopAt, dRevL, dStr, dFmt, dJs, dMax2, dMin2, dSorted, dNewK, dctOf, dGetK, dHasK, DL.keyOf, dPutK, dDelK, dSortedD, dSet, dLstF, dRevF, dSlF, dListF, dSortedF, dSortedDF, dMaxF, dMinF, dInS, dLtA, dNewT, dGetT, dHasT, dctT, tkOf, keysOf, dTupP, dPutT, dPutP, putTk, pkOf, dSortedTF, dGet1, dGet2, dGet2T, dDisp1, dRep, dInt, dBits, dExtend, dReverse, dMaxDf, dCat, dCatF, dExtL, dDcT, Option.isSome_some, List.getElem?_cons_zero, List.getElem?_cons_succ, List.set_cons_zero, List.set_cons_succ, atI_0, atI_1, atI_2, atI_3, atI_4, atI_5, ixN_0, ixN_1, ixN_2, ixN_3, ixN_4, ixN_5, up_same, List.length_cons, List.length_nil, Bool.not_true, Bool.not_false, Bool.false_eq_true, if_true, if_false, reduceIte, dSeq]
  by_cases h0 : w = 0
  · simp only [h0, decide_true, if_true]
    have e29 : (10 : Int) ^ (29 : Int).toNat = 100000000000000000000000000000 := by decide
    have e28 : (10 : Int) ^ (28 : Int).toNat = 10000000000000000000000000000 := by decide
    rw [e29, e28]
    refine ⟨⟨by decide, by decide, by decide⟩, b, _, rfl, by decide, log_lt (m := 97) (by decide) (by decide) (by decide) (by decide), s1.1, fun p O2 p0 p1 s2 => ?_⟩
    simp only [dIfS, dAndT, dOrT, dNotT, dTest, dTruth, dTru, dAndV, dOrV, dNotV, dIf, dOp, dUn, dVar, dC, dI, dIc, dAdd, dSub, dMul, dFd, dMod, dPow, dNeg, dLt, dLe, dGt, dGe, dEq, dNe, dIsN, dNotN, DL.isNon, dIx, dSl, dPart, dNoPart, dCB, dLen, dAbs, dList, dTuple, dBls, dSum, dIsi, dIsi2, dtOf, isC, seqOf, lstOf, dCons, dNil, dTup, dLst, dRet, dRetN, dNext, dDrop, dAsg, gN, gsNil, gsCons, gT, gSubD, dSetL, dPar, dAug, dIpAdd, dIpSub, dCall, pick_nil, pick_p, pick_k, pick_d, dBreak, dCont, dLM, dLM0, isL, dAppend, dInsert, dPop, dPopAt, dRevL, dStr, dFmt, dJs, dMax2, dMin2, dSorted, dNewK, dctOf, dGetK, dHasK, DL.keyOf, dPutK, dDelK, dSortedD, dSet, dLstF, dRevF, dSlF, dListF, dSortedF, dSortedDF, dMaxF, dMinF, dInS, dLtA, dNewT, dGetT, dHasT, dctT, tkOf, keysOf, dTupP, dPutT, dPutP, putTk, pkOf, dSortedTF, dGet1, dGet2, dGet2T, dDisp1, dRep, dInt, dBits, dExtend, dReverse, dMaxDf, dCat, dCatF, dExtL, dDcT, Option.isSome_some, List.getElem?_cons_zero, List.getElem?_cons_succ, List.set_cons_zero, List.set_cons_succ, atI_0, atI_1, atI_2, atI_3, atI_4, atI_5, ixN_0, ixN_1, ixN_2, ixN_3, ixN_4, ixN_5, up_same, List.length_cons, List.length_nil, Bool.not_true, Bool.not_false, Bool.false_eq_true, if_true, if_false, reduceIte, dSeq]
    refine ⟨⟨by decide, by decide, by decide⟩, Mok.l (by decide) (by decide), ⟨by decide, by decide, by decide⟩, b, _, rfl, by decide, log_lt (m := 97) (by decide) (by decide) (by decide) (by decide), s2.1, fun q O3 q0 q1 s3 => ?_⟩
    simp only [dIfS, dAndT, dOrT, dNotT, dTest, dTruth, dTru, dAndV, dOrV, dNotV, dIf, dOp, dUn, dVar, dC, dI, dIc, dAdd, dSub, dMul, dFd, dMod, dPow, dNeg, dLt, dLe, dGt, dGe, dEq, dNe, dIsN, dNotN, DL.isNon, dIx, dSl, dPart, dNoPart, dCB, dLen, dAbs, dList, dTuple, dBls, dSum, dIsi, dIsi2, dtOf, isC, seqOf, lstOf, dCons, dNil, dTup, dLst, dRet, dRetN, dNext, dDrop, dAsg, gN, gsNil, gsCons, gT, gSubD, dSetL, dPar, dAug, dIpAdd, dIpSub, dCall, pick_nil, pick_p, pick_k, pick_d, dBreak, dCont, dLM, dLM0, isL, dAppend, dInsert, dPop, dPopAt, dRevL, dStr, dFmt, dJs, dMax2, dMin2, dSorted, dNewK, dctOf, dGetK, dHasK, DL.keyOf, dPutK, dDelK, dSortedD, dSet, dLstF, dRevF, dSlF, dListF, dSortedF, dSortedDF, dMaxF, dMinF, dInS, dLtA, dNewT, dGetT, dHasT, dctT, tkOf, keysOf, dTupP, dPutT, dPutP, putTk, pkOf, dSortedTF, dGet1, dGet2, dGet2T, dDisp1, dRep, dInt, dBits, dExtend, dReverse, dMaxDf, dCat, dCatF, dExtL, dDcT, Option.isSome_some, List.getElem?_cons_zero, List.getElem?_cons_succ, List.set_cons_zero, List.set_cons_succ, atI_0, atI_1, atI_2, atI_3, atI_4, atI_5, ixN_0, ixN_1, ixN_2, ixN_3, ixN_4, ixN_5, up_same, List.length_cons, List.length_nil, Bool.not_true, Bool.not_false, Bool.false_eq_true, if_true, if_false, reduceIte, dSeq]
    refine ⟨_, _, rfl, by omega, log_lt (m := 97) (by omega) (by omega) (by decide) (by decide), Fin.here ?_⟩
    rw [lowP_rat (by omega)]
    refine k _ _ (Bz.divInt (by omega) (by omega) (by omega)) ((s1.trans s2).trans s3)
  · simp only [h0, decide_false, Bool.false_eq_true, if_false]
    intro p hp
    have e : w = 1 ∨ w = 2 ∨ w = 3 := by omega
    have fin : ∀ m : Int, 1 ≤ m → m ≤ 9999 → sp_law_part [.ref b, .int m] (DL.up O1 p (.lst [.int 3, .int 40, .int 9999])) (Fin R) X0 := fun m h1 h2 =>
      ⟨b, m, rfl, h1, by omega, s1.1.up hp, fun q O2 hq s2 => Fin.here (by rw [pR_of hq]; exact k _ _ (bz_of hq (by omega)) (s1.trans (((Bst.refl s1.1).up hp).trans s2)))⟩
    rcases e with rfl | rfl | rfl
    · exact fin 3 (by decide) (by decide)
    · exact fin 40 (by decide) (by decide)
    · exact fin 9999 (by decide) (by decide)
end Lw
set_option linter.all false
set_option maxRecDepth 100000
set_option maxHeartbeats 2000000
namespace Lw
open PySem PySem.Spec PyProof.Rows L2 DL
open Evl (Ex)
theorem seqI_var {i : Nat} {g : Gm} {O : Om} {x : D} {xs : List D} {R : List D → (Om → Prop) → Om → Prop} (hg : g[i]? = some (some x)) (h : seqOf O x = some xs) (k : ∀ ok : Om → Prop, (∀ O', Sb O O' → ok O') → R xs ok O) : dSeqI (dVar i) g O R := by
  unfold dSeqI dVar
  rw [hg]
  cases x with
  | tup ys => cases h; exact k _ fun _ _ => True.intro
  | lst ys => cases h; exact k _ fun _ _ => True.intro
  | ref a =>
    have h : (match O a with | some (.lst xs) => some xs | _ => none) = some xs := h
    show (match O a with | some (.lst xs) => R xs (fun O => O a = some (.lst xs)) O | _ => False)
    cases e : O a with
    | none => rw [e] at h; cases h
    | some o =>
      cases o with
      | lst ys =>
        rw [e] at h
        cases h
        exact k _ fun O' s => s a _ e
      | _ => rw [e] at h; cases h
  | _ => cases h
theorem loop_map {A : Type} {f : A → D} {u : DG} {tb : DS} {ok : Om → Prop} {F : DEnds} (I : List A → Gm → Om → Prop) {xs : List A} {g : Gm} {O : Om} (h0 : I [] g O) (hok : ∀ pre g O, I pre g O → ok O)
    (hs : ∀ pre x post g O (N : Gm → Om → Prop), xs = pre ++ x :: post → I pre g O → (∀ g' O', I (pre ++ [x]) g' O' → N g' O') → u (f x) g O fun g1 O1 => tb { F with nx := N, ct := N, bk := F.nx } g1 O1)
    (hd : ∀ g O, I xs g O → F.nx g O) : dLoop u tb ok F (xs.map f) g O := by
  have key : ∀ (post pre : List A) (g : Gm) (O : Om), xs = pre ++ post → I pre g O → dLoop u tb ok F (post.map f) g O := by
    intro post
    induction post with
    | nil =>
      intro pre g O e h
      rw [List.append_nil] at e
      subst e
      exact ⟨hok _ _ _ h, hd g O h⟩
    | cons x post ih =>
      intro pre g O e h
      exact ⟨hok _ _ _ h, hs pre x post g O _ e h fun g1 O1 h1 => ih (pre ++ [x]) g1 O1 (by rw [e, List.append_assoc]; rfl) h1⟩
  exact key xs [] g O rfl h0
def sumR : List Rat → Rat
  | [] => 0
  | x :: r => x + sumR r
theorem sumR_append (xs ys : List Rat) : sumR (xs ++ ys) = sumR xs + sumR ys := by
  induction xs with
  | nil => show sumR ys = 0 + sumR ys; grind
  | cons x xs ih => show x + sumR (xs ++ ys) = x + sumR xs + sumR ys; rw [ih]; grind
theorem sumR_reverse (xs : List Rat) : sumR xs.reverse = sumR xs := by
  induction xs with
  | nil => rfl
  | cons x xs ih => rw [List.reverse_cons, sumR_append, ih]; show sumR xs + (x + 0) = x + sumR xs; grind
theorem pR_zero : pR 0 = .tup [.int 0, .int 1] := rfl
theorem pR_one : pR 1 = .tup [.int 1, .int 1] := rfl
theorem Bz.zero {m : Nat} (h : 0 < m) : Bz m 0 := by
  have : 2 ^ 1 ≤ 2 ^ m := Nat.pow_le_pow_right (by decide) h
  exact ⟨by show 0 < _; omega, by show 1 < _; omega⟩
def t_total : DS :=
  (dSeq (dSet 2 (dIf (dTest (dOp dIsN (dVar 1) (dC .non))) (dC (.tup [(.int 0), (.int 1)])) (dVar 1)))
  (dSeq (dFor (dSeqI (dVar 0)) (gN 3) (dSet 2 (dCall sp_plus [.p 0, .p 1] [] (dCons (dVar 2) (dCons (dVar 3) dNil)) dNil)))
  (dRet (dVar 2))))
def n_total : List Str := ["row", "start", "found", "one"]
def stD : Option Rat → D
  | none => .non
  | some x => pR x
def sp_total : DSp := fun xs O R _ => ∃ (r : D) (s : Option Rat) (qs : List Rat) (m m0 : Nat), xs = [r, stD s] ∧ seqOf O r = some (qs.map pR) ∧ (∀ q ∈ qs, Bz m q) ∧ Bz m0 (s.getD 0) ∧ 0 < m ∧ 0 < m0 ∧ m0 + qs.length * (m + 1) ≤ 9000 ∧ R (pR (s.getD 0 + sumR qs)) O
theorem total_run {r s : D} {qs : List Rat} {m m0 : Nat} {x0 : Rat} {O : Om} {R : D → Om → Prop} (hr : seqOf O r = some (qs.map pR)) (hq : ∀ q ∈ qs, Bz m q) (h0 : Bz m0 x0) (hm : 0 < m) (hm0 : 0 < m0) (hl : m0 + qs.length * (m + 1) ≤ 9000) (k : R (pR (x0 + sumR qs)) O) :
    dSeq (dFor (dSeqI (dVar 0)) (gN 3) (dSet 2 (dCall sp_plus [.p 0, .p 1] [] (dCons (dVar 2) (dCons (dVar 3) dNil)) dNil))) (dRet (dVar 2)) (ends R) [some r, some s, some (pR x0), none] O := by
  refine seq_by (fun g O' => O' = O ∧ ∃ z, g = [some r, some s, some (pR (x0 + sumR qs)), z]) (fun N hN => ?_) ?_
  · refine seqI_var rfl hr fun ok hok => ?_
    refine loop_map (fun pre g O' => O' = O ∧ ∃ z, Bz (m0 + pre.length * (m + 1)) (x0 + sumR pre) ∧ g = [some r, some s, some (pR (x0 + sumR pre)), z]) ⟨rfl, none, by simpa [sumR, Rat.add_zero] using h0, by show _ = [_, _, some (pR (x0 + 0)), _]; rw [Rat.add_zero]⟩ (fun _ _ _ h => h.1 ▸ hok _ (Sb.refl _)) ?_ ?_
    · rintro pre x post _ _ M e ⟨rfl, z, hb, rfl⟩ k
      simp only [dIfS, dAndT, dOrT, dNotT, dTest, dTruth, dTru, dAndV, dOrV, dNotV, dIf, dOp, dUn, dVar, dC, dI, dIc, dAdd, dSub, dMul, dFd, dMod, dPow, dNeg, dLt, dLe, dGt, dGe, dEq, dNe, dIsN, dNotN, DL.isNon, dIx, dSl, dPart, dNoPart, dCB, dLen, dAbs, dList, dTuple, dBls, dSum, dIsi, dIsi2, dtOf, isC, seqOf, lstOf, dCons, dNil, dTup, dLst, dRet, dRetN, dNext, dDrop, dAsg, gN, gsNil, gsCons, gT, gSubD, dSetL, dPar, dAug, dIpAdd, dIpSub, dCall, pick_nil, pick_p, pick_k, pick_d, dBreak, dCont, dLM, dLM0, isL, dAppend, dInsert, dPop, dPopAt, dRevL, dStr, dFmt, dJs, dMax2, dMin2, dSorted, dNewK, dctOf, dGetK, dHasK, DL.keyOf, dPutK, dDelK, dSortedD, dSet, dLstF, dRevF, dSlF, dListF, dSortedF, dSortedDF, dMaxF, dMinF, dInS, dLtA, dNewT, dGetT, dHasT, dctT, tkOf, keysOf, dTupP, dPutT, dPutP, putTk, pkOf, dSortedTF, dGet1, dGet2, dGet2T, dDisp1, dRep, dInt, dBits, dExtend, dReverse, dMaxDf, dCat, dCatF, dExtL, dDcT, Option.isSome_some, List.getElem?_cons_zero, List.getElem?_cons_succ, List.set_cons_zero, List.set_cons_succ, atI_0, atI_1, atI_2, atI_3, atI_4, atI_5, ixN_0, ixN_1, ixN_2, ixN_3, ixN_4, ixN_5, up_same, List.length_cons, List.length_nil, Bool.not_true, Bool.not_false, Bool.false_eq_true, if_true, if_false, reduceIte, dSet]
      have hx : Bz m x := hq x (by rw [e]; simp)
      have hlen : pre.length + 1 ≤ qs.length := by rw [e]; simp
      have hmul := Nat.mul_le_mul_right (m + 1) hlen
      rw [Nat.add_mul] at hmul
      refine ⟨_, _, rfl, Two.of hb hx, k _ _ ⟨rfl, some (pR x), ?_, ?_⟩⟩
      · have h := hb.add hx
        rw [Rat.add_assoc] at h
        rw [sumR_append]
        show Bz _ (x0 + (sumR pre + (x + 0)))
        rw [Rat.add_zero]
        refine h.mono ?_
        rw [List.length_append, List.length_singleton, Nat.add_mul]
        omega
      · rw [sumR_append]
        show _ = [_, _, some (pR (x0 + (sumR pre + (x + 0)))), _]
        rw [Rat.add_zero, Rat.add_assoc]
    · rintro _ _ ⟨rfl, z, _, rfl⟩
      exact hN _ _ ⟨rfl, z, rfl⟩
  · rintro _ _ ⟨rfl, z, rfl⟩
    simp only [dIfS, dAndT, dOrT, dNotT, dTest, dTruth, dTru, dAndV, dOrV, dNotV, dIf, dOp, dUn, dVar, dC, dI, dIc, dAdd, dSub, dMul, dFd, dMod, dPow, dNeg, dLt, dLe, dGt, dGe, dEq, dNe, dIsN, dNotN, DL.isNon, dIx, dSl, dPart, dNoPart, dCB, dLen, dAbs, dList, dTuple, dBls, dSum, dIsi, dIsi2, dtOf, isC, seqOf, lstOf, dCons, dNil, dTup, dLst, dRet, dRetN, dNext, dDrop, dAsg, gN, gsNil, gsCons, gT, gSubD, dSetL, dPar, dAug, dIpAdd, dIpSub, dCall, pick_nil, pick_p, pick_k, pick_d, dBreak, dCont, dLM, dLM0, isL, dAppend, dInsert, dPop, dPopAt, dRevL, dStr, dFmt, dJs, dMax2, dMin2, dSorted, dNewK, dctOf, dGetK, dHasK, DL.keyOf, dPutK, dDelK, dSortedD, dSet, dLstF, dRevF, dSlF, dListF, dSortedF, dSortedDF, dMaxF, dMinF, dInS, dLtA, dNewT, dGetT, dHasT, dctT, tkOf, keysOf, dTupP, dPutT, dPutP, putTk, pkOf, dSortedTF, dGet1, dGet2, dGet2T, dDisp1, dRep, dInt, dBits, dExtend, dReverse, dMaxDf, dCat, dCatF, dExtL, dDcT, Option.isSome_some, List.getElem?_cons_zero, List.getElem?_cons_succ, List.set_cons_zero, List.set_cons_succ, atI_0, atI_1, atI_2, atI_3, atI_4, atI_5, ixN_0, ixN_1, ixN_2, ixN_3, ixN_4, ixN_5, up_same, List.length_cons, List.length_nil, Bool.not_true, Bool.not_false, Bool.false_eq_true, if_true, if_false, reduceIte]
    exact Fin.here k
theorem d_total : ∀ xs O R Z, sp_total xs O R Z → t_total (ends R) (startD n_total xs) O := by
  rintro _ O R Z ⟨r, s, qs, m, m0, rfl, hr, hq, h0, hm, hm0, hl, k⟩
  cases s with
  | none => exact total_run (x0 := 0) hr hq h0 hm hm0 hl k
  | some x => exact total_run (x0 := x) (s := pR x) hr hq h0 hm hm0 hl k
theorem loop_ix {u : DG} {tb : DS} {ok : Om → Prop} {F : DEnds} {xs : List D} {g : Gm} {O : Om} (I : Nat → Gm → Om → Prop) (h0 : I 0 g O) (hok : ∀ i g O, I i g O → ok O)
    (hs : ∀ i x g O (N : Gm → Om → Prop), xs[i]? = some x → I i g O → (∀ g' O', I (i + 1) g' O' → N g' O') → u x g O fun g1 O1 => tb { F with nx := N, ct := N, bk := F.nx } g1 O1)
    (hd : ∀ g O, I xs.length g O → F.nx g O) : dLoop u tb ok F xs g O :=
  loop_by (fun pre => I pre.length) h0 (fun pre => hok pre.length) (fun pre x post g O N e h k => hs pre.length x g O N (by rw [e]; simp) h fun g' O' h' => k g' O' (by rw [List.length_append]; exact h')) hd
theorem comp_ix {u : DG} {tt : DT} {te : DE} {ok : Om → Prop} {g : Gm} {R : List D → Om → Prop} {xs : List D} {O : Om} (I : Nat → List D → Om → Prop) (h0 : I 0 [] O) (hok : ∀ i acc O, I i acc O → ok O)
    (hs : ∀ i x acc O (N : List D → Om → Prop), xs[i]? = some x → I i acc O → (∀ acc' O', I (i + 1) acc' O' → N acc' O') → u x g O fun g1 O1 => tt g1 O1 fun b O2 => if b = true then te g1 O2 fun y O3 => acc.length < sizeLine ∧ N (acc ++ [y]) O3 else N acc O2)
    (hd : ∀ acc O, I xs.length acc O → R acc O) : dComp u tt te ok g R xs [] O :=
  comp_by (fun pre => I pre.length) h0 (fun pre => hok pre.length) (fun pre x post acc O N e h k => hs pre.length x acc O N (by rw [e]; simp) h fun g' O' h' => k g' O' (by rw [List.length_append]; exact h')) hd
theorem enD_get {l : List D} {i : Nat} {x : D} (h : (enD l)[i]? = some x) : ∃ y, l[i]? = some y ∧ x = .tup [.int (i : Nat), y] := by
  unfold enD at h
  rw [List.getElem?_map, List.getElem?_zipIdx] at h
  cases e : l[i]? with
  | none => rw [e] at h; cases h
  | some y => rw [e] at h; simp at h; exact ⟨y, rfl, h.symm⟩
theorem enD_len {l : List D} : (enD l).length = l.length := by unfold enD; simp
theorem rgD_get' {n i : Nat} {x : D} (h : (rgD 0 n)[i]? = some x) : i < n ∧ x = .int (i : Nat) := by
  obtain ⟨h1, h2⟩ := rgD_get h
  exact ⟨h1, by rw [h2, Int.zero_add]⟩
end Lw
set_option linter.all false
set_option maxRecDepth 100000
set_option maxHeartbeats 2000000
namespace Lw
open PySem PySem.Spec PyProof.Rows L2 DL
open Evl (Ex)
/-! ### calls as equations -/
theorem pR_iff {x y : Rat} : pR x = pR y ↔ x = y := ⟨fun h => by
  have e : ptR x = ptR y := by
    unfold pR pD at h
    injection h with h
    injection h with h1 h2
    injection h2 with h2 h3
    injection h1 with h1
    injection h2 with h2
    exact Prod.ext h1 h2
  exact pR_inj e, fun h => by rw [h]⟩
theorem pRs {x y a b : Rat} : [pR x, pR y] = [pR a, pR b] ↔ x = a ∧ y = b := by
  rw [List.cons.injEq, List.cons.injEq, pR_iff, pR_iff]
  simp
section
variable {x y : Rat} {O : Om} {R : D → Om → Prop} {Z : XD}
theorem two_eq {f : Rat → Rat → Rat} : (∃ a b : Rat, [pR x, pR y] = [pR a, pR b] ∧ Two a b ∧ R (pR (f a b)) O) = (Two x y ∧ R (pR (f x y)) O) := by
  refine propext ⟨?_, fun h => ⟨x, y, rfl, h⟩⟩
  rintro ⟨a, b, e, h⟩
  obtain ⟨rfl, rfl⟩ := pRs.mp e
  exact h
theorem plus_eq : sp_plus [pR x, pR y] O R Z = (Two x y ∧ R (pR (x + y)) O) := two_eq (f := fun a b => a + b)
theorem less_eq : sp_less [pR x, pR y] O R Z = (Two x y ∧ R (pR (x - y)) O) := two_eq (f := fun a b => a - b)
theorem times_eq : sp_times [pR x, pR y] O R Z = (Two x y ∧ R (pR (x * y)) O) := two_eq (f := fun a b => a * b)
theorem over_eq : sp_over [pR x, pR y] O R Z = ((y ≠ 0 ∧ SmP (ptR x) ∧ SmP (ptR y) ∧ ((x.den : Int) * y.num).natAbs.log2 < 9000) ∧ R (pR (x / y)) O) := by
  refine propext ⟨?_, fun h => ⟨x, y, rfl, h.1.1, h.1.2.1, h.1.2.2.1, h.1.2.2.2, h.2⟩⟩
  rintro ⟨a, b, e, h1, h2, h3, h4, h5⟩
  obtain ⟨rfl, rfl⟩ := pRs.mp e
  exact ⟨⟨h1, h2, h3, h4⟩, h5⟩
theorem floor_eq : sp_floor_of [pR x] O R Z = ((x.den : Int).natAbs.log2 < 9000 ∧ R (.int (x.num / x.den)) O) := by
  refine propext ⟨?_, fun h => ⟨x, rfl, h⟩⟩
  rintro ⟨a, e, h⟩
  obtain rfl := pR_iff.mp (List.cons.inj e).1
  exact h
theorem ceil_eq : sp_ceiling_of [pR x] O R Z = ((x.den : Int).natAbs.log2 < 9000 ∧ R (.int (0 - (0 - x.num) / x.den)) O) := by
  refine propext ⟨?_, fun h => ⟨x, rfl, h⟩⟩
  rintro ⟨a, e, h⟩
  obtain rfl := pR_iff.mp (List.cons.inj e).1
  exact h
theorem part_eq {p q : Int} : sp_part [.int p, .int q] O R Z = ((0 < q ∧ q.natAbs.log2 < 9000) ∧ R (pR (Rat.divInt p q)) O) := by
  refine propext ⟨?_, fun h => ⟨p, q, rfl, h.1.1, h.1.2, h.2⟩⟩
  rintro ⟨a, b, e, h1, h2, h3⟩
  cases e
  exact ⟨⟨h1, h2⟩, h3⟩
theorem below_eq : sp_below [pR x, pR y] O R Z = ((SmP (ptR x) ∧ SmP (ptR y)) ∧ R (.bl (decide (x < y))) O) := by
  refine propext ⟨?_, fun h => ⟨ptR x, ptR y, rfl, h.1.1, h.1.2, by rw [lt_rat]; exact h.2⟩⟩
  rintro ⟨p, q, e, h1, h2, h3⟩
  have e1 : p = ptR x ∧ q = ptR y := by
    unfold pR pD at e
    injection e with e1 e2
    injection e2 with e2 _
    injection e1 with e1
    injection e2 with e2
    injection e1 with a1 a2
    injection a2 with a2 _
    injection e2 with b1 b2
    injection b2 with b2 _
    injection a1 with a1
    injection a2 with a2
    injection b1 with b1
    injection b2 with b2
    exact ⟨Prod.ext a1.symm a2.symm, Prod.ext b1.symm b2.symm⟩
  obtain ⟨rfl, rfl⟩ := e1
  exact ⟨⟨h1, h2⟩, by rw [← lt_rat]; exact h3⟩
theorem eq_int {i j : Int} : dEq (.int i) (.int j) O R = R (.bl (decide (i = j))) O := rfl
theorem ne_int {i j : Int} : dNe (.int i) (.int j) O R = R (.bl (!decide (i = j))) O := rfl
theorem eq_str {i j : Str} : dEq (.str i) (.str j) O R = R (.bl (decide (i = j))) O := rfl
theorem ne_str {i j : Str} : dNe (.str i) (.str j) O R = R (.bl (!decide (i = j))) O := rfl
theorem eq_bl {i j : Bool} : dEq (.bl i) (.bl j) O R = R (.bl (decide (i = j))) O := rfl
theorem ne_bl {i j : Bool} : dNe (.bl i) (.bl j) O R = R (.bl (!decide (i = j))) O := rfl
theorem seq_pR : seqOf O (pR x) = some [.int x.num, .int x.den] := rfl
theorem ix_pR0 : dIx (pR x) (.int 0) O R = R (.int x.num) O := by
  show (match atI [D.int x.num, .int x.den] 0 with | some z => R z O | none => False) = _
  rw [atI_0]
theorem ix_pR1 : dIx (pR x) (.int 1) O R = R (.int x.den) O := by
  show (match atI [D.int x.num, .int x.den] 1 with | some z => R z O | none => False) = _
  rw [atI_1]
theorem ix_tup {xs : List D} {i : Int} : dIx (.tup xs) (.int i) O R = match atI xs i with | some z => R z O | none => False := rfl
theorem ix_lst {xs : List D} {i : Int} : dIx (.lst xs) (.int i) O R = match atI xs i with | some z => R z O | none => False := rfl
theorem ix_ref {a : Addr} {i : Int} : dIx (.ref a) (.int i) O R = match seqOf O (.ref a) with | some xs => (match atI xs i with | some z => R z O | none => False) | none => False := rfl
theorem len_tup {xs : List D} : dLen [.tup xs] O R = R (.int (xs.length : Nat)) O := rfl
theorem len_lst {xs : List D} : dLen [.lst xs] O R = R (.int (xs.length : Nat)) O := rfl
theorem len_ref {a : Addr} : dLen [.ref a] O R = match O a with | some (.lst xs) => R (.int (xs.length : Nat)) O | some (.dK kvs) => R (.int (kvs.length : Nat)) O | _ => False := rfl
theorem vw_pR : Vw O (pR x) (.tuple [.int x.num, .int x.den]) := .tup (.cons (.int _) (.cons (.int _) .nil))
theorem vw_pR' {d : PyData} (h : Vw O (pR x) d) : d = .tuple [.int x.num, .int x.den] := by
  cases h with
  | tup h => cases h with
    | cons h1 h2 => cases h1; cases h2 with
      | cons h3 h4 => cases h3; cases h4; rfl
theorem eqv_pR : PyData.eqv (.tuple [.int x.num, .int x.den]) (.tuple [.int y.num, .int y.den]) = decide (x = y) := by
  have e : PyData.eqv (.tuple [.int x.num, .int x.den]) (.tuple [.int y.num, .int y.den]) = (decide (x.num = y.num) && (decide ((x.den : Int) = (y.den : Int)) && true)) := rfl
  rw [e, Bool.and_true, Bool.eq_iff_iff]
  simp only [Bool.and_eq_true, decide_eq_true_eq]
  exact ⟨fun h => pR_inj (Prod.ext h.1 h.2), fun h => by rw [h]; exact ⟨rfl, rfl⟩⟩
theorem shaped_pR : SeqAt.shaped (.tuple [.int x.num, .int x.den]) = true := rfl
theorem eqD_pR {n : Bool} : dEqD n (pR x) (pR y) O R = R (.bl (decide (x = y) != n)) O := by
  refine propext ⟨?_, fun h => ⟨_, _, vw_pR, vw_pR, shaped_pR, shaped_pR, by rw [eqv_pR]; exact h⟩⟩
  rintro ⟨d, e, h1, h2, h3, h4, h5⟩
  cases vw_pR' h1
  cases vw_pR' h2
  rw [eqv_pR] at h5
  exact h5
theorem eq_pR : dEq (pR x) (pR y) O R = R (.bl (decide (x = y))) O := by
  show dEqD false (pR x) (pR y) O R = _
  rw [eqD_pR, Bool.bne_false]
theorem ne_pR : dNe (pR x) (pR y) O R = R (.bl (!decide (x = y))) O := by
  show dEqD true (pR x) (pR y) O R = _
  rw [eqD_pR, Bool.bne_true]
end
theorem cut_from {A : Int} {xs : List D} (h : 0 ≤ A) : DL.cutD xs (some A) none = xs.drop A.toNat := by
  obtain ⟨n, rfl⟩ := Int.eq_ofNat_of_zero_le h
  unfold DL.cutD
  rw [HT.sIx_nat]
  show ((xs.drop (min n xs.length)).take (xs.length - min n xs.length)) = xs.drop n
  rw [List.take_of_length_le (by rw [List.length_drop]; omega)]
  by_cases hn : n ≤ xs.length
  · rw [Nat.min_eq_left hn]
  · rw [Nat.min_eq_right (by omega), List.drop_length, List.drop_eq_nil_of_le (by omega)]
theorem cut_to {A : Int} {xs : List D} (h : 0 ≤ A) : DL.cutD xs none (some A) = xs.take A.toNat := by
  obtain ⟨n, rfl⟩ := Int.eq_ofNat_of_zero_le h
  unfold DL.cutD
  rw [HT.sIx_nat]
  show ((xs.drop 0).take (min n xs.length - 0)) = xs.take n
  rw [List.drop_zero, Nat.sub_zero]
  by_cases hn : n ≤ xs.length
  · rw [Nat.min_eq_left hn]
  · rw [Nat.min_eq_right (by omega), List.take_of_length_le (by omega), List.take_of_length_le (by omega)]
theorem bz_sum {m m0 : Nat} {x0 : Rat} : ∀ {qs : List Rat}, (∀ q ∈ qs, Bz m q) → Bz m0 x0 → Bz (m0 + qs.length * (m + 1)) (x0 + sumR qs)
  | [], _, h => by
    show Bz _ (x0 + 0)
    rw [Rat.add_zero]
    simpa using h
  | q :: qs, hq, h => by
    have h1 := h.add (hq q (by simp))
    have h2 := bz_sum (qs := qs) (fun z hz => hq z (by simp [hz])) h1
    show Bz _ (x0 + (q + sumR qs))
    rw [← Rat.add_assoc]
    refine h2.mono ?_
    rw [List.length_cons, Nat.add_mul]
    omega
theorem over_log {m n : Nat} {x y : Rat} (hx : Bz m x) (hy : Bz n y) (h : y.num ≠ 0) (hl : m + n ≤ 9000 := by omega) (h0 : 0 < m := by omega) : ((x.den : Int) * y.num).natAbs.log2 < 9000 := by
  rw [Int.natAbs_mul]
  simp only [Int.natAbs_natCast]
  have := mul_lt hx.2 hy.1
  have h1 := x.den_pos
  have h2 : 0 < y.num.natAbs := by omega
  exact Nat.lt_of_lt_of_le ((Nat.log2_lt (Nat.ne_of_gt (Nat.mul_pos h1 h2))).mpr this) hl
/-! ### data that is compared whole -/
def Seen (O : Om) (n : Nat) (x : D) (d : PyData) : Prop := Vw O x d ∧ d.canLay0 = true ∧ d.depth ≤ n
def SeenAll (O : Om) (n : Nat) (xs : List D) (ds : List PyData) : Prop := Vws O xs ds ∧ PyData.canLayAll0 ds = true ∧ PyData.depthAll ds ≤ n
theorem Seen.int {O : Om} {n : Nat} {i : Int} : Seen O n (.int i) (.int i) := ⟨.int i, rfl, Nat.zero_le _⟩
theorem Seen.str {O : Om} {n : Nat} {i : Str} (h : (PyData.str i).canLay0 = true) : Seen O n (.str i) (.str i) := ⟨.str i, h, Nat.zero_le _⟩
theorem Seen.bl {O : Om} {n : Nat} {i : Bool} : Seen O n (.bl i) (.bool i) := ⟨.bl i, rfl, Nat.zero_le _⟩
theorem Seen.non {O : Om} {n : Nat} : Seen O n .non .none := ⟨.non, rfl, Nat.zero_le _⟩
theorem SeenAll.nil {O : Om} {n : Nat} : SeenAll O n [] [] := ⟨.nil, rfl, Nat.zero_le _⟩
theorem SeenAll.cons {O : Om} {n : Nat} {x : D} {xs : List D} {d : PyData} {ds : List PyData} (h : Seen O n x d) (r : SeenAll O n xs ds) : SeenAll O n (x :: xs) (d :: ds) :=
  ⟨.cons h.1 r.1, by rw [PyData.canLayAll0, h.2.1, r.2.1]; rfl, by rw [PyData.depthAll]; exact Nat.max_le.mpr ⟨h.2.2, r.2.2⟩⟩
theorem SeenAll.map {A : Type} {O : Om} {n : Nat} {f : A → D} {g : A → PyData} : ∀ {as : List A}, (∀ a ∈ as, Seen O n (f a) (g a)) → SeenAll O n (as.map f) (as.map g)
  | [], _ => .nil
  | a :: as, h => .cons (h a (by simp)) (SeenAll.map (as := as) fun b hb => h b (by simp [hb]))
theorem SeenAll.tup {O : Om} {n : Nat} {xs : List D} {ds : List PyData} (h : SeenAll O n xs ds) : Seen O (n + 1) (.tup xs) (.tuple ds) := ⟨.tup h.1, by rw [PyData.canLay0]; exact h.2.1, by rw [PyData.depth]; exact Nat.succ_le_succ h.2.2⟩
theorem SeenAll.lst {O : Om} {n : Nat} {xs : List D} {ds : List PyData} (h : SeenAll O n xs ds) : Seen O (n + 1) (.lst xs) (.list ds) := ⟨.lst h.1, by rw [PyData.canLay0]; exact h.2.1, by rw [PyData.depth]; exact Nat.succ_le_succ h.2.2⟩
theorem SeenAll.ref {O : Om} {n : Nat} {a : Addr} {xs : List D} {ds : List PyData} (h : SeenAll O n xs ds) (e : O a = some (.lst xs)) : Seen O (n + 1) (.ref a) (.list ds) := ⟨.ref e h.1, by rw [PyData.canLay0]; exact h.2.1, by rw [PyData.depth]; exact Nat.succ_le_succ h.2.2⟩
theorem Seen.mono {O : Om} {m n : Nat} {x : D} {d : PyData} (h : Seen O m x d) (k : m ≤ n) : Seen O n x d := ⟨h.1, h.2.1, Nat.le_trans h.2.2 k⟩
theorem Seen.ok {O : Om} {n : Nat} {x : D} {d : PyData} (h : Seen O n x d) (k : n ≤ 64) : SeqAt.shaped d = true := by
  unfold SeqAt.shaped
  rw [h.2.1, Bool.true_and, decide_eq_true_eq]
  exact Nat.le_trans h.2.2 k
theorem Seen.eqD {O : Om} {n m : Nat} {x y : D} {d : PyData} {b : Bool} {R : D → Om → Prop} (h1 : Seen O n x d) (h2 : Seen O m y d) (k1 : n ≤ 64) (k2 : m ≤ 64) (r : R (.bl (!b)) O) : dEqD b x y O R :=
  ⟨d, d, h1.1, h2.1, h1.ok k1, h2.ok k2, by rw [SeqAt.eqv_refl d h1.2.1, Bool.true_bne]; exact r⟩
theorem Seen.neRef {O : Om} {n m : Nat} {a b : Addr} {d : PyData} {R : D → Om → Prop} (h1 : Seen O n (.ref a) d) (h2 : Seen O m (.ref b) d) (r : R (.bl false) O) (k1 : n ≤ 64 := by decide) (k2 : m ≤ 64 := by decide) : dNe (.ref a) (.ref b) O R := h1.eqD h2 k1 k2 r
theorem Seen.eqRef {O : Om} {n m : Nat} {a b : Addr} {d : PyData} {R : D → Om → Prop} (h1 : Seen O n (.ref a) d) (h2 : Seen O m (.ref b) d) (r : R (.bl true) O) (k1 : n ≤ 64 := by decide) (k2 : m ≤ 64 := by decide) : dEq (.ref a) (.ref b) O R := h1.eqD h2 k1 k2 r
theorem Seen.pR {O : Om} {x : Rat} : Seen O 1 (Lw.pR x) (.tuple [.int x.num, .int x.den]) := SeenAll.tup (.cons .int (.cons .int .nil))
theorem seq_ref {O : Om} {a : Addr} {xs : List D} (h : O a = some (.lst xs)) : seqOf O (.ref a) = some xs := by simp only [seqOf, h]
theorem lst_ref {O : Om} {a : Addr} {xs : List D} (h : O a = some (.lst xs)) : lstOf O (.ref a) = some xs := by simp only [lstOf, h]
theorem ix_eq {O : Om} {R : D → Om → Prop} {v w : D} {vs : List D} {i : Int} (h1 : seqOf O v = some vs) (h2 : atI vs i = some w) : dIx v (.int i) O R = R w O := by
  cases v <;> first | (cases h1; done) | skip
  all_goals (simp only [dIx, h1, h2])
theorem lst_seq {O : Om} {x : D} {xs : List D} (h : lstOf O x = some xs) : seqOf O x = some xs := by
  cases x <;> first | exact h | (cases h)
theorem len_eq {O : Om} {R : D → Om → Prop} {v : D} {vs : List D} (h1 : seqOf O v = some vs) : dLen [v] O R = R (.int (vs.length : Nat)) O := by
  cases v with
  | tup xs => cases h1; rfl
  | lst xs => cases h1; rfl
  | ref a =>
    have h1 : (match O a with | some (.lst xs) => some xs | _ => none) = some vs := h1
    cases e : O a with
    | none => rw [e] at h1; cases h1
    | some o =>
      cases o <;> rw [e] at h1 <;> cases h1
      simp only [dLen, e]
  | _ => cases h1
theorem atI_map {A : Type} {f : A → D} {xs : List A} {i : Nat} {d : A} (h : i < xs.length) : atI (xs.map f) (i : Int) = some (f (xs.getD i d)) := by
  rw [atI_cons (by simpa using h)]
  simp [List.getD_eq_getElem?_getD, h]
theorem getD_mem {A : Type} {xs : List A} {i : Nat} {d : A} (h : i < xs.length) : xs.getD i d ∈ xs := by
  rw [List.getD_eq_getElem?_getD, List.getElem?_eq_getElem h]
  exact List.getElem_mem h
theorem Sb.lst {O O' : Om} {x : D} {xs : List D} (s : Sb O O') (h : lstOf O x = some xs) : lstOf O' x = some xs := by
  cases x with
  | lst ys => exact h
  | ref a =>
    have h : (match O a with | some (.lst xs) => some xs | _ => none) = some xs := h
    cases e : O a with
    | none => rw [e] at h; cases h
    | some o =>
      cases o <;> rw [e] at h <;> cases h
      show (match O' a with | some (.lst xs) => some xs | _ => none) = some _
      rw [s a _ e]
  | _ => cases h
theorem enum_at {i : Nat} {g : Gm} {O : Om} {x : D} {xs : List D} {R : List D → (Om → Prop) → Om → Prop} (hg : g[i]? = some (some x)) (h : lstOf O x = some xs) (k : ∀ ok : Om → Prop, (∀ O', lstOf O' x = some xs → ok O') → R (enD xs) ok O) : dEnum (dVar i) g O R := by
  unfold dEnum dVar
  rw [hg]
  cases x with
  | lst ys => cases h; exact k _ fun _ _ => True.intro
  | ref a =>
    rcases lstOf_cases h with z | ⟨b, z, e⟩
    · cases z
    · cases z
      show (match O a with | some (.lst xs) => R (enD xs) (fun O => O a = some (.lst xs)) O | _ => False)
      rw [e]
      refine k _ fun O' s => ?_
      rcases lstOf_cases s with z | ⟨b, z, e⟩
      · cases z
      · cases z; exact e
  | _ => cases h
theorem enum_var {i : Nat} {g : Gm} {O : Om} {x : D} {xs : List D} {R : List D → (Om → Prop) → Om → Prop} (hg : g[i]? = some (some x)) (h : lstOf O x = some xs) (k : ∀ ok : Om → Prop, (∀ O', Sb O O' → ok O') → R (enD xs) ok O) : dEnum (dVar i) g O R :=
  enum_at hg h fun ok hok => k ok fun O' s => hok O' (s.lst h)
theorem getI_eq {f : Int → D} {ms : List Int} {i : Nat} {y : D} (hy : (ms.map f)[i]? = some y) : i < ms.length ∧ y = f (ms.getD i 0) := by
  have hi : i < ms.length := by simpa using (List.getElem?_eq_some_iff.mp hy).1
  refine ⟨hi, ?_⟩
  rw [List.getElem?_map, List.getElem?_eq_getElem hi] at hy
  rw [List.getD_eq_getElem?_getD, List.getElem?_eq_getElem hi]
  exact (Option.some.inj hy).symm
theorem seqI_at {i : Nat} {g : Gm} {O : Om} {x : D} {xs : List D} {R : List D → (Om → Prop) → Om → Prop} (hg : g[i]? = some (some x)) (h : seqOf O x = some xs) (k : ∀ ok : Om → Prop, (∀ O', seqOf O' x = some xs → ok O') → R xs ok O) : dSeqI (dVar i) g O R := by
  unfold dSeqI dVar
  rw [hg]
  cases x with
  | tup ys => cases h; exact k _ fun _ _ => True.intro
  | lst ys => cases h; exact k _ fun _ _ => True.intro
  | ref a =>
    have h : lstOf O (.ref a) = some xs := h
    rcases lstOf_cases h with z | ⟨b, z, e⟩
    · cases z
    · cases z
      show (match O a with | some (.lst xs) => R xs (fun O => O a = some (.lst xs)) O | _ => False)
      rw [e]
      refine k _ fun O' s => ?_
      have s : lstOf O' (.ref a) = some xs := s
      rcases lstOf_cases s with z | ⟨b, z, e⟩
      · cases z
      · cases z; exact e
  | _ => cases h
end Lw
set_option linter.all false
set_option maxRecDepth 100000
set_option maxHeartbeats 2000000
namespace Lw
open PySem PySem.Spec PyProof.Rows L2 DL
open Evl (Ex)
/-! ### comprehensions over typed rows, with and without a test; nothing owned is touched -/
theorem comp_typed {A : Type} {u : DG} {tt : DT} {te : DE} {ok : Om → Prop} {g : Gm} {R : List D → Om → Prop} {O : Om} {f : A → D} {as : List A} (p : A → Bool) (h : A → D) (hok : ok O) (hl : as.length < 16000000)
    (hs : ∀ a, a ∈ as → ∀ (N : List D → Om → Prop) (acc : List D), acc.length < sizeLine → (p a = true → N (acc ++ [h a]) O) → (p a = false → N acc O) → u (f a) g O fun g1 O1 => tt g1 O1 fun b O2 => if b = true then te g1 O2 fun y O3 => acc.length < sizeLine ∧ N (acc ++ [y]) O3 else N acc O2)
    (hd : R ((as.filter p).map h) O) : dComp u tt te ok g R (as.map f) [] O := by
  have key : ∀ (post pre : List A), as = pre ++ post → dComp u tt te ok g R (post.map f) ((pre.filter p).map h) O := by
    intro post
    induction post with
    | nil =>
      intro pre e
      rw [List.append_nil] at e
      subst e
      exact ⟨hok, hd⟩
    | cons a post ih =>
      intro pre e
      have hlen : ((pre.filter p).map h).length < sizeLine := by
        have h1 := congrArg List.length e
        have h2 := List.length_filter_le p pre
        rw [List.length_map, sizeLine_eq]
        simp at h1
        omega
      refine ⟨hok, hs a (by rw [e]; simp) _ _ hlen (fun z => ?_) fun z => ?_⟩
      · have := ih (pre ++ [a]) (by rw [e, List.append_assoc]; rfl)
        rw [List.filter_append, List.filter_cons_of_pos z, List.filter_nil, List.map_append] at this
        exact this
      · have := ih (pre ++ [a]) (by rw [e, List.append_assoc]; rfl)
        rw [List.filter_append, List.filter_cons_of_neg (by rw [z]; decide), List.filter_nil, List.append_nil] at this
        exact this
  exact key as [] rfl
theorem comp_all {A : Type} {u : DG} {tt : DT} {te : DE} {ok : Om → Prop} {g : Gm} {R : List D → Om → Prop} {O : Om} {f : A → D} {as : List A} (h : A → D) (hok : ok O) (hl : as.length < 16000000)
    (hs : ∀ a, a ∈ as → ∀ (N : List D → Om → Prop) (acc : List D), acc.length < sizeLine → N (acc ++ [h a]) O → u (f a) g O fun g1 O1 => tt g1 O1 fun b O2 => if b = true then te g1 O2 fun y O3 => acc.length < sizeLine ∧ N (acc ++ [y]) O3 else N acc O2)
    (hd : R (as.map h) O) : dComp u tt te ok g R (as.map f) [] O :=
  comp_typed (fun _ => true) h hok hl (fun a ha N acc hacc k _ => hs a ha N acc hacc (k rfl)) (by rw [List.filter_eq_self.mpr (fun _ _ => rfl)]; exact hd)
theorem rgD_map {lo : Int} {n : Nat} : rgD lo n = (List.range n).map fun k => D.int (lo + (k : Nat)) := rfl
theorem rgD_zero {n : Nat} : rgD 0 n = (List.range n).map fun k => D.int (k : Nat) := by
  unfold rgD
  exact List.map_congr_left fun k _ => by rw [Int.zero_add]
theorem enD_map {A : Type} {f : A → D} {as : List A} : enD (as.map f) = (as.zipIdx).map fun p => D.tup [.int (p.2 : Nat), f p.1] := by
  unfold enD
  rw [List.zipIdx_map, List.map_map]
  rfl
/-! ### plain data -/
def Pl : Nat → D → Prop
  | 0, x => scal x = true
  | n + 1, x => scal x = true ∨ ∃ xs, (x = .tup xs ∨ x = .lst xs) ∧ xs.length ≤ 1000000 ∧ ∀ y ∈ xs, Pl n y
theorem Pl.same {O : Om} : ∀ {n : Nat} {x : D}, Pl n x → Sm O n x x
  | 0, x, h => ⟨rfl, h⟩
  | n + 1, x, h => by
    rcases h with h | ⟨xs, rfl | rfl, h1, h2⟩
    · exact .inl ⟨rfl, h⟩
    · exact .inr (.inr ⟨xs, xs, rfl, rfl, rfl, h1, fun i a b ha hb => by
        rw [ha] at hb; cases hb; exact Pl.same (h2 a (List.mem_of_getElem? ha))⟩)
    · exact .inr (.inl ⟨xs, xs, rfl, rfl, rfl, h1, fun i a b ha hb => by
        rw [ha] at hb; cases hb; exact Pl.same (h2 a (List.mem_of_getElem? ha))⟩)
theorem Pl.int {n : Nat} {i : Int} : Pl n (.int i) := by cases n; exact rfl; exact .inl rfl
theorem Pl.str {n : Nat} {i : Str} : Pl n (.str i) := by cases n; exact rfl; exact .inl rfl
theorem Pl.bl {n : Nat} {i : Bool} : Pl n (.bl i) := by cases n; exact rfl; exact .inl rfl
theorem Pl.non {n : Nat} : Pl n .non := by cases n; exact rfl; exact .inl rfl
theorem Pl.tup {n : Nat} {xs : List D} (h : ∀ y ∈ xs, Pl n y) (hl : xs.length ≤ 1000000) : Pl (n + 1) (.tup xs) := .inr ⟨xs, .inl rfl, hl, h⟩
theorem Pl.lst {n : Nat} {xs : List D} (h : ∀ y ∈ xs, Pl n y) (hl : xs.length ≤ 1000000) : Pl (n + 1) (.lst xs) := .inr ⟨xs, .inr rfl, hl, h⟩
theorem Pl.map {A : Type} {n : Nat} {f : A → D} {as : List A} (h : ∀ a ∈ as, Pl n (f a)) : ∀ y ∈ as.map f, Pl n y := fun y hy => by
  obtain ⟨a, ha, rfl⟩ := List.mem_map.mp hy
  exact h a ha
theorem same_pl {O : Om} {R : D → Om → Prop} {Z : XD} {x : D} {n : Nat} (h : Pl 9 x) (r : R (.bl true) O) : sp_law_same [x, x] O R Z := same_of h.same r
theorem Pl.mono : ∀ {n m : Nat} {x : D}, Pl n x → n ≤ m → Pl m x
  | 0, m, x, h, _ => by cases m; exact h; exact .inl h
  | n + 1, m + 1, x, h, hm => by
    rcases h with h | ⟨xs, h0, h1, h2⟩
    · exact .inl h
    · exact .inr ⟨xs, h0, h1, fun y hy => (h2 y hy).mono (by omega)⟩
/-- an owned list and data -/
theorem Sm.ownL {O : Om} {n : Nat} {p : Addr} {xs : List D} (hp : O p = some (.lst xs)) (h : ∀ y ∈ xs, Pl n y) (hl : xs.length ≤ 1000000) : Sm O (n + 1) (.ref p) (.lst xs) :=
  .inr (.inl ⟨xs, xs, by simp only [lstOf, hp], rfl, rfl, hl, fun i a b ha hb => by
    rw [ha] at hb; cases hb; exact (h a (List.mem_of_getElem? ha)).same⟩)
theorem Sm.lOwn {O : Om} {n : Nat} {p : Addr} {xs : List D} (hp : O p = some (.lst xs)) (h : ∀ y ∈ xs, Pl n y) (hl : xs.length ≤ 1000000) : Sm O (n + 1) (.lst xs) (.ref p) :=
  .inr (.inl ⟨xs, xs, rfl, by simp only [lstOf, hp], rfl, hl, fun i a b ha hb => by
    rw [ha] at hb; cases hb; exact (h a (List.mem_of_getElem? ha)).same⟩)
/-! ### equality of data -/
theorem ne_lstI {O : Om} {R : D → Om → Prop} {ms : List Int} (r : R (.bl false) O) : dNe (.lst (ms.map D.int)) (.lst (ms.map D.int)) O R :=
  Seen.eqD (d := .list (ms.map PyData.int)) (SeenAll.lst (n := 0) (SeenAll.map fun _ _ => .int)) (SeenAll.lst (n := 0) (SeenAll.map fun _ _ => .int)) (by decide) (by decide) r
theorem eq_lstI {O : Om} {R : D → Om → Prop} {ms : List Int} (r : R (.bl true) O) : dEq (.lst (ms.map D.int)) (.lst (ms.map D.int)) O R :=
  Seen.eqD (d := .list (ms.map PyData.int)) (SeenAll.lst (n := 0) (SeenAll.map fun _ _ => .int)) (SeenAll.lst (n := 0) (SeenAll.map fun _ _ => .int)) (by decide) (by decide) r
theorem Seen.neL {O : Om} {R : D → Om → Prop} {xs : List D} {ds : List PyData} {n : Nat} (h : SeenAll O n xs ds) (hn : n < 64) (r : R (.bl false) O) : dNe (.lst xs) (.lst xs) O R :=
  Seen.eqD (SeenAll.lst h) (SeenAll.lst h) hn hn r
theorem Seen.eqL {O : Om} {R : D → Om → Prop} {xs : List D} {ds : List PyData} {n : Nat} (h : SeenAll O n xs ds) (hn : n < 64) (r : R (.bl true) O) : dEq (.lst xs) (.lst xs) O R :=
  Seen.eqD (SeenAll.lst h) (SeenAll.lst h) hn hn r
theorem Seen.neT {O : Om} {R : D → Om → Prop} {xs : List D} {ds : List PyData} {n : Nat} (h : SeenAll O n xs ds) (hn : n < 64) (r : R (.bl false) O) : dNe (.tup xs) (.tup xs) O R :=
  Seen.eqD (SeenAll.tup h) (SeenAll.tup h) hn hn r
theorem Seen.eqv {O : Om} {n m : Nat} {x y : D} {d e : PyData} {b : Bool} {R : D → Om → Prop} (h1 : Seen O n x d) (h2 : Seen O m y e) (k1 : n ≤ 64) (k2 : m ≤ 64) (r : R (.bl (PyData.eqv d e != b)) O) : dEqD b x y O R :=
  ⟨d, e, h1.1, h2.1, h1.ok k1, h2.ok k2, r⟩
/-- a row against the empty one -/
theorem eq_nilL {O : Om} {R : D → Om → Prop} {xs : List D} {ds : List PyData} {n : Nat} (h : SeenAll O n xs ds) (hn : n < 64) (r : R (.bl xs.isEmpty) O) : dEq (.lst xs) (.lst []) O R := by
  refine Seen.eqv (d := .list ds) (e := .list []) (SeenAll.lst h) (SeenAll.lst (n := 0) .nil) hn (by decide) ?_
  have e : PyData.eqv (.list ds) (.list []) = xs.isEmpty := by
    cases h.1 <;> rfl
  rw [e, Bool.bne_false]; exact r
theorem seqI_lst {i : Nat} {g : Gm} {O : Om} {xs : List D} {R : List D → (Om → Prop) → Om → Prop} (hg : g[i]? = some (some (.lst xs))) (k : R xs Tr O) : dSeqI (dVar i) g O R := by
  unfold dSeqI dVar
  rw [hg]
  exact k
theorem seqI_tup {i : Nat} {g : Gm} {O : Om} {xs : List D} {R : List D → (Om → Prop) → Om → Prop} (hg : g[i]? = some (some (.tup xs))) (k : R xs Tr O) : dSeqI (dVar i) g O R := by
  unfold dSeqI dVar
  rw [hg]
  exact k
/-- what was new is forgotten -/
theorem fin_new {O O' : Om} {R : D → Om → Prop} {x : D} (h : R x O) (s : Sb O O') : Fin R x O' := ⟨O, s, h⟩
theorem Sb.del {O O' : Om} {p : Addr} (s : Sb O O') (hp : O p = none) : Sb O (DL.del O' p) := fun a o e => by
  rw [DL.del_ne (some_ne_none hp e)]; exact s a o e
theorem Bst.del {b p : Addr} {O O' : Om} (h : Bst b O O') (h0 : Bag O b) (hp : O p = none) : Bst b O (DL.del O' p) := by
  obtain ⟨n1, n2⟩ := h0.free hp
  refine ⟨?_, fun a u hn e => ?_, ?_⟩
  · obtain ⟨c, cells, pos, rem, seed, cnt, h1, h2, h3⟩ := h.1
    refine ⟨c, cells, pos, rem, seed, cnt, by rw [DL.del_ne n1.symm]; exact h1, ?_, h3⟩
    rw [DL.del_ne (fun z => n2 (by rw [← h.cell, cell_of h1, z]))]
    exact h2
  · rw [DL.del_ne (some_ne_none hp e)]
    exact h.2 a u hn e
  · unfold cellOf
    rw [DL.del_ne n1.symm]
    exact h.cell
theorem Sb.up {O O' : Om} {p : Addr} {o : DO} (s : Sb O O') (hp : O p = none) : Sb O (DL.up O' p o) := fun a u e => by
  rw [up_ne (some_ne_none hp e)]; exact s a u e
theorem Sb.none {O O' : Om} {p : Addr} (s : Sb O O') (hp : O' p = Option.none) : O p = Option.none := by
  cases e : O p with
  | none => rfl
  | some o => rw [s p o e] at hp; cases hp
end Lw
set_option linter.all false
set_option maxRecDepth 100000
set_option maxHeartbeats 2000000
namespace Lw
open PySem PySem.Spec PyProof.Rows L2 DL
open Evl (Ex)
/-! ### the law's own parts -/
theorem pD_iff {p q : Pt} : pD p = pD q ↔ p = q := ⟨fun h => by
  unfold pD at h
  injection h with h
  injection h with h1 h2
  injection h2 with h2 h3
  injection h1 with h1
  injection h2 with h2
  exact Prod.ext h1 h2, fun h => by rw [h]⟩
theorem pDs {x y a b : Pt} : [pD x, pD y] = [pD a, pD b] ↔ x = a ∧ y = b := by
  rw [List.cons.injEq, List.cons.injEq, pD_iff, pD_iff]
  simp
section
variable {x y : Rat} {O : Om} {R : D → Om → Prop} {Z : XD}
theorem addP_rat : pD (addP (ptR x) (ptR y)) = pR (x + y) := by
  show pD (lowP (x.num * y.den + y.num * x.den) (x.den * y.den)) = _
  rw [lowP_rat (den2 x y)]
  show pR (Rat.divInt (x.num * y.den + y.num * x.den) (x.den * y.den)) = _
  rw [add_rat]
theorem ladd_eq : sp_law_add [pR x, pR y] O R Z = (Two x y ∧ R (pR (x + y)) O) := by
  refine propext ⟨?_, fun h => ⟨ptR x, ptR y, rfl, h.1.1, h.1.2.1, den_posI x, den_posI y, h.1.2.2, by rw [addP_rat]; exact h.2⟩⟩
  rintro ⟨p, q, e, h1, h2, h3, h4, h5, h6⟩
  obtain ⟨rfl, rfl⟩ := pDs.mp (show [pD (ptR x), pD (ptR y)] = [pD p, pD q] from e)
  rw [addP_rat] at h6
  exact ⟨⟨h1, h2, h5⟩, h6⟩
def t_law_sub : DS :=
  (dRet (dCall sp_law_low [.p 0, .p 1] [] (dCons (dOp dSub (dOp dMul (dOp dIx (dVar 0) (dC (.int 0))) (dOp dIx (dVar 1) (dC (.int 1)))) (dOp dMul (dOp dIx (dVar 1) (dC (.int 0))) (dOp dIx (dVar 0) (dC (.int 1))))) (dCons (dOp dMul (dOp dIx (dVar 0) (dC (.int 1))) (dOp dIx (dVar 1) (dC (.int 1)))) dNil)) dNil))
def n_law_sub : List Str := ["_law_p", "_law_q"]
def sp_law_sub : DSp := fun xs O R _ => ∃ x y : Rat, xs = [pR x, pR y] ∧ Two x y ∧ R (pR (x - y)) O
theorem d_law_sub : ∀ xs O R Z, sp_law_sub xs O R Z → t_law_sub (ends R) (startD n_law_sub xs) O := by
  rintro _ O R Z ⟨x, y, rfl, ⟨hx, hy, hd⟩, h⟩
  show t_law_sub (ends R) [some (pR x), some (pR y)] O
  simp only [dIfS, dAndT, dOrT, dNotT, dTest, dTruth, dTru, dAndV, dOrV, dNotV, dIf, dOp, dUn, dVar, dC, dI, dIc, dAdd, dSub, dMul, dFd, dMod, dPow, dNeg, dLt, dLe, dGt, dGe, dEq, dNe, dIsN, dNotN, DL.isNon, dIx, dSl, dPart, dNoPart, dCB, dLen, dAbs, dList, dTuple, dBls, dSum, dIsi, dIsi2, dtOf, isC, seqOf, lstOf, dCons, dNil, dTup, dLst, dRet, dRetN, dNext, dDrop, dAsg, gN, gsNil, gsCons, gT, gSubD, dSetL, dPar, dAug, dIpAdd, dIpSub, dCall, pick_nil, pick_p, pick_k, pick_d, dBreak, dCont, dLM, dLM0, isL, dAppend, dInsert, dPop, dPopAt, dRevL, dStr, dFmt, dJs, dMax2, dMin2, dSorted, dNewK, dctOf, dGetK, dHasK, DL.keyOf, dPutK, dDelK, dSortedD, dSet, dLstF, dRevF, dSlF, dListF, dSortedF, dSortedDF, dMaxF, dMinF, dInS, dLtA, dNewT, dGetT, dHasT, dctT, tkOf, keysOf, dTupP, dPutT, dPutP, putTk, pkOf, dSortedTF, dGet1, dGet2, dGet2T, dDisp1, dRep, dInt, dBits, dExtend, dReverse, dMaxDf, dCat, dCatF, dExtL, dDcT, Option.isSome_some, List.getElem?_cons_zero, List.getElem?_cons_succ, List.set_cons_zero, List.set_cons_succ, atI_0, atI_1, atI_2, atI_3, atI_4, atI_5, ixN_0, ixN_1, ixN_2, ixN_3, ixN_4, ixN_5, up_same, List.length_cons, List.length_nil, Bool.not_true, Bool.not_false, Bool.false_eq_true, if_true, if_false, reduceIte, dSeq, t_law_sub, pR, pD, ptR]
  refine ⟨hx.1.mok hy.2, hy.1.mok hx.2, hx.2.mok hy.2, _, _, rfl, den2 x y, hd, Fin.here ?_⟩
  rw [lowP_rat (den2 x y), sub_rat]
  exact h
def t_law_mul : DS :=
  (dRet (dCall sp_law_low [.p 0, .p 1] [] (dCons (dOp dMul (dOp dIx (dVar 0) (dC (.int 0))) (dOp dIx (dVar 1) (dC (.int 0)))) (dCons (dOp dMul (dOp dIx (dVar 0) (dC (.int 1))) (dOp dIx (dVar 1) (dC (.int 1)))) dNil)) dNil))
def n_law_mul : List Str := ["_law_p", "_law_q"]
def sp_law_mul : DSp := fun xs O R _ => ∃ x y : Rat, xs = [pR x, pR y] ∧ Two x y ∧ R (pR (x * y)) O
theorem d_law_mul : ∀ xs O R Z, sp_law_mul xs O R Z → t_law_mul (ends R) (startD n_law_mul xs) O := by
  rintro _ O R Z ⟨x, y, rfl, ⟨hx, hy, hd⟩, h⟩
  show t_law_mul (ends R) [some (pR x), some (pR y)] O
  simp only [dIfS, dAndT, dOrT, dNotT, dTest, dTruth, dTru, dAndV, dOrV, dNotV, dIf, dOp, dUn, dVar, dC, dI, dIc, dAdd, dSub, dMul, dFd, dMod, dPow, dNeg, dLt, dLe, dGt, dGe, dEq, dNe, dIsN, dNotN, DL.isNon, dIx, dSl, dPart, dNoPart, dCB, dLen, dAbs, dList, dTuple, dBls, dSum, dIsi, dIsi2, dtOf, isC, seqOf, lstOf, dCons, dNil, dTup, dLst, dRet, dRetN, dNext, dDrop, dAsg, gN, gsNil, gsCons, gT, gSubD, dSetL, dPar, dAug, dIpAdd, dIpSub, dCall, pick_nil, pick_p, pick_k, pick_d, dBreak, dCont, dLM, dLM0, isL, dAppend, dInsert, dPop, dPopAt, dRevL, dStr, dFmt, dJs, dMax2, dMin2, dSorted, dNewK, dctOf, dGetK, dHasK, DL.keyOf, dPutK, dDelK, dSortedD, dSet, dLstF, dRevF, dSlF, dListF, dSortedF, dSortedDF, dMaxF, dMinF, dInS, dLtA, dNewT, dGetT, dHasT, dctT, tkOf, keysOf, dTupP, dPutT, dPutP, putTk, pkOf, dSortedTF, dGet1, dGet2, dGet2T, dDisp1, dRep, dInt, dBits, dExtend, dReverse, dMaxDf, dCat, dCatF, dExtL, dDcT, Option.isSome_some, List.getElem?_cons_zero, List.getElem?_cons_succ, List.set_cons_zero, List.set_cons_succ, atI_0, atI_1, atI_2, atI_3, atI_4, atI_5, ixN_0, ixN_1, ixN_2, ixN_3, ixN_4, ixN_5, up_same, List.length_cons, List.length_nil, Bool.not_true, Bool.not_false, Bool.false_eq_true, if_true, if_false, reduceIte, dSeq, t_law_mul, pR, pD, ptR]
  refine ⟨hx.1.mok hy.1, hx.2.mok hy.2, _, _, rfl, den2 x y, hd, Fin.here ?_⟩
  rw [lowP_rat (den2 x y), mul_rat]
  exact h
theorem lsub_eq : sp_law_sub [pR x, pR y] O R Z = (Two x y ∧ R (pR (x - y)) O) := two_eq (f := fun a b => a - b)
theorem lmul_eq : sp_law_mul [pR x, pR y] O R Z = (Two x y ∧ R (pR (x * y)) O) := two_eq (f := fun a b => a * b)
theorem pR_int (n : Int) : D.tup [.int n, .int 1] = pR (n : Rat) := rfl
theorem divInt_one (n : Int) : Rat.divInt n 1 = (n : Rat) := by
  rw [Rat.divInt_eq_div]
  show (n : Rat) / ((1 : Int) : Rat) = n
  rw [Rat.intCast_one]
  grind
theorem pR_frac {g : Int} (h : 0 < g) : D.tup [.int 1, .int g] = pR (Rat.divInt 1 g) := by
  have l : Low ((1, g) : Pt) := ⟨h, by show Int.gcd 1 g = 1; simp⟩
  exact congrArg pD l.rat
theorem Bz.int {n : Int} {m : Nat} (h : n.natAbs < 2 ^ m) (hm : 0 < m) : Bz m (n : Rat) := ⟨h, by
  have : 2 ^ 1 ≤ 2 ^ m := Nat.pow_le_pow_right (by decide) hm
  show 1 < 2 ^ m
  omega⟩
end
/-! ### energy -/
abbrev Coil := Int × Int
def cD (c : Coil) : D := .tup [.int c.1, .int c.2]
def CoilOk (c : Coil) : Prop := 0 ≤ c.1 ∧ c.1 < 100 ∧ 1 ≤ c.2 ∧ c.2 ≤ 9
def offR (cs : List Coil) (ps : List Rat) (i : Nat) : Rat := ps.getD (i + 1) 0 - ps.getD i 0 - (((cs.getD i (0, 1)).1 : Int) : Rat)
def tmR (cs : List Coil) (ps : List Rat) (i : Nat) : Rat := offR cs ps i * offR cs ps i / (((cs.getD i (0, 1)).2 : Int) : Rat)
def esR (cs : List Coil) (ps : List Rat) : Nat → Rat
  | 0 => 0
  | n + 1 => esR cs ps n + tmR cs ps n
structure Eng (O : Om) (a b : D) (cs : List Coil) (ps : List Rat) : Prop where
  sa : lstOf O a = some (cs.map cD)
  sb : seqOf O b = some (ps.map pR)
  len : ps.length = cs.length + 1
  most : cs.length ≤ 30
  ok : ∀ c ∈ cs, CoilOk c
  bz : ∀ p ∈ ps, Bz 20 p
theorem Eng.bOff {O : Om} {a b : D} {cs : List Coil} {ps : List Rat} (E : Eng O a b cs ps) {i : Nat} (h : i < cs.length) : Bz 20 (ps.getD (i + 1) 0) ∧ Bz 20 (ps.getD i 0) ∧ CoilOk (cs.getD i (0, 1)) ∧ Bz 49 (offR cs ps i) ∧ Bz 102 (tmR cs ps i) := by
  have h1 := E.bz _ (getD_mem (d := 0) (show i + 1 < ps.length by rw [E.len]; omega))
  have h2 := E.bz _ (getD_mem (d := 0) (show i < ps.length by rw [E.len]; omega))
  have h3 := E.ok _ (getD_mem (d := ((0, 1) : Coil)) h)
  have h4 : Bz 49 (offR cs ps i) := ((h1.sub h2).sub (Bz.int (m := 7) (by have := h3.1; have := h3.2.1; omega) (by decide))).mono (by decide)
  refine ⟨h1, h2, h3, h4, ?_⟩
  exact ((h4.mul h4).div (Bz.int (m := 4) (by have := h3.2.2.1; have := h3.2.2.2; omega) (by decide))).mono (by decide)
theorem Eng.bSum {O : Om} {a b : D} {cs : List Coil} {ps : List Rat} (E : Eng O a b cs ps) : ∀ {i : Nat}, i ≤ cs.length → Bz (1 + i * 103) (esR cs ps i)
  | 0, _ => Bz.zero (by decide)
  | i + 1, h => ((E.bSum (i := i) (by omega)).add (E.bOff (i := i) (by omega)).2.2.2.2).mono (by omega)
theorem coil_ne {c : Coil} (h : CoilOk c) : ((c.2 : Int) : Rat) ≠ 0 := by
  intro e
  have e2 : (c.2 : Rat) = ((0 : Int) : Rat) := e
  rw [Rat.intCast_inj] at e2
  have := h.2.2.1
  omega
theorem frac_eq {g : Int} (h : 0 < g) (x : Rat) : x * Rat.divInt 1 g = x / (g : Rat) := by
  rw [Rat.divInt_eq_div, Rat.intCast_one]
  grind
def t_law_work : DS :=
  (dSeq (dSet 2 (dTup (dCons (dC (.int 0)) (dCons (dC (.int 1)) dNil))))
  (dSeq (dFor (dRng1 (dCons (dCB dLen (dCons (dVar 0) dNil)) dNil)) (gN 3) (dSeq (dSet 4 (dCall sp_law_sub [.p 0, .p 1] [] (dCons (dCall sp_law_sub [.p 0, .p 1] [] (dCons (dOp dIx (dVar 1) (dOp dAdd (dVar 3) (dC (.int 1)))) (dCons (dOp dIx (dVar 1) (dVar 3)) dNil)) dNil) (dCons (dTup (dCons (dOp dIx (dOp dIx (dVar 0) (dVar 3)) (dC (.int 0))) (dCons (dC (.int 1)) dNil))) dNil)) dNil))
  (dSet 2 (dCall sp_law_add [.p 0, .p 1] [] (dCons (dVar 2) (dCons (dCall sp_law_mul [.p 0, .p 1] [] (dCons (dCall sp_law_mul [.p 0, .p 1] [] (dCons (dVar 4) (dCons (dVar 4) dNil)) dNil) (dCons (dTup (dCons (dC (.int 1)) (dCons (dOp dIx (dOp dIx (dVar 0) (dVar 3)) (dC (.int 1))) dNil))) dNil)) dNil) dNil)) dNil))))
  (dRet (dVar 2))))
def n_law_work : List Str := ["_law_coils_here", "_law_spots", "_law_found", "_law_k", "_law_off"]
def sp_law_work : DSp := fun xs O R _ => ∃ (a b : D) (cs : List Coil) (ps : List Rat), xs = [a, b] ∧ Eng O a b cs ps ∧ R (pR (esR cs ps cs.length)) O
theorem d_law_work : ∀ xs O R Z, sp_law_work xs O R Z → t_law_work (ends R) (startD n_law_work xs) O := by
  rintro _ O R Z ⟨a, b, cs, ps, rfl, E, k⟩
  show t_law_work (ends R) [some a, some b, none, none, none] O
  have sa := lst_seq E.sa
  unfold t_law_work
  refine seq1 fun N hN => ?_; simp only [dIfS, dAndT, dOrT, dNotT, dTest, dTruth, dTru, dAndV, dOrV, dNotV, dIf, dOp, dUn, dVar, dC, dI, dIc, dAdd, dSub, dMul, dFd, dMod, dPow, dNeg, dLt, dLe, dGt, dGe, dIsN, dNotN, DL.isNon, ix_pR0, ix_pR1, ix_tup, ix_lst, ix_ref, dSl, dPart, dNoPart, dCB, len_tup, len_lst, len_ref, dAbs, dList, dTuple, dBls, dSum, dIsi, dIsi2, dtOf, isC, seqOf, lstOf, dCons, dNil, dTup, dLst, dRet, dRetN, dNext, dDrop, dAsg, gN, gsNil, gsCons, gT, gSubD, dSetL, dPar, dAug, dIpAdd, dIpSub, dCall, eq_int, eq_str, eq_bl, ne_int, ne_str, ne_bl, eq_pR, ne_pR, plus_eq, less_eq, times_eq, over_eq, floor_eq, ceil_eq, part_eq, below_eq, seq_pR, pick_nil, pick_p, pick_k, pick_d, dBreak, dCont, dLM, dLM0, isL, dAppend, dInsert, dPop, dPopAt, dRevL, dStr, dFmt, dJs, dMax2, dMin2, dSorted, dNewK, dctOf, dGetK, dHasK, DL.keyOf, dPutK, dDelK, dSortedD, dSet, dLstF, dRevF, dSlF, dListF, dSortedF, dSortedDF, dMaxF, dMinF, dInS, dLtA, dNewT, dGetT, dHasT, dctT, tkOf, keysOf, dTupP, dPutT, dPutP, putTk, pkOf, dSortedTF, dGet1, dGet2, dGet2T, dDisp1, dRep, dInt, dBits, dExtend, dReverse, dMaxDf, dCat, dCatF, dExtL, dDcT, Option.isSome_some, List.getElem?_cons_zero, List.getElem?_cons_succ, List.set_cons_zero, List.set_cons_succ, atI_0, atI_1, atI_2, atI_3, atI_4, atI_5, ixN_0, ixN_1, ixN_2, ixN_3, ixN_4, ixN_5, up_same, List.length_cons, List.length_nil, Bool.not_true, Bool.not_false, Bool.false_eq_true, if_true, if_false, reduceIte, dSet]
  subst hN
  refine seq_by (fun g O' => O' = O ∧ ∃ z w, g = [some a, some b, some (pR (esR cs ps cs.length)), z, w]) (fun N hN => ?_) ?_
  · simp only [dIfS, dAndT, dOrT, dNotT, dTest, dTruth, dTru, dAndV, dOrV, dNotV, dIf, dOp, dUn, dVar, dC, dI, dIc, dAdd, dSub, dMul, dFd, dMod, dPow, dNeg, dLt, dLe, dGt, dGe, dIsN, dNotN, DL.isNon, ix_pR0, ix_pR1, ix_tup, ix_lst, ix_ref, dSl, dPart, dNoPart, dCB, len_tup, len_lst, len_ref, dAbs, dList, dTuple, dBls, dSum, dIsi, dIsi2, dtOf, isC, seqOf, lstOf, dCons, dNil, dTup, dLst, dRet, dRetN, dNext, dDrop, dAsg, gN, gsNil, gsCons, gT, gSubD, dSetL, dPar, dAug, dIpAdd, dIpSub, dCall, eq_int, eq_str, eq_bl, ne_int, ne_str, ne_bl, eq_pR, ne_pR, plus_eq, less_eq, times_eq, over_eq, floor_eq, ceil_eq, part_eq, below_eq, seq_pR, pick_nil, pick_p, pick_k, pick_d, dBreak, dCont, dLM, dLM0, isL, dAppend, dInsert, dPop, dPopAt, dRevL, dStr, dFmt, dJs, dMax2, dMin2, dSorted, dNewK, dctOf, dGetK, dHasK, DL.keyOf, dPutK, dDelK, dSortedD, dSet, dLstF, dRevF, dSlF, dListF, dSortedF, dSortedDF, dMaxF, dMinF, dInS, dLtA, dNewT, dGetT, dHasT, dctT, tkOf, keysOf, dTupP, dPutT, dPutP, putTk, pkOf, dSortedTF, dGet1, dGet2, dGet2T, dDisp1, dRep, dInt, dBits, dExtend, dReverse, dMaxDf, dCat, dCatF, dExtL, dDcT, Option.isSome_some, List.getElem?_cons_zero, List.getElem?_cons_succ, List.set_cons_zero, List.set_cons_succ, atI_0, atI_1, atI_2, atI_3, atI_4, atI_5, ixN_0, ixN_1, ixN_2, ixN_3, ixN_4, ixN_5, up_same, List.length_cons, List.length_nil, Bool.not_true, Bool.not_false, Bool.false_eq_true, if_true, if_false, reduceIte, dFor, dRng1, dRng2, dRng3, dSeqI, dEnum, dEnumA, dZip, dLc, dLcF, wipeD, len_eq sa, List.length_map]
    refine ⟨by omega, by have := E.most; omega, ?_⟩
    rw [Int.toNat_natCast]
    refine loop_ix (fun i g O' => O' = O ∧ i ≤ cs.length ∧ ∃ z w, g = [some a, some b, some (pR (esR cs ps i)), z, w]) ⟨rfl, Nat.zero_le _, _, _, rfl⟩ (fun _ _ _ _ => True.intro) ?_ ?_
    · rintro i x _ O' M hx ⟨rfl, hi, z, w, rfl⟩ hM
      obtain ⟨hi, rfl⟩ := rgD_get' hx
      obtain ⟨b1, b2, hc, b3, b4⟩ := E.bOff hi
      have c1 := ix_eq (R := fun w O => True) sa (atI_map (f := cD) (d := ((0, 1) : Coil)) hi)
      have hps : i + 1 < ps.length := by rw [E.len]; omega
      have ea : atI (cs.map cD) (i : Int) = some (cD (cs.getD i (0, 1))) := atI_map hi
      have eb : atI (ps.map pR) (i : Int) = some (pR (ps.getD i 0)) := atI_map (by omega)
      have ec : atI (ps.map pR) ((i : Int) + 1) = some (pR (ps.getD (i + 1) 0)) := atI_map (i := i + 1) hps
      have t1 : Two (ps.getD (i + 1) 0) (ps.getD i 0) := Two.of b1 b2
      have t2 : Two (ps.getD (i + 1) 0 - ps.getD i 0) (((cs.getD i (0, 1)).1 : Int) : Rat) := Two.of (b1.sub b2) (Bz.int (m := 7) (by have := hc.1; have := hc.2.1; omega) (by decide))
      simp only [gN, List.set_cons_succ, List.set_cons_zero]
      refine seq1 fun N hN => ?_; simp only [dIfS, dAndT, dOrT, dNotT, dTest, dTruth, dTru, dAndV, dOrV, dNotV, dIf, dOp, dUn, dVar, dC, dI, dIc, dAdd, dSub, dMul, dFd, dMod, dPow, dNeg, dLt, dLe, dGt, dGe, dIsN, dNotN, DL.isNon, ix_pR0, ix_pR1, ix_tup, ix_lst, ix_ref, dSl, dPart, dNoPart, dCB, len_tup, len_lst, len_ref, dAbs, dList, dTuple, dBls, dSum, dIsi, dIsi2, dtOf, isC, seqOf, lstOf, dCons, dNil, dTup, dLst, dRet, dRetN, dNext, dDrop, dAsg, gN, gsNil, gsCons, gT, gSubD, dSetL, dPar, dAug, dIpAdd, dIpSub, dCall, eq_int, eq_str, eq_bl, ne_int, ne_str, ne_bl, eq_pR, ne_pR, plus_eq, less_eq, times_eq, over_eq, floor_eq, ceil_eq, part_eq, below_eq, seq_pR, pick_nil, pick_p, pick_k, pick_d, dBreak, dCont, dLM, dLM0, isL, dAppend, dInsert, dPop, dPopAt, dRevL, dStr, dFmt, dJs, dMax2, dMin2, dSorted, dNewK, dctOf, dGetK, dHasK, DL.keyOf, dPutK, dDelK, dSortedD, dSet, dLstF, dRevF, dSlF, dListF, dSortedF, dSortedDF, dMaxF, dMinF, dInS, dLtA, dNewT, dGetT, dHasT, dctT, tkOf, keysOf, dTupP, dPutT, dPutP, putTk, pkOf, dSortedTF, dGet1, dGet2, dGet2T, dDisp1, dRep, dInt, dBits, dExtend, dReverse, dMaxDf, dCat, dCatF, dExtL, dDcT, Option.isSome_some, List.getElem?_cons_zero, List.getElem?_cons_succ, List.set_cons_zero, List.set_cons_succ, atI_0, atI_1, atI_2, atI_3, atI_4, atI_5, ixN_0, ixN_1, ixN_2, ixN_3, ixN_4, ixN_5, up_same, List.length_cons, List.length_nil, Bool.not_true, Bool.not_false, Bool.false_eq_true, if_true, if_false, reduceIte, dSet, ix_eq sa ea, ix_eq E.sb eb, ix_eq E.sb ec, cD, lsub_eq, t1, t2, true_and, pR_int]
      subst hN
      have g0 : 0 < (cs.getD i (0, 1)).2 := by have := hc.2.2.1; omega
      have bg : Bz 4 (Rat.divInt 1 (cs.getD i (0, 1)).2) := Bz.divInt g0 (by decide) (by have := hc.2.2.2; omega)
      have t3 : Two (offR cs ps i) (offR cs ps i) := Two.of b3 b3
      have t4 : Two (offR cs ps i * offR cs ps i) (Rat.divInt 1 (cs.getD i (0, 1)).2) := Two.of (b3.mul b3) bg
      have t5 : Two (esR cs ps i) (tmR cs ps i) := Two.of (E.bSum (i := i) (by omega)) b4 (by have := E.most; omega)
      have eo : ps.getD (i + 1) 0 - ps.getD i 0 - (((cs.getD i (0, 1)).1 : Int) : Rat) = offR cs ps i := rfl
      have et : offR cs ps i * offR cs ps i / (((cs.getD i (0, 1)).2 : Int) : Rat) = tmR cs ps i := rfl
      rw [eo]
      simp only [dIfS, dAndT, dOrT, dNotT, dTest, dTruth, dTru, dAndV, dOrV, dNotV, dIf, dOp, dUn, dVar, dC, dI, dIc, dAdd, dSub, dMul, dFd, dMod, dPow, dNeg, dLt, dLe, dGt, dGe, dIsN, dNotN, DL.isNon, ix_pR0, ix_pR1, ix_tup, ix_lst, ix_ref, dSl, dPart, dNoPart, dCB, len_tup, len_lst, len_ref, dAbs, dList, dTuple, dBls, dSum, dIsi, dIsi2, dtOf, isC, seqOf, lstOf, dCons, dNil, dTup, dLst, dRet, dRetN, dNext, dDrop, dAsg, gN, gsNil, gsCons, gT, gSubD, dSetL, dPar, dAug, dIpAdd, dIpSub, dCall, eq_int, eq_str, eq_bl, ne_int, ne_str, ne_bl, eq_pR, ne_pR, plus_eq, less_eq, times_eq, over_eq, floor_eq, ceil_eq, part_eq, below_eq, seq_pR, pick_nil, pick_p, pick_k, pick_d, dBreak, dCont, dLM, dLM0, isL, dAppend, dInsert, dPop, dPopAt, dRevL, dStr, dFmt, dJs, dMax2, dMin2, dSorted, dNewK, dctOf, dGetK, dHasK, DL.keyOf, dPutK, dDelK, dSortedD, dSet, dLstF, dRevF, dSlF, dListF, dSortedF, dSortedDF, dMaxF, dMinF, dInS, dLtA, dNewT, dGetT, dHasT, dctT, tkOf, keysOf, dTupP, dPutT, dPutP, putTk, pkOf, dSortedTF, dGet1, dGet2, dGet2T, dDisp1, dRep, dInt, dBits, dExtend, dReverse, dMaxDf, dCat, dCatF, dExtL, dDcT, Option.isSome_some, List.getElem?_cons_zero, List.getElem?_cons_succ, List.set_cons_zero, List.set_cons_succ, atI_0, atI_1, atI_2, atI_3, atI_4, atI_5, ixN_0, ixN_1, ixN_2, ixN_3, ixN_4, ixN_5, up_same, List.length_cons, List.length_nil, Bool.not_true, Bool.not_false, Bool.false_eq_true, if_true, if_false, reduceIte, dSet, ix_eq sa ea, cD, lmul_eq, ladd_eq, pR_frac g0, t3, t4, true_and, frac_eq g0, et, t5]
      exact hM _ _ ⟨rfl, hi, _, _, rfl⟩
    · rintro _ _ ⟨rfl, hi, z, w, rfl⟩
      rw [rgD_len]
      exact hN _ _ ⟨rfl, z, w, rfl⟩
  · rintro _ _ ⟨rfl, z, w, rfl⟩
    simp only [dIfS, dAndT, dOrT, dNotT, dTest, dTruth, dTru, dAndV, dOrV, dNotV, dIf, dOp, dUn, dVar, dC, dI, dIc, dAdd, dSub, dMul, dFd, dMod, dPow, dNeg, dLt, dLe, dGt, dGe, dEq, dNe, dIsN, dNotN, DL.isNon, dIx, dSl, dPart, dNoPart, dCB, dLen, dAbs, dList, dTuple, dBls, dSum, dIsi, dIsi2, dtOf, isC, seqOf, lstOf, dCons, dNil, dTup, dLst, dRet, dRetN, dNext, dDrop, dAsg, gN, gsNil, gsCons, gT, gSubD, dSetL, dPar, dAug, dIpAdd, dIpSub, dCall, pick_nil, pick_p, pick_k, pick_d, dBreak, dCont, dLM, dLM0, isL, dAppend, dInsert, dPop, dPopAt, dRevL, dStr, dFmt, dJs, dMax2, dMin2, dSorted, dNewK, dctOf, dGetK, dHasK, DL.keyOf, dPutK, dDelK, dSortedD, dSet, dLstF, dRevF, dSlF, dListF, dSortedF, dSortedDF, dMaxF, dMinF, dInS, dLtA, dNewT, dGetT, dHasT, dctT, tkOf, keysOf, dTupP, dPutT, dPutP, putTk, pkOf, dSortedTF, dGet1, dGet2, dGet2T, dDisp1, dRep, dInt, dBits, dExtend, dReverse, dMaxDf, dCat, dCatF, dExtL, dDcT, Option.isSome_some, List.getElem?_cons_zero, List.getElem?_cons_succ, List.set_cons_zero, List.set_cons_succ, atI_0, atI_1, atI_2, atI_3, atI_4, atI_5, ixN_0, ixN_1, ixN_2, ixN_3, ixN_4, ixN_5, up_same, List.length_cons, List.length_nil, Bool.not_true, Bool.not_false, Bool.false_eq_true, if_true, if_false, reduceIte]
    exact Fin.here k
end Lw
set_option linter.all false
set_option maxRecDepth 100000
set_option maxHeartbeats 1000000
namespace Lw
open PySem PySem.Spec PyProof.Rows L2 DL
open Evl (Ex)
theorem forC {n : Int} {u : DG} {tb : DS} {F : DEnds} {g : Gm} {O : Om} (h1 : -2 ^ 62 ≤ n) (h2 : n < 2 ^ 62) (h : dLoop u tb Tr F (rgD 0 n.toNat) g O) : dFor (dRng1 (dCons (dC (.int n)) dNil)) u tb F g O := ⟨h1, h2, h⟩
theorem for1 {te : DE} {u : DG} {tb : DS} {F : DEnds} {g : Gm} {O : Om} {j : Int} (h : ∀ R : D → Om → Prop, R (.int j) O → te g O R) (h1 : -2 ^ 62 ≤ j) (h2 : j < 2 ^ 62) (k : dLoop u tb Tr F (rgD 0 j.toNat) g O) : dFor (dRng1 (dCons te dNil)) u tb F g O := h _ ⟨h1, h2, k⟩
theorem for2 {ta tc : DE} {u : DG} {tb : DS} {F : DEnds} {g : Gm} {O : Om} {i j : Int} (h : ∀ R : D → Om → Prop, R (.int i) O → ta g O R) (h' : ∀ R : D → Om → Prop, R (.int j) O → tc g O R) (h1 : -2 ^ 62 ≤ i) (h2 : i < 2 ^ 62) (h3 : -2 ^ 62 ≤ j) (h4 : j < 2 ^ 62) (k : dLoop u tb Tr F (rgD i (j - i).toNat) g O) : dFor (dRng2 (dCons ta (dCons tc dNil))) u tb F g O := h _ (h' _ ⟨⟨h1, h2, h3, h4⟩, k⟩)
theorem comp_draw {A : Type} {f : A → D} (P : A → Prop) {u : DG} {tt : DT} {te : DE} {ok : Om → Prop} {g : Gm} {R : List D → Om → Prop} {xs : List D} {O O0 : Om} {b : Addr} (s0 : Bst b O0 O) (hok : ∀ O, ok O) (hl : xs.length ≤ 1000000)
    (hs : ∀ x acc O2 (N : List D → Om → Prop), x ∈ xs → acc.length < sizeLine → Bst b O0 O2 → (∀ a O3, P a → Bst b O2 O3 → N (acc ++ [f a]) O3) → u x g O2 fun g1 O1 => tt g1 O1 fun c O2 => if c = true then te g1 O2 fun y O3 => acc.length < sizeLine ∧ N (acc ++ [y]) O3 else N acc O2)
    (hd : ∀ (as : List A) O2, as.length = xs.length → (∀ a ∈ as, P a) → Bst b O0 O2 → R (as.map f) O2) : dComp u tt te ok g R xs [] O := by
  refine comp_ix (fun i acc O' => ∃ as : List A, acc = as.map f ∧ as.length = i ∧ (∀ a ∈ as, P a) ∧ Bst b O0 O' ∧ i ≤ xs.length) ⟨[], rfl, rfl, fun m h => by simp at h, s0, by omega⟩ (fun _ _ O _ => hok O) ?_ ?_
  · rintro i x _ O2 N hx ⟨as, rfl, hl', hg, s2, hi⟩ hN
    have hi' := (List.getElem?_eq_some_iff.mp hx).1
    refine hs x _ O2 N (List.mem_of_getElem? hx) (by rw [List.length_map, sizeLine_eq]; omega) s2 fun a O3 ha s3 => hN _ _ ⟨as ++ [a], by rw [List.map_append]; rfl, by rw [List.length_append]; show as.length + 1 = _; omega, fun z hz => ?_, s2.trans s3, by omega⟩
    rcases List.mem_append.mp hz with hz | hz
    · exact hg z hz
    · rw [List.mem_singleton.mp hz]; exact ha
  · rintro _ O2 ⟨as, rfl, hl', hg, s2, hi⟩
    exact hd as O2 hl' hg s2
theorem Bst.none {b p : Addr} {O O' : Om} (h : Bst b O O') (hp : O' p = Option.none) : O p = Option.none := by
  cases e : O p with
  | none => rfl
  | some o =>
    by_cases hb : p = b
    · subst hb
      obtain ⟨c, _, _, _, _, _, _, e1, _⟩ := h.1.cell
      rw [e1] at hp; cases hp
    · rw [h.2 p o hb e] at hp; cases hp
theorem Bst.own {b p : Addr} {O O' : Om} {o : DO} (h : Bst b (DL.up O p o) O') (h0 : Bag O b) (hp : O p = Option.none) : O' p = some o := h.2 p o (h0.free hp).1 up_same
theorem ne_refnil {O : Om} {R : D → Om → Prop} {p : Addr} {xs : List D} {ds : List PyData} {n : Nat} (hp : O p = some (.lst xs)) (h : SeenAll O n xs ds) (hn : n < 64) (r : R (.bl (!xs.isEmpty)) O) : dNe (.ref p) (.lst []) O R := by
  refine Seen.eqv (n := n + 1) (m := 1) (h.ref hp) (SeenAll.lst .nil) hn (by decide) ?_
  have e : PyData.eqv (.list ds) (.list []) = xs.isEmpty := by
    obtain ⟨hv, _, _⟩ := h
    cases hv <;> rfl
  rw [e]
  cases h2 : xs.isEmpty <;> rw [h2] at r <;> exact r
theorem comp2_len {A : Type} {u u1 : DG} {tt tt1 : DT} {it1 : DI} {te : DE} {vs1 : List Nat} {ok : Om → Prop} {g : Gm} {R : List D → Om → Prop} {O : Om} {f : A → D} {as : List A} (inn : A → List D) (hok : ok O)
    (hs : ∀ a, a ∈ as → ∀ (N : List D → Om → Prop) (acc : List D), acc.length + (inn a).length ≤ (as.flatMap inn).length → N (acc ++ inn a) O → u (f a) g O fun g1 O1 => tt g1 O1 fun b O2 => if b = true then it1 g1 O2 fun ys ok1 O3 => dComp u1 tt1 te ok1 (wipeD g1 vs1) N ys acc O3 else N acc O2)
    (hd : R (as.flatMap inn) O) : dComp2 u tt it1 u1 tt1 te vs1 ok g R (as.map f) [] O := by
  have key : ∀ (post pre : List A), as = pre ++ post → dComp2 u tt it1 u1 tt1 te vs1 ok g R (post.map f) (pre.flatMap inn) O := by
    intro post
    induction post with
    | nil =>
      intro pre e
      rw [List.append_nil] at e
      subst e
      exact ⟨hok, hd⟩
    | cons a post ih =>
      intro pre e
      refine ⟨hok, hs a (by rw [e]; simp) (fun acc' O4 => dComp2 u tt it1 u1 tt1 te vs1 ok g R (post.map f) acc' O4) _ ?_ ?_⟩
      · rw [e, List.flatMap_append, List.flatMap_cons, List.length_append, List.length_append]
        omega
      · have := ih (pre ++ [a]) (by rw [e, List.append_assoc]; rfl)
        rw [List.flatMap_append, List.flatMap_cons, List.flatMap_nil, List.append_nil] at this
        exact this
  exact key as [] rfl
theorem mxI_uniq {ns : List Int} {m : Int} (h1 : m ∈ ns) (h2 : ∀ y ∈ ns, y ≤ m) : mxI ns = m := by
  have := le_mxI h1
  have := h2 _ (mxI_mem (xs := ns) (fun z => by rw [z] at h1; simp at h1))
  omega
theorem mnI_uniq {ns : List Int} {m : Int} (h1 : m ∈ ns) (h2 : ∀ y ∈ ns, m ≤ y) : mnI ns = m := by
  have := mnI_le h1
  have := h2 _ (mnI_mem (xs := ns) (fun z => by rw [z] at h1; simp at h1))
  omega
theorem inD_int (i : Int) (ns : List Int) : inD (.int i) (ns.map D.int) = decide (i ∈ ns) := by
  unfold inD
  rw [List.any_map, Bool.eq_iff_iff, List.any_eq_true, decide_eq_true_eq]
  constructor
  · rintro ⟨x, hx, h⟩
    have : decide (x = i) = true := h
    rw [← of_decide_eq_true this]; exact hx
  · intro h
    exact ⟨i, h, by show decide (i = i) = true; simp⟩
theorem flD_ints (ns : List Int) : (ns.map D.int).all flD = true := by
  rw [List.all_map, List.all_eq_true]
  intro x _
  rfl
theorem ne_anil {O : Om} {R : D → Om → Prop} {x : D} {xs : List D} {ds : List PyData} {n : Nat} (hx : lstOf O x = some xs) (h : SeenAll O n xs ds) (hn : n < 64) (r : R (.bl (!xs.isEmpty)) O) : dNe x (.lst []) O R := by
  rcases lstOf_cases hx with rfl | ⟨a, rfl, ha⟩
  · refine Seen.eqv (d := .list ds) (e := .list []) (SeenAll.lst h) (SeenAll.lst (n := 0) .nil) hn (by decide) ?_
    have e : PyData.eqv (.list ds) (.list []) = xs.isEmpty := by cases h.1 <;> rfl
    rw [e]
    cases h2 : xs.isEmpty <;> rw [h2] at r <;> exact r
  · exact ne_refnil ha h hn r
end Lw
set_option linter.all false
set_option maxRecDepth 100000
set_option maxHeartbeats 1000000
namespace Lw
open PySem PySem.Spec PyProof.Rows L2 DL
open Evl (Ex)
structure Bx where
  l : Rat
  r : Rat
  lo : Int
  hi : Int
def bxR (b : Bx) : D := .tup [pR b.l, pR b.r, .int b.lo, .int b.hi]
structure GBx (b : Bx) : Prop where
  l : Bz 30 b.l
  r : Bz 30 b.r
  lt : b.l < b.r
  lo : -50 ≤ b.lo
  lh : b.lo ≤ b.hi
  hi : b.hi ≤ 30
def mt (a b : Bx) : Bool := decide (a.l < b.r) && decide (b.l < a.r)
theorem GBx.sl {b : Bx} (h : GBx b) : SmP (ptR b.l) := h.l.sm (by decide) (by decide)
theorem GBx.sr {b : Bx} (h : GBx b) : SmP (ptR b.r) := h.r.sm (by decide) (by decide)
theorem meet_rat (a b : Bx) : meetP (ptR a.l) (ptR a.r) (ptR b.l) (ptR b.r) = mt a b := by unfold meetP mt; rw [lt_rat, lt_rat]
theorem over_of {a b : Bx} {O : Om} {R : D → Om → Prop} {Z : XD} (ha : GBx a) (hb : GBx b) (r : R (.bl (mt a b)) O) : sp_over_v1 [bxR a, bxR b] O R Z :=
  ⟨ptR a.l, ptR a.r, ptR b.l, ptR b.r, _, _, rfl, ha.sl, ha.sr, hb.sl, hb.sr, by rw [meet_rat]; exact r⟩
theorem meet_of {a b : Bx} {O : Om} {R : D → Om → Prop} {Z : XD} (ha : GBx a) (hb : GBx b) (r : R (.bl (mt a b)) O) : sp_law_meet [bxR a, bxR b] O R Z :=
  ⟨ptR a.l, ptR a.r, ptR b.l, ptR b.r, _, _, rfl, ha.sl, ha.sr, hb.sl, hb.sr, by rw [meet_rat]; exact r⟩
def bxP (b : Bx) : PyData := .tuple [.tuple [.int b.l.num, .int b.l.den], .tuple [.int b.r.num, .int b.r.den], .int b.lo, .int b.hi]
theorem seen_bx {O : Om} {n : Nat} (b : Bx) : Seen O (n + 2) (bxR b) (bxP b) := (SeenAll.tup (n := 1) (.cons Seen.pR (.cons Seen.pR (.cons .int (.cons .int .nil))))).mono (by omega)
theorem seen_bxs {O : Om} {n : Nat} (bs : List Bx) : SeenAll O (n + 2) (bs.map bxR) (bs.map bxP) := SeenAll.map fun b _ => seen_bx b
theorem pl_bx {n : Nat} (b : Bx) : Pl (n + 2) (bxR b) := Pl.tup (fun y hy => by
  simp only [List.mem_cons, List.not_mem_nil, or_false] at hy
  rcases hy with rfl | rfl | rfl | rfl
  · exact Pl.tup (fun y hy => by simp only [List.mem_cons, List.not_mem_nil, or_false] at hy; rcases hy with rfl | rfl <;> exact Pl.int) (by simp)
  · exact Pl.tup (fun y hy => by simp only [List.mem_cons, List.not_mem_nil, or_false] at hy; rcases hy with rfl | rfl <;> exact Pl.int) (by simp)
  · exact Pl.int
  · exact Pl.int) (by simp)
theorem ix_bx0 {b : Bx} {O : Om} {R : D → Om → Prop} : dIx (bxR b) (.int 0) O R = R (pR b.l) O := rfl
theorem ix_bx1 {b : Bx} {O : Om} {R : D → Om → Prop} : dIx (bxR b) (.int 1) O R = R (pR b.r) O := rfl
theorem ix_bx2 {b : Bx} {O : Om} {R : D → Om → Prop} : dIx (bxR b) (.int 2) O R = R (.int b.lo) O := rfl
theorem ix_bx3 {b : Bx} {O : Om} {R : D → Om → Prop} : dIx (bxR b) (.int 3) O R = R (.int b.hi) O := rfl
theorem box_of {l r : Pt} {lo hi : Int} (hl : PtN 1000000 l) (hr : PtN 1000000 r) (hlt : ltP l r = true) (h1 : lo ≤ hi) (h2 : -20 ≤ lo) (h3 : hi ≤ 30) : ∃ b : Bx, bxD l r (.int lo) (.int hi) = bxR b ∧ GBx b ∧ Bz 20 b.r := by
  refine ⟨⟨Rat.divInt l.1 l.2, Rat.divInt r.1 r.2, lo, hi⟩, ?_, ⟨(bz_of hl (m := 20) (by decide)).mono (by decide), (bz_of hr (m := 20) (by decide)).mono (by decide), ?_, by show -50 ≤ lo; omega, h1, h3⟩, bz_of hr (m := 20) (by decide)⟩
  · show D.tup [pD l, pD r, .int lo, .int hi] = D.tup [pR _, pR _, .int lo, .int hi]
    rw [pR_of hl, pR_of hr]
  · rw [hl.1.rat, hr.1.rat, lt_rat] at hlt
    simpa using hlt
def t_law_boxes : DS :=
  (dSeq (dSet 2 (dLc (dRng1 (dCons (dCall sp_law_pull [.p 0, .p 1] [] (dCons (dVar 0) (dCons (dOp dAdd (dVar 1) (dC (.int 1))) dNil)) dNil) dNil)) (gN 3) dYes (dCall sp_law_box [.p 0] [] (dCons (dVar 0) dNil) dNil) [3]))
  (dSeq (dIfS (dAndT (dTest (dOp dGt (dCB dLen (dCons (dVar 2) dNil)) (dC (.int 1)))) (dTest (dOp dEq (dCall sp_law_pull [.p 0, .p 1] [] (dCons (dVar 0) (dCons (dC (.int 3)) dNil)) dNil) (dC (.int 0))))) (dAsg (dTup (dCons (dOp dIx (dOp dIx (dVar 2) (dC (.int 1))) (dC (.int 1))) (dCons (dCall sp_law_add [.p 0, .p 1] [] (dCons (dOp dIx (dOp dIx (dVar 2) (dC (.int 1))) (dC (.int 1))) (dCons (dTup (dCons (dC (.int 2)) (dCons (dC (.int 1)) dNil))) dNil)) dNil) (dCons (dOp dSub (dC (.int 0)) (dC (.int 50))) (dCons (dOp dIx (dOp dIx (dVar 2) (dC (.int 1))) (dC (.int 3))) dNil))))) (gSubD (dVar 2) (dC (.int 0)) dSetL)) dNext)
  (dSeq (dIfS (dAndT (dTest (dOp dNe (dVar 2) (dLstF dNil))) (dTest (dOp dEq (dCall sp_law_pull [.p 0, .p 1] [] (dCons (dVar 0) (dCons (dC (.int 4)) dNil)) dNil) (dC (.int 0))))) (dDrop (dLM dAppend (dVar 2) (dCons (dOp dIx (dVar 2) (dC (.int 0))) dNil))) dNext)
  (dRet (dFz (dVar 2))))))
def n_law_boxes : List Str := ["_law_bag_here", "_law_most", "_law_found", "_law_k"]
def sp_law_boxes : DSp := fun xs O R _ => ∃ (b : Addr) (n : Int), xs = [.ref b, .int n] ∧ 0 ≤ n ∧ n ≤ 100 ∧ Bag O b ∧ ∀ (bs : List Bx) O', (∀ x ∈ bs, GBx x) → (bs.length : Int) ≤ n + 1 → Bst b O O' → R (.lst (bs.map bxR)) O'
theorem d_law_boxes : ∀ xs O R Z, sp_law_boxes xs O R Z → t_law_boxes (ends R) (startD n_law_boxes xs) O := by
  rintro _ O R Z ⟨b, n, rfl, n0, n1, hb, k⟩
  show t_law_boxes (ends R) [some (.ref b), some (.int n), none, none] O
  unfold t_law_boxes
  refine seq1 fun N hN => ?_; simp only [dIfS, dAndT, dOrT, dNotT, dTest, dTruth, dTru, dAndV, dOrV, dNotV, dIf, dOp, dUn, dVar, dC, dI, dIc, dAdd, dSub, dMul, dFd, dMod, dPow, dNeg, dLt, dLe, dGt, dGe, dIsN, dNotN, DL.isNon, ix_pR0, ix_pR1, ix_tup, ix_lst, ix_ref, dSl, dPart, dNoPart, dCB, len_tup, len_lst, len_ref, dAbs, dList, dTuple, dBls, dSum, dIsi, dIsi2, dtOf, isC, seqOf, lstOf, dCons, dNil, dTup, dLst, dRet, dRetN, dNext, dDrop, dAsg, gN, gsNil, gsCons, gT, gSubD, dSetL, dPar, dAug, dIpAdd, dIpSub, dCall, eq_int, eq_str, eq_bl, ne_int, ne_str, ne_bl, eq_pR, ne_pR, plus_eq, less_eq, times_eq, over_eq, floor_eq, ceil_eq, part_eq, below_eq, seq_pR, pick_nil, pick_p, pick_k, pick_d, dBreak, dCont, dLM, dLM0, isL, dAppend, dInsert, dPop, dPopAt, dRevL, dStr, dFmt, dJs, dMax2, dMin2, dSorted, dNewK, dctOf, dGetK, dHasK, DL.keyOf, dPutK, dDelK, dSortedD, dSet, dLstF, dRevF, dSlF, dListF, dSortedF, dSortedDF, dMaxF, dMinF, dInS, dLtA, dNewT, dGetT, dHasT, dctT, tkOf, keysOf, dTupP, dPutT, dPutP, putTk, pkOf, dSortedTF, dGet1, dGet2, dGet2T, dDisp1, dRep, dInt, dBits, dExtend, dReverse, dMaxDf, dCat, dCatF, dExtL, dDcT, Option.isSome_some, List.getElem?_cons_zero, List.getElem?_cons_succ, List.set_cons_zero, List.set_cons_succ, atI_0, atI_1, atI_2, atI_3, atI_4, atI_5, ixN_0, ixN_1, ixN_2, ixN_3, ixN_4, ixN_5, up_same, List.length_cons, List.length_nil, Bool.not_true, Bool.not_false, Bool.false_eq_true, if_true, if_false, reduceIte, dFor, dRng1, dRng2, dRng3, dSeqI, dEnum, dEnumA, dZip, dLc, dLcF, wipeD]
  refine ⟨b, n + 1, rfl, by omega, log_small (by omega) (by omega), hb, fun r O1 r0 r1 s1 => ⟨by omega, by omega, ?_⟩⟩
  refine comp_draw (f := bxR) (fun x => GBx x ∧ Bz 20 x.r) s1 (fun _ => True.intro) (by rw [rgD_len]; omega) (fun x acc O4 M1 hx hacc s4 hM1 => ?_) ?_
  · simp only [dIfS, dAndT, dOrT, dNotT, dTest, dTruth, dTru, dAndV, dOrV, dNotV, dIf, dOp, dUn, dVar, dC, dI, dIc, dAdd, dSub, dMul, dFd, dMod, dPow, dNeg, dLt, dLe, dGt, dGe, dIsN, dNotN, DL.isNon, ix_pR0, ix_pR1, ix_tup, ix_lst, ix_ref, dSl, dPart, dNoPart, dCB, len_tup, len_lst, len_ref, dAbs, dList, dTuple, dBls, dSum, dIsi, dIsi2, dtOf, isC, seqOf, lstOf, dCons, dNil, dTup, dLst, dRet, dRetN, dNext, dDrop, dAsg, gN, gsNil, gsCons, gT, gSubD, dSetL, dPar, dAug, dIpAdd, dIpSub, dCall, eq_int, eq_str, eq_bl, ne_int, ne_str, ne_bl, eq_pR, ne_pR, plus_eq, less_eq, times_eq, over_eq, floor_eq, ceil_eq, part_eq, below_eq, seq_pR, pick_nil, pick_p, pick_k, pick_d, dBreak, dCont, dLM, dLM0, isL, dAppend, dInsert, dPop, dPopAt, dRevL, dStr, dFmt, dJs, dMax2, dMin2, dSorted, dNewK, dctOf, dGetK, dHasK, DL.keyOf, dPutK, dDelK, dSortedD, dSet, dLstF, dRevF, dSlF, dListF, dSortedF, dSortedDF, dMaxF, dMinF, dInS, dLtA, dNewT, dGetT, dHasT, dctT, tkOf, keysOf, dTupP, dPutT, dPutP, putTk, pkOf, dSortedTF, dGet1, dGet2, dGet2T, dDisp1, dRep, dInt, dBits, dExtend, dReverse, dMaxDf, dCat, dCatF, dExtL, dDcT, Option.isSome_some, List.getElem?_cons_zero, List.getElem?_cons_succ, List.set_cons_zero, List.set_cons_succ, atI_0, atI_1, atI_2, atI_3, atI_4, atI_5, ixN_0, ixN_1, ixN_2, ixN_3, ixN_4, ixN_5, up_same, List.length_cons, List.length_nil, Bool.not_true, Bool.not_false, Bool.false_eq_true, if_true, if_false, reduceIte, dYes]
    refine ⟨b, rfl, s4.1, fun l r lo hi O5 hl hr hlt h1 h2 h3 s5 => ⟨hacc, ?_⟩⟩
    obtain ⟨x, e, hx⟩ := box_of hl hr hlt h1 h2 h3
    rw [e]
    exact hM1 x O5 hx s5
  intro bs O2 hbl hg' s2 p hp
  rw [rgD_len] at hbl
  have hg : ∀ x ∈ bs, GBx x := fun x hx => (hg' x hx).1
  subst hN
  have hp0 := s2.none hp
  have npb := (hb.free hp0).1
  refine seq_by (fun g O' => Bst b O O' ∧ ∃ bs : List Bx, O' p = some (.lst (bs.map bxR)) ∧ (∀ x ∈ bs, GBx x) ∧ (bs.length : Int) ≤ n ∧ g = [some (.ref b), some (.int n), some (.ref p), none]) (fun N hN => ?_) ?_
  · simp only [dIfS, dAndT, dOrT, dNotT, dTest, dTruth, dTru, dAndV, dOrV, dNotV, dIf, dOp, dUn, dVar, dC, dI, dIc, dAdd, dSub, dMul, dFd, dMod, dPow, dNeg, dLt, dLe, dGt, dGe, dIsN, dNotN, DL.isNon, ix_pR0, ix_pR1, ix_tup, ix_lst, ix_ref, dSl, dPart, dNoPart, dCB, len_tup, len_lst, len_ref, dAbs, dList, dTuple, dBls, dSum, dIsi, dIsi2, dtOf, isC, seqOf, lstOf, dCons, dNil, dTup, dLst, dRet, dRetN, dNext, dDrop, dAsg, gN, gsNil, gsCons, gT, gSubD, dSetL, dPar, dAug, dIpAdd, dIpSub, dCall, eq_int, eq_str, eq_bl, ne_int, ne_str, ne_bl, eq_pR, ne_pR, plus_eq, less_eq, times_eq, over_eq, floor_eq, ceil_eq, part_eq, below_eq, seq_pR, pick_nil, pick_p, pick_k, pick_d, dBreak, dCont, dLM, dLM0, isL, dAppend, dInsert, dPop, dPopAt, dRevL, dStr, dFmt, dJs, dMax2, dMin2, dSorted, dNewK, dctOf, dGetK, dHasK, DL.keyOf, dPutK, dDelK, dSortedD, dSet, dLstF, dRevF, dSlF, dListF, dSortedF, dSortedDF, dMaxF, dMinF, dInS, dLtA, dNewT, dGetT, dHasT, dctT, tkOf, keysOf, dTupP, dPutT, dPutP, putTk, pkOf, dSortedTF, dGet1, dGet2, dGet2T, dDisp1, dRep, dInt, dBits, dExtend, dReverse, dMaxDf, dCat, dCatF, dExtL, dDcT, Option.isSome_some, List.getElem?_cons_zero, List.getElem?_cons_succ, List.set_cons_zero, List.set_cons_succ, atI_0, atI_1, atI_2, atI_3, atI_4, atI_5, ixN_0, ixN_1, ixN_2, ixN_3, ixN_4, ixN_5, up_same, List.length_cons, List.length_nil, Bool.not_true, Bool.not_false, Bool.false_eq_true, if_true, if_false, reduceIte, List.length_map]
    by_cases h1 : (bs.length : Int) > 1
    · simp only [h1, decide_true, if_true]
      refine ⟨b, 3, rfl, by decide, by decide, (s2.up hp).1, fun r2 O5 q0 q1 s5 => ?_⟩
      have hO5 : O5 p = some (.lst (bs.map bxR)) := s5.own s2.1 hp
      have s25 := (s2.up hp).trans s5
      simp only [dIfS, dAndT, dOrT, dNotT, dTest, dTruth, dTru, dAndV, dOrV, dNotV, dIf, dOp, dUn, dVar, dC, dI, dIc, dAdd, dSub, dMul, dFd, dMod, dPow, dNeg, dLt, dLe, dGt, dGe, dIsN, dNotN, DL.isNon, ix_pR0, ix_pR1, ix_tup, ix_lst, ix_ref, dSl, dPart, dNoPart, dCB, len_tup, len_lst, len_ref, dAbs, dList, dTuple, dBls, dSum, dIsi, dIsi2, dtOf, isC, seqOf, lstOf, dCons, dNil, dTup, dLst, dRet, dRetN, dNext, dDrop, dAsg, gN, gsNil, gsCons, gT, gSubD, dSetL, dPar, dAug, dIpAdd, dIpSub, dCall, eq_int, eq_str, eq_bl, ne_int, ne_str, ne_bl, eq_pR, ne_pR, plus_eq, less_eq, times_eq, over_eq, floor_eq, ceil_eq, part_eq, below_eq, seq_pR, pick_nil, pick_p, pick_k, pick_d, dBreak, dCont, dLM, dLM0, isL, dAppend, dInsert, dPop, dPopAt, dRevL, dStr, dFmt, dJs, dMax2, dMin2, dSorted, dNewK, dctOf, dGetK, dHasK, DL.keyOf, dPutK, dDelK, dSortedD, dSet, dLstF, dRevF, dSlF, dListF, dSortedF, dSortedDF, dMaxF, dMinF, dInS, dLtA, dNewT, dGetT, dHasT, dctT, tkOf, keysOf, dTupP, dPutT, dPutP, putTk, pkOf, dSortedTF, dGet1, dGet2, dGet2T, dDisp1, dRep, dInt, dBits, dExtend, dReverse, dMaxDf, dCat, dCatF, dExtL, dDcT, Option.isSome_some, List.getElem?_cons_zero, List.getElem?_cons_succ, List.set_cons_zero, List.set_cons_succ, atI_0, atI_1, atI_2, atI_3, atI_4, atI_5, ixN_0, ixN_1, ixN_2, ixN_3, ixN_4, ixN_5, up_same, List.length_cons, List.length_nil, Bool.not_true, Bool.not_false, Bool.false_eq_true, if_true, if_false, reduceIte]
      by_cases hr2 : r2 = 0
      · simp only [hr2, decide_true, if_true]
        have h1' : atI (bs.map bxR) 1 = some (bxR (bs.getD 1 ⟨0, 0, 0, 0⟩)) := atI_map (i := 1) (by omega)
        have hg1 := hg _ (getD_mem (xs := bs) (i := 1) (d := ⟨0, 0, 0, 0⟩) (by omega))
        have hg1' := (hg' _ (getD_mem (xs := bs) (i := 1) (d := ⟨0, 0, 0, 0⟩) (by omega))).2
        generalize bs.getD 1 ⟨0, 0, 0, 0⟩ = x1 at *
        have e2 : D.tup [.int 2, .int 1] = pR 2 := rfl
        simp only [dIfS, dAndT, dOrT, dNotT, dTest, dTruth, dTru, dAndV, dOrV, dNotV, dIf, dOp, dUn, dVar, dC, dI, dIc, dAdd, dSub, dMul, dFd, dMod, dPow, dNeg, dLt, dLe, dGt, dGe, dIsN, dNotN, DL.isNon, ix_pR0, ix_pR1, ix_tup, ix_lst, ix_ref, dSl, dPart, dNoPart, dCB, len_tup, len_lst, len_ref, dAbs, dList, dTuple, dBls, dSum, dIsi, dIsi2, dtOf, isC, seqOf, lstOf, dCons, dNil, dTup, dLst, dRet, dRetN, dNext, dDrop, dAsg, gN, gsNil, gsCons, gT, gSubD, dSetL, dPar, dAug, dIpAdd, dIpSub, dCall, eq_int, eq_str, eq_bl, ne_int, ne_str, ne_bl, eq_pR, ne_pR, plus_eq, less_eq, times_eq, over_eq, floor_eq, ceil_eq, part_eq, below_eq, seq_pR, pick_nil, pick_p, pick_k, pick_d, dBreak, dCont, dLM, dLM0, isL, dAppend, dInsert, dPop, dPopAt, dRevL, dStr, dFmt, dJs, dMax2, dMin2, dSorted, dNewK, dctOf, dGetK, dHasK, DL.keyOf, dPutK, dDelK, dSortedD, dSet, dLstF, dRevF, dSlF, dListF, dSortedF, dSortedDF, dMaxF, dMinF, dInS, dLtA, dNewT, dGetT, dHasT, dctT, tkOf, keysOf, dTupP, dPutT, dPutP, putTk, pkOf, dSortedTF, dGet1, dGet2, dGet2T, dDisp1, dRep, dInt, dBits, dExtend, dReverse, dMaxDf, dCat, dCatF, dExtL, dDcT, Option.isSome_some, List.getElem?_cons_zero, List.getElem?_cons_succ, List.set_cons_zero, List.set_cons_succ, atI_0, atI_1, atI_2, atI_3, atI_4, atI_5, ixN_0, ixN_1, ixN_2, ixN_3, ixN_4, ixN_5, up_same, List.length_cons, List.length_nil, Bool.not_true, Bool.not_false, Bool.false_eq_true, if_true, if_false, reduceIte, hO5, h1', ix_bx1, ix_bx3, e2, ladd_eq]
        have hb2 : Bz 2 (2 : Rat) := ⟨by decide, by decide⟩
        refine ⟨Two.of hg1.r hb2, ?_⟩
        have hj : ixN (bs.map bxR).length 0 = some 0 := by rw [List.length_map]; exact ixN_lit (i := 0) (by omega) (by omega)
        simp only [dIfS, dAndT, dOrT, dNotT, dTest, dTruth, dTru, dAndV, dOrV, dNotV, dIf, dOp, dUn, dVar, dC, dI, dIc, dAdd, dSub, dMul, dFd, dMod, dPow, dNeg, dLt, dLe, dGt, dGe, dIsN, dNotN, DL.isNon, ix_pR0, ix_pR1, ix_tup, ix_lst, ix_ref, dSl, dPart, dNoPart, dCB, len_tup, len_lst, len_ref, dAbs, dList, dTuple, dBls, dSum, dIsi, dIsi2, dtOf, isC, seqOf, lstOf, dCons, dNil, dTup, dLst, dRet, dRetN, dNext, dDrop, dAsg, gN, gsNil, gsCons, gT, gSubD, dSetL, dPar, dAug, dIpAdd, dIpSub, dCall, eq_int, eq_str, eq_bl, ne_int, ne_str, ne_bl, eq_pR, ne_pR, plus_eq, less_eq, times_eq, over_eq, floor_eq, ceil_eq, part_eq, below_eq, seq_pR, pick_nil, pick_p, pick_k, pick_d, dBreak, dCont, dLM, dLM0, isL, dAppend, dInsert, dPop, dPopAt, dRevL, dStr, dFmt, dJs, dMax2, dMin2, dSorted, dNewK, dctOf, dGetK, dHasK, DL.keyOf, dPutK, dDelK, dSortedD, dSet, dLstF, dRevF, dSlF, dListF, dSortedF, dSortedDF, dMaxF, dMinF, dInS, dLtA, dNewT, dGetT, dHasT, dctT, tkOf, keysOf, dTupP, dPutT, dPutP, putTk, pkOf, dSortedTF, dGet1, dGet2, dGet2T, dDisp1, dRep, dInt, dBits, dExtend, dReverse, dMaxDf, dCat, dCatF, dExtL, dDcT, Option.isSome_some, List.getElem?_cons_zero, List.getElem?_cons_succ, List.set_cons_zero, List.set_cons_succ, atI_0, atI_1, atI_2, atI_3, atI_4, atI_5, ixN_0, ixN_1, ixN_2, ixN_3, ixN_4, ixN_5, up_same, List.length_cons, List.length_nil, Bool.not_true, Bool.not_false, Bool.false_eq_true, if_true, if_false, reduceIte, hO5, hj]
        refine hN _ _ ⟨s25.put hb hp0, bs.set 0 ⟨x1.r, x1.r + 2, 0 - 50, x1.hi⟩, by rw [up_same, List.map_set]; rfl, fun y hy => ?_, by rw [List.length_set]; omega, rfl⟩
        rcases List.mem_or_eq_of_mem_set hy with hy | hy
        · exact hg y hy
        · rw [hy]
          refine ⟨hg1.r, ?_, ?_, by show (-50 : Int) ≤ 0 - 50; decide, ?_, hg1.hi⟩
          · exact (Bz.add hg1' hb2).mono (by decide)
          · show x1.r < x1.r + 2
            grind
          · have := hg1.lo; have := hg1.lh; show (0 : Int) - 50 ≤ x1.hi; omega
      · simp only [hr2, decide_false, Bool.false_eq_true, if_false]
        exact hN _ _ ⟨s25, bs, hO5, hg, by omega, rfl⟩
    · simp only [h1, decide_false, Bool.false_eq_true, if_false]
      exact hN _ _ ⟨s2.up hp, bs, up_same, hg, by omega, rfl⟩
  clear hbl hg hg' s2 hp
  rintro _ O2 ⟨s2, bs, h2p, hg, hbl, rfl⟩
  refine seq_by (fun g O' => Bst b O O' ∧ ∃ bs : List Bx, O' p = some (.lst (bs.map bxR)) ∧ (∀ x ∈ bs, GBx x) ∧ (bs.length : Int) ≤ n + 1 ∧ g = [some (.ref b), some (.int n), some (.ref p), none]) (fun N hN => ?_) ?_
  · simp only [dIfS, dAndT, dOrT, dNotT, dTest, dTruth, dTru, dAndV, dOrV, dNotV, dIf, dOp, dUn, dVar, dC, dI, dIc, dAdd, dSub, dMul, dFd, dMod, dPow, dNeg, dLt, dLe, dGt, dGe, dIsN, dNotN, DL.isNon, ix_pR0, ix_pR1, ix_tup, ix_lst, ix_ref, dSl, dPart, dNoPart, dCB, len_tup, len_lst, len_ref, dAbs, dList, dTuple, dBls, dSum, dIsi, dIsi2, dtOf, isC, seqOf, lstOf, dCons, dNil, dTup, dLst, dRet, dRetN, dNext, dDrop, dAsg, gN, gsNil, gsCons, gT, gSubD, dSetL, dPar, dAug, dIpAdd, dIpSub, dCall, eq_int, eq_str, eq_bl, ne_int, ne_str, ne_bl, eq_pR, ne_pR, plus_eq, less_eq, times_eq, over_eq, floor_eq, ceil_eq, part_eq, below_eq, seq_pR, pick_nil, pick_p, pick_k, pick_d, dBreak, dCont, dLM, dLM0, isL, dAppend, dInsert, dPop, dPopAt, dRevL, dStr, dFmt, dJs, dMax2, dMin2, dSorted, dNewK, dctOf, dGetK, dHasK, DL.keyOf, dPutK, dDelK, dSortedD, dSet, dLstF, dRevF, dSlF, dListF, dSortedF, dSortedDF, dMaxF, dMinF, dInS, dLtA, dNewT, dGetT, dHasT, dctT, tkOf, keysOf, dTupP, dPutT, dPutP, putTk, pkOf, dSortedTF, dGet1, dGet2, dGet2T, dDisp1, dRep, dInt, dBits, dExtend, dReverse, dMaxDf, dCat, dCatF, dExtL, dDcT, Option.isSome_some, List.getElem?_cons_zero, List.getElem?_cons_succ, List.set_cons_zero, List.set_cons_succ, atI_0, atI_1, atI_2, atI_3, atI_4, atI_5, ixN_0, ixN_1, ixN_2, ixN_3, ixN_4, ixN_5, up_same, List.length_cons, List.length_nil, Bool.not_true, Bool.not_false, Bool.false_eq_true, if_true, if_false, reduceIte]
    refine ne_refnil h2p (seen_bxs (n := 0) bs) (by decide) ?_
    cases bs with
    | nil =>
      simp only [dIfS, dAndT, dOrT, dNotT, dTest, dTruth, dTru, dAndV, dOrV, dNotV, dIf, dOp, dUn, dVar, dC, dI, dIc, dAdd, dSub, dMul, dFd, dMod, dPow, dNeg, dLt, dLe, dGt, dGe, dIsN, dNotN, DL.isNon, ix_pR0, ix_pR1, ix_tup, ix_lst, ix_ref, dSl, dPart, dNoPart, dCB, len_tup, len_lst, len_ref, dAbs, dList, dTuple, dBls, dSum, dIsi, dIsi2, dtOf, isC, seqOf, lstOf, dCons, dNil, dTup, dLst, dRet, dRetN, dNext, dDrop, dAsg, gN, gsNil, gsCons, gT, gSubD, dSetL, dPar, dAug, dIpAdd, dIpSub, dCall, eq_int, eq_str, eq_bl, ne_int, ne_str, ne_bl, eq_pR, ne_pR, plus_eq, less_eq, times_eq, over_eq, floor_eq, ceil_eq, part_eq, below_eq, seq_pR, pick_nil, pick_p, pick_k, pick_d, dBreak, dCont, dLM, dLM0, isL, dAppend, dInsert, dPop, dPopAt, dRevL, dStr, dFmt, dJs, dMax2, dMin2, dSorted, dNewK, dctOf, dGetK, dHasK, DL.keyOf, dPutK, dDelK, dSortedD, dSet, dLstF, dRevF, dSlF, dListF, dSortedF, dSortedDF, dMaxF, dMinF, dInS, dLtA, dNewT, dGetT, dHasT, dctT, tkOf, keysOf, dTupP, dPutT, dPutP, putTk, pkOf, dSortedTF, dGet1, dGet2, dGet2T, dDisp1, dRep, dInt, dBits, dExtend, dReverse, dMaxDf, dCat, dCatF, dExtL, dDcT, Option.isSome_some, List.getElem?_cons_zero, List.getElem?_cons_succ, List.set_cons_zero, List.set_cons_succ, atI_0, atI_1, atI_2, atI_3, atI_4, atI_5, ixN_0, ixN_1, ixN_2, ixN_3, ixN_4, ixN_5, up_same, List.length_cons, List.length_nil, Bool.not_true, Bool.not_false, Bool.false_eq_true, if_true, if_false, reduceIte, List.map_nil, List.isEmpty_nil]
      exact hN _ _ ⟨s2, [], h2p, hg, by simp; omega, rfl⟩
    | cons x bs =>
      simp only [dIfS, dAndT, dOrT, dNotT, dTest, dTruth, dTru, dAndV, dOrV, dNotV, dIf, dOp, dUn, dVar, dC, dI, dIc, dAdd, dSub, dMul, dFd, dMod, dPow, dNeg, dLt, dLe, dGt, dGe, dIsN, dNotN, DL.isNon, ix_pR0, ix_pR1, ix_tup, ix_lst, ix_ref, dSl, dPart, dNoPart, dCB, len_tup, len_lst, len_ref, dAbs, dList, dTuple, dBls, dSum, dIsi, dIsi2, dtOf, isC, seqOf, lstOf, dCons, dNil, dTup, dLst, dRet, dRetN, dNext, dDrop, dAsg, gN, gsNil, gsCons, gT, gSubD, dSetL, dPar, dAug, dIpAdd, dIpSub, dCall, eq_int, eq_str, eq_bl, ne_int, ne_str, ne_bl, eq_pR, ne_pR, plus_eq, less_eq, times_eq, over_eq, floor_eq, ceil_eq, part_eq, below_eq, seq_pR, pick_nil, pick_p, pick_k, pick_d, dBreak, dCont, dLM, dLM0, isL, dAppend, dInsert, dPop, dPopAt, dRevL, dStr, dFmt, dJs, dMax2, dMin2, dSorted, dNewK, dctOf, dGetK, dHasK, DL.keyOf, dPutK, dDelK, dSortedD, dSet, dLstF, dRevF, dSlF, dListF, dSortedF, dSortedDF, dMaxF, dMinF, dInS, dLtA, dNewT, dGetT, dHasT, dctT, tkOf, keysOf, dTupP, dPutT, dPutP, putTk, pkOf, dSortedTF, dGet1, dGet2, dGet2T, dDisp1, dRep, dInt, dBits, dExtend, dReverse, dMaxDf, dCat, dCatF, dExtL, dDcT, Option.isSome_some, List.getElem?_cons_zero, List.getElem?_cons_succ, List.set_cons_zero, List.set_cons_succ, atI_0, atI_1, atI_2, atI_3, atI_4, atI_5, ixN_0, ixN_1, ixN_2, ixN_3, ixN_4, ixN_5, up_same, List.length_cons, List.length_nil, Bool.not_true, Bool.not_false, Bool.false_eq_true, if_true, if_false, reduceIte, List.map_cons, List.isEmpty_cons]
      refine ⟨b, 4, rfl, by decide, by decide, s2.1, fun r2 O5 q0 q1 s5 => ?_⟩
      have hO5 : O5 p = some (.lst ((x :: bs).map bxR)) := s5.2 p _ npb h2p
      have s25 := s2.trans s5
      simp only [dIfS, dAndT, dOrT, dNotT, dTest, dTruth, dTru, dAndV, dOrV, dNotV, dIf, dOp, dUn, dVar, dC, dI, dIc, dAdd, dSub, dMul, dFd, dMod, dPow, dNeg, dLt, dLe, dGt, dGe, dIsN, dNotN, DL.isNon, ix_pR0, ix_pR1, ix_tup, ix_lst, ix_ref, dSl, dPart, dNoPart, dCB, len_tup, len_lst, len_ref, dAbs, dList, dTuple, dBls, dSum, dIsi, dIsi2, dtOf, isC, seqOf, lstOf, dCons, dNil, dTup, dLst, dRet, dRetN, dNext, dDrop, dAsg, gN, gsNil, gsCons, gT, gSubD, dSetL, dPar, dAug, dIpAdd, dIpSub, dCall, eq_int, eq_str, eq_bl, ne_int, ne_str, ne_bl, eq_pR, ne_pR, plus_eq, less_eq, times_eq, over_eq, floor_eq, ceil_eq, part_eq, below_eq, seq_pR, pick_nil, pick_p, pick_k, pick_d, dBreak, dCont, dLM, dLM0, isL, dAppend, dInsert, dPop, dPopAt, dRevL, dStr, dFmt, dJs, dMax2, dMin2, dSorted, dNewK, dctOf, dGetK, dHasK, DL.keyOf, dPutK, dDelK, dSortedD, dSet, dLstF, dRevF, dSlF, dListF, dSortedF, dSortedDF, dMaxF, dMinF, dInS, dLtA, dNewT, dGetT, dHasT, dctT, tkOf, keysOf, dTupP, dPutT, dPutP, putTk, pkOf, dSortedTF, dGet1, dGet2, dGet2T, dDisp1, dRep, dInt, dBits, dExtend, dReverse, dMaxDf, dCat, dCatF, dExtL, dDcT, Option.isSome_some, List.getElem?_cons_zero, List.getElem?_cons_succ, List.set_cons_zero, List.set_cons_succ, atI_0, atI_1, atI_2, atI_3, atI_4, atI_5, ixN_0, ixN_1, ixN_2, ixN_3, ixN_4, ixN_5, up_same, List.length_cons, List.length_nil, Bool.not_true, Bool.not_false, Bool.false_eq_true, if_true, if_false, reduceIte]
      by_cases hr2 : r2 = 0
      · simp only [hr2, decide_true, if_true]
        simp only [dIfS, dAndT, dOrT, dNotT, dTest, dTruth, dTru, dAndV, dOrV, dNotV, dIf, dOp, dUn, dVar, dC, dI, dIc, dAdd, dSub, dMul, dFd, dMod, dPow, dNeg, dLt, dLe, dGt, dGe, dIsN, dNotN, DL.isNon, ix_pR0, ix_pR1, ix_tup, ix_lst, ix_ref, dSl, dPart, dNoPart, dCB, len_tup, len_lst, len_ref, dAbs, dList, dTuple, dBls, dSum, dIsi, dIsi2, dtOf, isC, seqOf, lstOf, dCons, dNil, dTup, dLst, dRet, dRetN, dNext, dDrop, dAsg, gN, gsNil, gsCons, gT, gSubD, dSetL, dPar, dAug, dIpAdd, dIpSub, dCall, eq_int, eq_str, eq_bl, ne_int, ne_str, ne_bl, eq_pR, ne_pR, plus_eq, less_eq, times_eq, over_eq, floor_eq, ceil_eq, part_eq, below_eq, seq_pR, pick_nil, pick_p, pick_k, pick_d, dBreak, dCont, dLM, dLM0, isL, dAppend, dInsert, dPop, dPopAt, dRevL, dStr, dFmt, dJs, dMax2, dMin2, dSorted, dNewK, dctOf, dGetK, dHasK, DL.keyOf, dPutK, dDelK, dSortedD, dSet, dLstF, dRevF, dSlF, dListF, dSortedF, dSortedDF, dMaxF, dMinF, dInS, dLtA, dNewT, dGetT, dHasT, dctT, tkOf, keysOf, dTupP, dPutT, dPutP, putTk, pkOf, dSortedTF, dGet1, dGet2, dGet2T, dDisp1, dRep, dInt, dBits, dExtend, dReverse, dMaxDf, dCat, dCatF, dExtL, dDcT, Option.isSome_some, List.getElem?_cons_zero, List.getElem?_cons_succ, List.set_cons_zero, List.set_cons_succ, atI_0, atI_1, atI_2, atI_3, atI_4, atI_5, ixN_0, ixN_1, ixN_2, ixN_3, ixN_4, ixN_5, up_same, List.length_cons, List.length_nil, Bool.not_true, Bool.not_false, Bool.false_eq_true, if_true, if_false, reduceIte, hO5, List.map_cons]
        refine ⟨True.intro, by rw [List.length_map, sizeLine_eq]; rw [List.length_cons] at hbl; omega, hN _ _ ⟨s25.put hb hp0, (x :: bs) ++ [x], by rw [up_same, List.map_append]; rfl, fun y hy => ?_, by rw [List.length_append]; show (((x :: bs).length + 1 : Nat) : Int) ≤ _; omega, rfl⟩⟩
        rcases List.mem_append.mp hy with hy | hy
        · exact hg y hy
        · rw [List.mem_singleton.mp hy]; exact hg x List.mem_cons_self
      · simp only [hr2, decide_false, Bool.false_eq_true, if_false]
        exact hN _ _ ⟨s25, _, hO5, hg, by omega, rfl⟩
  · rintro _ O3 ⟨s3, bs, h3p, hg, hbl, rfl⟩
    simp only [dIfS, dAndT, dOrT, dNotT, dTest, dTruth, dTru, dAndV, dOrV, dNotV, dIf, dOp, dUn, dVar, dC, dI, dIc, dAdd, dSub, dMul, dFd, dMod, dPow, dNeg, dLt, dLe, dGt, dGe, dIsN, dNotN, DL.isNon, ix_pR0, ix_pR1, ix_tup, ix_lst, ix_ref, dSl, dPart, dNoPart, dCB, len_tup, len_lst, len_ref, dAbs, dList, dTuple, dBls, dSum, dIsi, dIsi2, dtOf, isC, seqOf, lstOf, dCons, dNil, dTup, dLst, dRet, dRetN, dNext, dDrop, dAsg, gN, gsNil, gsCons, gT, gSubD, dSetL, dPar, dAug, dIpAdd, dIpSub, dCall, eq_int, eq_str, eq_bl, ne_int, ne_str, ne_bl, eq_pR, ne_pR, plus_eq, less_eq, times_eq, over_eq, floor_eq, ceil_eq, part_eq, below_eq, seq_pR, pick_nil, pick_p, pick_k, pick_d, dBreak, dCont, dLM, dLM0, isL, dAppend, dInsert, dPop, dPopAt, dRevL, dStr, dFmt, dJs, dMax2, dMin2, dSorted, dNewK, dctOf, dGetK, dHasK, DL.keyOf, dPutK, dDelK, dSortedD, dSet, dLstF, dRevF, dSlF, dListF, dSortedF, dSortedDF, dMaxF, dMinF, dInS, dLtA, dNewT, dGetT, dHasT, dctT, tkOf, keysOf, dTupP, dPutT, dPutP, putTk, pkOf, dSortedTF, dGet1, dGet2, dGet2T, dDisp1, dRep, dInt, dBits, dExtend, dReverse, dMaxDf, dCat, dCatF, dExtL, dDcT, Option.isSome_some, List.getElem?_cons_zero, List.getElem?_cons_succ, List.set_cons_zero, List.set_cons_succ, atI_0, atI_1, atI_2, atI_3, atI_4, atI_5, ixN_0, ixN_1, ixN_2, ixN_3, ixN_4, ixN_5, up_same, List.length_cons, List.length_nil, Bool.not_true, Bool.not_false, Bool.false_eq_true, if_true, if_false, reduceIte, dFz]
    exact fz_ref h3p (Fin.here (k bs _ hg hbl (s3.del hb hp0)))
end Lw
set_option Elab.async false
set_option linter.all false
set_option maxRecDepth 100000
set_option maxHeartbeats 2000000
namespace DL
open PySem PySem.Spec PyProof.Rows L2
open Evl (Ex)

/-- the i-th statement of a class -/
def clsFn (i : Nat) : Stmt → Stmt
  | .ClassDef (body := b) .. => b.getD i (.Pass ⟨0, 0, 0, 0⟩)
  | s => s

/-! ### calls that may raise -/
def lowX (K : PySem.W.Frag) (W : WX) (t : XD → DE) : TE := fun s H Q => ∃ (G : Hp) (O : Om) (g : Gm) (R : D → Om → Prop) (Z : XD), Rel K G O H ∧ GR K G s g ∧ t Z g O R ∧
  (∀ x O' v G' H', Go K G O H G' O' H' → VR K G' v x → R x O' → Q v H') ∧ ∀ c e O' G' H', Go K G O H G' O' H' → Z c e O' → W c e s H'
def dCallX (d : DSp) (srcs : List Src) (ds : List D) (t tk : DA) : XD → DE := fun Z g O R => t g O fun xs O1 => tk g O1 fun ys O2 => d (pick xs ys ds srcs) O2 R Z
section
variable {X : Cx} {CX : CXT} {k : Nat} {f : Addr} {fd : FuncData} {ps ks : List Str} {sp : Sp} {dsp : DSp} {srcs : List Src} {dvs : List V} {ds : List D} {x : Str} {p pos kpos : Pos} {e : Expr} {es : List Expr} {kws : List Keyword} {te : DE} {t tk : DA} {n m : Nat} {W : WX}
theorem run_any {pins : List (Addr × Obj)} {σ : L2.St} {H : Hp} {s : Shared} {Q : VK} {us ws : List Value} {vs zs : List V} {E : XK} (F : FnOk X.prog X.w X.K X.mg X.base CX k f fd ps sp) (hr : Room k X.A) (hb : Bnd X.K fd ps n ks srcs dvs) (hx : PassesAt CX X σ E)
    (I : Inv X pins σ H s) (r : Vals vs us) (rz : Vals zs ws) (hn : vs.length = n) (hm : zs.length = ks.length) (h : sp (pick vs zs dvs srcs) H Q E) : wpAny (model X.prog X.w) X.A (call (.ref f) us (ks.zip ws)) (EP X pins σ Q) X.xe s := by
  obtain ⟨ds, rd, hb⟩ := hb.to
  have r2 := pick_vals r rz rd srcs
  refine wpAny_call (codeAny_mono (F.run X.A X.stack s H ⟨us, ks.zip ws⟩ (pick us ws ds srcs) (pick vs zs dvs srcs) Q E hr I.env0 (hb s us ws I.kIn (by rw [← r.length]; exact hn) (by rw [← rz.length]; exact hm)) r2 h) fun r s' hq => ?_)
  cases r with
  | error e => exact hx pins H s e s' I hq
  | ok fl =>
    cases fl with
    | ret u => exact I.after hq
    | next => exact False.elim hq
    | brk => exact False.elim hq
    | cont => exact False.elim hq
theorem low_callX {K : PySem.W.Frag} (hd : ∀ G, VRs K G dvs ds) : ∀ s H Q, lowX K W (dCallX dsp srcs ds t tk) s H Q → lowA K n t s H fun vs H1 => lowA K m tk s H1 fun zs H2 => vs.length = n ∧ zs.length = m ∧ toSp K dsp (pick vs zs dvs srcs) H2 Q (WE W s) := fun s H Q ⟨G, O, g, R, Z, rl, gr, h, k, kz⟩ =>
  ⟨G, O, g, _, rl, gr, h, fun xs O1 vs G1 H1 go1 vr1 hl1 q1 => ⟨G1, O1, g, _, go1.rel, gr.mono go1.ex, q1, fun ys O2 zs G2 H2 go2 vr2 hl2 q2 =>
    ⟨by rw [vr1.length, hl1], by rw [vr2.length, hl2], G2, O2, _, _, Z, go2.rel, pick_vrs (vr1.mono go2.ex) vr2 (hd G2) srcs, q2, fun x O3 v G3 H3 go3 vr3 q3 => k _ _ _ _ _ ((go1.trans rl go2).trans rl go3) vr3 q3, fun c e O3 G3 H3 go3 z => kz _ _ _ _ _ ((go1.trans rl go2).trans rl go3) z⟩⟩⟩
theorem e_callX (F : FnOk X.prog X.w X.K X.mg X.base (L2.CX X.prog X.w) k f fd ps (toSp X.K dsp)) (hr : Room k X.A) (tk' : Takes X W) (hm : X.mg x = some (.ref f)) (hk : PySem.W.keepIn X.K (.ref f) = true) (hb : Bnd X.K fd ps n ks srcs dvs) (hd : ∀ G, VRs X.K G dvs ds)
    (ha : PA X (e :: es) (lowA X.K n t)) (hkw : PK X kws (lowA X.K m tk)) (hmk : m = ks.length := by rfl) (hg : Gl X x := by rfl) (hall : (backToKw pos (keywordEach kws X.env)).all (·.1.isSome) = true := by rfl) (hks : (backToKw pos (keywordEach kws X.env)).filterMap (·.1) = ks := by rfl)
    (hdb : (x == ("__debug__" : Str)) = false := by decide) (he : starEach (e :: es) X.env = (false, eval e X.env) :: starEach es X.env := by rfl)
    (hpl : ((backTo pos (starEach (e :: es) X.env)).any (·.1) || (backToKw pos (keywordEach kws X.env)).any (·.1.isNone)) = false := by rfl) :
    PE X (.Call (.Name x p) (e :: es) kws pos) (lowX X.K W (dCallX dsp srcs ds t tk)) := by
  refine ⟨fun pins s σ H Q I h => ?_⟩
  refine wpAny_Call_Name_kw (ld_glob I hg hm ?_ hdb)
  refine PySem.W.callWith_KW (h₀ := X.base) I.ok.mod.kin hk hall (thn (ha.run pos pins s σ H _ I (low_callX (m := m) hd σ H Q h)) fun us s1 ⟨vs, H1, I1, r, q⟩ => ?_) hpl he
  refine thn (hkw.run pos pins s1 σ H1 _ I1 q) fun ws s2 ⟨zs, H2, I2, rz, q2⟩ => ⟨I2.kIn, ?_⟩
  rw [hks]
  exact run_any F hr hb (passAt tk' σ) I2 r rz q2.1 (q2.2.1.trans hmk) q2.2.2
theorem e_call0X (F : FnOk X.prog X.w X.K X.mg X.base (L2.CX X.prog X.w) k f fd ps (toSp X.K dsp)) (hr : Room k X.A) (tk' : Takes X W) (hm : X.mg x = some (.ref f)) (hk : PySem.W.keepIn X.K (.ref f) = true) (hb : Bnd X.K fd ps 0 ks srcs dvs) (hd : ∀ G, VRs X.K G dvs ds)
    (hkw : PK X kws (lowA X.K m tk)) (hmk : m = ks.length := by rfl) (hg : Gl X x := by rfl) (hall : (backToKw pos (keywordEach kws X.env)).all (·.1.isSome) = true := by rfl) (hks : (backToKw pos (keywordEach kws X.env)).filterMap (·.1) = ks := by rfl)
    (hdb : (x == ("__debug__" : Str)) = false := by decide)
    (hpl : ((backTo pos (starEach [] X.env)).any (·.1) || (backToKw pos (keywordEach kws X.env)).any (·.1.isNone)) = false := by rfl) :
    PE X (.Call (.Name x p) [] kws pos) (lowX X.K W (dCallX dsp srcs ds dNil tk)) := by
  refine ⟨fun pins s σ H Q I h => ?_⟩
  refine wpAny_Call_Name_kw (ld_glob I hg hm ?_ hdb)
  obtain ⟨G, O, g, R, Z, rl, gr, h, kk, kz⟩ := h
  have h2 : lowA X.K m tk σ H fun zs H2 => zs.length = m ∧ toSp X.K dsp (pick [] zs dvs srcs) H2 Q (WE W σ) := ⟨G, O, g, _, rl, gr, h, fun ys O2 zs G2 H2 go2 vr2 hl2 q2 =>
    ⟨by rw [vr2.length, hl2], G2, O2, _, _, Z, go2.rel, pick_vrs .nil vr2 (hd G2) srcs, q2, fun x O3 v G3 H3 go3 vr3 q3 => kk _ _ _ _ _ (go2.trans rl go3) vr3 q3, fun c e O3 G3 H3 go3 z => kz _ _ _ _ _ (go2.trans rl go3) z⟩⟩
  refine PySem.W.callWith_KW0 (h₀ := X.base) I.ok.mod.kin hk hall (thn (hkw.run pos pins s σ H _ I h2) fun ws s2 ⟨zs, H2, I2, rz, q2⟩ => ⟨I2.kIn, ?_⟩) hpl
  rw [hks]
  exact run_any (us := []) (vs := []) F hr hb (passAt tk' σ) I2 .nil rz rfl (q2.1.trans hmk) q2.2
/-- where the promise lets nothing out -/
theorem calm {P : Program} {w : World} {K : PySem.W.Frag} {mg : Str → Option Value} {base : Heap} (F : FnOk P w K mg base (L2.CX P w) k f fd ps (toSp K dsp)) : FnOk P w K mg base CX0 k f fd ps (toSp K fun xs O R _ => dsp xs O R X0) := by
  have c : ∀ {vs H Q E}, toSp K (fun xs O R _ => dsp xs O R X0) vs H Q E → toSp K dsp vs H Q (fun _ _ _ => False) := fun ⟨G, O, xs, R, Z, rl, vr, h, k, _⟩ => ⟨G, O, xs, R, X0, rl, vr, h, k, fun _ _ _ _ _ _ z => z⟩
  refine ⟨fun vs H Q E h => F.len _ _ _ _ (c h), fun A outer s H args us vs Q E hr he hb hv h => codeAny_mono (F.run A outer s H args us vs Q _ hr he hb hv (c h)) fun r s' hq => ?_⟩
  cases r with
  | error e =>
    obtain ⟨_, _, _, _, _, _, _, _, _, _, _, _, z⟩ := hq
    exact z.elim
  | ok fl => cases fl <;> exact hq
end

/-! ### expressions around such a call -/
def dTup2X (ta : DE) (tb : XD → DE) : XD → DE := fun Z g O R => ta g O fun x O1 => tb Z g O1 fun y O2 => R (.tup [x, y]) O2
def dIfX (tt : DT) (ta tb : XD → DE) : XD → DE := fun Z g O R => tt g O fun c O1 => if c = true then ta Z g O1 R else tb Z g O1 R
def dRetX (t : XD → DE) : DS := fun F g O => t (fun c d O1 => F.xc c d g O1) g O F.rt
def dSetX (i : Nat) (t : XD → DE) : DS := fun F g O => t (fun c d O1 => F.xc c d g O1) g O fun x O1 => F.nx (g.set i (some x)) O1
section
variable {X : Cx} {W : WX} {a b c : Expr} {ta : DE} {tt : DT} {tx ty : XD → DE} {pos : Pos}
theorem x_tup2 {x1} (ha : PE X a (lowE X.K ta)) (hb : PE X b (lowX X.K W tx)) (hs : starEach [a, b] X.env = (false, eval a X.env) :: starEach [b] X.env := by rfl) (hs2 : starEach [b] X.env = (false, eval b X.env) :: starEach [] X.env := by rfl) : PE X (.Tuple [a, b] x1 pos) (lowX X.K W (dTup2X ta tx)) :=
  PE.by (pe_tup (pa_cons ha (pa_cons hb pa_nil hs2) hs)) fun s H Q ⟨G, O, g, R, Z, rl, gr, h, k, kz⟩ =>
    ⟨G, O, g, _, rl, gr, h, fun x O1 v G1 H1 go1 vr1 q1 => ⟨G1, O1, g, _, Z, go1.rel, gr.mono go1.ex, q1, fun y O2 u G2 H2 go2 vr2 q2 => ⟨by show 2 ≤ sizeLine; decide, fun p hp => by
      have b : Bk X.K G2 O2 H2 R Q := fun x O3 v G3 H3 go3 vr q3 => k _ _ _ _ _ ((go1.trans rl go2).trans rl go3) vr q3
      exact b.tup go2.rel (.cons (vr1.mono go2.ex) (.cons vr2 .nil)) q2 p hp⟩, fun c e O2 G2 H2 go2 z => kz _ _ _ _ _ (go1.trans rl go2) z⟩⟩
theorem x_if (hc : PT X c (lowT X.K tt)) (ha : PE X a (lowX X.K W tx)) (hb : PE X b (lowX X.K W ty)) : PE X (.IfExp c a b pos) (lowX X.K W (dIfX tt tx ty)) := PE.by (pe_ifExp hc ha hb) fun s H Q ⟨G, O, g, R, Z, rl, gr, h, k, kz⟩ =>
  ⟨G, O, g, _, rl, gr, h, fun x O1 G1 H1 go1 q1 => by
    cases x with
    | true => rw [if_pos rfl]; exact ⟨G1, O1, g, R, Z, go1.rel, gr.mono go1.ex, q1, fun x O2 v G2 H2 go2 vr q2 => k _ _ _ _ _ (go1.trans rl go2) vr q2, fun c e O2 G2 H2 go2 z => kz _ _ _ _ _ (go1.trans rl go2) z⟩
    | false => rw [if_neg Bool.false_ne_true]; exact ⟨G1, O1, g, R, Z, go1.rel, gr.mono go1.ex, q1, fun x O2 v G2 H2 go2 vr q2 => k _ _ _ _ _ (go1.trans rl go2) vr q2, fun c e O2 G2 H2 go2 z => kz _ _ _ _ _ (go1.trans rl go2) z⟩⟩
theorem s_retX (he : PE X a (lowX X.K W tx)) : PS X (.Return (some a) pos) (lowS X.K W (dRetX tx)) := PS.by (ps_ret he) fun E s H ⟨G, O, g, F, rl, gr, h, k⟩ =>
  ⟨G, O, g, _, _, rl, gr, h, fun x O1 v G1 H1 go1 vr1 q1 => k.rt _ _ _ _ _ go1 vr1 q1, fun c e O1 G1 H1 go1 z => k.xc _ _ _ _ _ _ _ go1 (gr.mono go1.ex) z⟩
end

/-! ### a def that may raise -/
def FinX (Z : XD) (c : Value) (d : Option Addr) (O : Om) : Prop := ∃ O', (∀ a o, O' a = some o → O a = some o) ∧ Z c d O'
def endsX (R : D → Om → Prop) (Z : XD) : DEnds := { nx := fun _ O => Fin R .non O, rt := Fin R, xc := fun c d _ O => FinX Z c d O }
section
variable {P : Program} {w : World} {K : PySem.W.Frag} {mg : Str → Option Value} {base : Heap}
theorem fn_okX {x qual : Str} {params : Arguments} {body : List Stmt} {scope : Scope} {dvs : List V} {kws : List (Str × V)} {f : Addr} {fd : FuncData} {N ps : List Str} {k : Nat} {dsp : DSp} {t : DS} (F : FunD K x qual params body scope dvs kws f fd) (S : FnScope N ps scope)
    (len : ∀ xs O R Z, dsp xs O R Z → xs.length = ps.length)
    (hb : ∀ (cdv : Value) (A : Around) (outer : List Env) (s : Shared) (H : Hp) (E : XK), Room k (A.deeper (envOfC qual scope s.heap.objs.size f cdv)) → PSs (cxOf (L2.CX P w) P w K mg base N qual scope f cdv A outer s H E) body (lowS K (fun c d _ H => E c d H) t))
    (hd : ∀ xs O R Z, dsp xs O R Z → t (endsX R Z) (startD N xs) O) : FnOk P w K mg base (L2.CX P w) (k + 1) f fd ps (toSp K dsp) := by
  refine FunD.ok F S (fun vs H Q E h => ?_) (fun cdv A outer s H vs Q E hr h => ⟨lowS K (fun c d _ H => E c d H) t, hb cdv A outer s H E hr, ?_⟩)
  · obtain ⟨G, O, xs, R, Z, rl, vr, hs, _⟩ := h
    rw [vr.length]
    exact len _ _ _ _ hs
  · obtain ⟨G, O, xs, R, Z, rl, vr, hs, k, kz⟩ := h
    refine ⟨G, O, startD N xs, endsX R Z, rl, GR.start vr, hd _ _ _ _ hs, ⟨fun s' g' O' G' H' go gr q => ?_, fun _ _ _ _ _ _ _ q => q, fun _ _ _ _ _ _ _ q => q, fun x O' v G' H' go vr q => ?_, fun c d s' g' O' G' H' go gr q => ?_⟩⟩
    · obtain ⟨O2, h1, h2⟩ := q
      exact k _ _ _ _ _ (go.less h1) .non h2
    · obtain ⟨O2, h1, h2⟩ := q
      exact k _ _ _ _ _ (go.less h1) vr h2
    · obtain ⟨O2, h1, h2⟩ := q
      exact kz _ _ _ _ _ (go.less h1) h2
end

/-! ### try: .. except x as n: .. -/
/-- cat c b: an error of the class c is (b) the clause's -/
def dTryAs (i : Nat) (cat : Value → Bool → Prop) (tb : DS) (ts : Addr → Value → Option Addr → DS) : DS := fun F g O => tb { F with xc := fun c d g1 O1 => ∃ b, cat c b ∧
  (b = true → ∀ a, O1 a = none → ts a c d { F with nx := fun g2 O2 => F.nx (g2.set i none) O2, bk := fun g2 O2 => F.bk (g2.set i none) O2, ct := fun g2 O2 => F.ct (g2.set i none) O2, xc := fun _ _ _ _ => False } (g1.set i (some (.ref a))) O1) ∧ (b = false → F.xc c d g1 O1) } g O
section
variable {X : Cx} {x n : Str} {c : Value} {i : Nat} {body suite : List Stmt} {b₀ : Stmt} {np pos pos' : Pos} {tb : DS} {ts : Addr → Value → Option Addr → DS} {W : WX} {cat : Value → Bool → Prop}
theorem s_try (hs : X.stack = X.env :: X.outer) (hf : X.env.frame = some X.env.locals) (hN : X.N.Nodup) (hi : X.N[i]? = some n) (hln : X.env.kindOf n = some .local) (hc : Names X x c) (tk : Takes X W) (hcat : ∀ cl b, cat cl b → PySem.W.exmOne X.K cl c = some b)
    (hb : ∀ (W : WX) (pn : List (Addr × Obj)) (xe : Value → Shared → Prop), Takes (X.tr pn xe) W → PassesOwn (model X.prog X.w) X.A X.env xe → PSs (X.tr pn xe) body (lowS X.K W tb))
    (hsu : ∀ (a : Addr) (oe : Obj) (cls : Value) (d : Option Addr) (pn : List (Addr × Obj)), Zc cls d oe → (∃ vs, oe.data = .fields vs) → PSs (X.suite a ((a, oe) :: pn)) (b₀ :: suite) (lowS X.K W0 (ts a cls d))) :
    PS X (.Try body [.ExceptHandler (some (.Name x np)) (some n) (b₀ :: suite) pos'] [] [] pos) (lowS X.K W (dTryAs i cat tb ts)) :=
  PS.by (ps_try_as (tb := fun W => lowS X.K W tb) (ts := fun a cls d => lowS X.K W0 (ts a cls d)) (Wout := W) hs hf hN hi hln hc tk hb hsu) fun E s H ⟨G, O, g, F, rl, gr, h, k⟩ =>
    ⟨G, O, g, _, rl, gr, h, ⟨k.nx, k.bk, k.ct, k.rt, fun c' d' s1 g1 O1 G1 H1 go1 gr1 q => by
      obtain ⟨b, h1, h2, h3⟩ := q
      refine ⟨b, hcat _ _ h1, fun hb a ha => ?_, fun hb => k.xc _ _ _ _ _ _ _ go1 gr1 (h3 hb)⟩
      refine ⟨G1, O1, _, _, go1.rel, gr1.set i (.ref a), h2 hb a (go1.rel.fresh ha).1, ⟨fun s2 g2 O2 G2 H2 go2 gr2 q => k.nx _ _ _ _ _ (go1.trans rl go2) (gr2.forget i none) q, fun s2 g2 O2 G2 H2 go2 gr2 q => k.bk _ _ _ _ _ (go1.trans rl go2) (gr2.forget i none) q,
        fun s2 g2 O2 G2 H2 go2 gr2 q => k.ct _ _ _ _ _ (go1.trans rl go2) (gr2.forget i none) q, fun x O2 v G2 H2 go2 vr q => k.rt _ _ _ _ _ (go1.trans rl go2) vr q, fun _ _ _ _ _ _ _ _ _ z => z⟩⟩⟩⟩
end

/-! ### what the suite reads of the error -/
def dXf (a : Addr) (cls : Value) (d : Option Addr) (C : Addr) (f : Str) (te : DE) : DE := fun g O R => te g O fun x O1 => x = .ref a ∧ cls = .ref C ∧ ∃ (dd : Addr) (fs : List (Str × D)) (v : D), d = some dd ∧ O1 dd = some (.xd fs) ∧ fs.lookup f = some v ∧ R v O1
def dIsE (a : Addr) (cls : Value) (d : Option Addr) (C : Addr) (b : Bool) (te : DE) : DE := fun g O R => te g O fun x O1 => x = .ref a ∧ cls = .ref C ∧ (∃ (dd : Addr) (fs : List (Str × D)), d = some dd ∧ O1 dd = some (.xd fs)) ∧ R (.bl b) O1
theorem PR.look {K : PySem.W.Frag} {G : Hp} {f : Str} {v : D} : ∀ {us : List (Str × V)} {fs : List (Str × D)}, PR K G us fs → fs.lookup f = some v → ∃ u, us.lookup f = some u ∧ VR K G u v
  | _, [], _, e => by cases e
  | [], _ :: _, h, _ => by cases h
  | (n, u) :: us, (n', y) :: fs, h, e => by
    cases h with
    | cons h1 h2 =>
      obtain ⟨h1, h3⟩ := h1
      dsimp only at h1 h3
      subst h1
      by_cases hf : f = n
      · subst hf
        simp only [List.lookup, beq_self_eq_true] at e ⊢
        cases e
        exact ⟨u, rfl, h3⟩
      · have eb : (f == n) = false := by simpa using hf
        simp only [List.lookup, eb] at e ⊢
        exact PR.look h2 e
theorem Rel.xd {K : PySem.W.Frag} {G : Hp} {O : Om} {H : Hp} (r : Rel K G O H) {a : Addr} {fs : List (Str × D)} (h : O a = some (.xd fs)) : ∃ us, H a = some (.xd us) ∧ PR K G us fs := by
  obtain ⟨_, u, hu, q⟩ := r.o a _ h
  cases u <;> first | exact q.elim | exact ⟨_, hu, q⟩
section
variable {X : Cx} {a C : Addr} {oe : Obj} {cls : Value} {d : Option Addr} {pn : List (Addr × Obj)} {e y : Expr} {te : DE} {p pos : Pos} {n : Str}
theorem e_xf (T : XfC X.K C) (hno : PySem.W.findIn X.K (.ref C) n = some none) (hz : Zc cls d oe) (hf : ∃ vs, oe.data = .fields vs) (he : PE (X.suite a ((a, oe) :: pn)) e (lowE X.K te)) (hb : attributeBase e n X.env (eval e X.env) = eval e X.env := by rfl) :
    PE (X.suite a ((a, oe) :: pn)) (.Attribute e n pos) (lowE X.K (dXf a cls d C n te)) := PE.by (pe_xf T hno hz hf he hb) fun s H Q ⟨G, O, g, R, rl, gr, h, k⟩ =>
  ⟨G, O, g, _, rl, gr, h, fun x O1 v G1 H1 go1 vr1 q1 => by
    obtain ⟨rfl, hc, dd, fs, w, hd, ho, hl, q⟩ := q1
    obtain ⟨us, hu, pr⟩ := go1.rel.xd ho
    obtain ⟨u, hl2, vr⟩ := pr.look hl
    cases vr1
    exact ⟨rfl, hc, dd, us, u, hd, hu, hl2, k _ _ _ _ _ go1 vr q⟩⟩
/-- what the class must say for isinstance -/
structure XiC (K : PySem.W.Frag) (C : Addr) : Prop where
  hc : (PySem.W.clsIn K C).isSome = true
  ga : PySem.W.findIn K (.ref C) "__getattribute__" = some (some (.builtin "BaseException.__getattribute__"))
  gg : PySem.W.findIn K (.ref C) "__getattr__" = some none
  exC : PySem.W.subIn K (.ref C) (.type "BaseException") = some true
  ha : PySem.W.findIn K (.ref C) "__class__" = some (some (.builtin "object.__class__"))
  hn : PySem.W.specialIn K (.builtin "object.__class__") "__get__" = some (some (.builtin "getset_descriptor.__get__"))
  ht : PySem.W.takesIn K (.builtin "object.__class__") = some true
  hm : PySem.W.mroIn K C (.type "object") = some true
def rIsX (a C : Addr) (cls : Value) (d : Option Addr) (c : V) (b : Bool) : List V → Hp → VK → Prop := fun xs H Q => xs = [.ref a, c] ∧ cls = .ref C ∧ (∃ (dd : Addr) (fs : List (Str × V)), d = some dd ∧ H dd = some (.xd fs)) ∧ Q (.bl b) H
theorem call_isX {c : V} {cv : Value} {b : Bool} (T : XiC X.K C) (hcv : ∀ u, RelV c u → u = cv) (hk : PySem.W.kitOne X.K (.ref C) cv = some b) (hz : Zc cls d oe) (hf : ∃ vs, oe.data = .fields vs) : CallR (X.suite a ((a, oe) :: pn)) (.builtin "isinstance") (rIsX a C cls d c b) := by
  intro pins s σ H xs us Q I r h
  obtain ⟨rfl, rfl, ⟨dd, fs, rfl, hx⟩, q⟩ := h
  cases r with
  | cons rx rr =>
    cases rr with
    | cons rt rr =>
      cases rr
      cases rx
      have ec := hcv _ rt
      subst ec
      obtain ⟨hget, _⟩ := I.pin (a, oe) (List.mem_append.mpr (.inl List.mem_cons_self))
      obtain ⟨vs, hv⟩ := hf
      have hx' : ObjOk X.prog X.w H s.heap dd (.xd fs) := I.hok dd _ hx
      obtain ⟨mA, ⟨od, es, ep, ho, _⟩, _⟩ := hx'
      have J : PySem.W.InstAt s.heap a oe C (some od) := ⟨hget, hz.1, by unfold PySem.W.notCls; rw [hv] <;> rfl, by rw [hz.2]; exact ho⟩
      exact PySem.W.kia_one (PySem.W.kitx_exc T.hc T.ga T.gg T.exC T.ha T.hn T.ht T.hm) I.kIn J hk (fun z => nomatch z) fun tk => ⟨.bl b, H, I.kept (t' := tk) fun _ _ z => z, rfl, q⟩
theorem e_isE {c : V} {cv : Value} {b : Bool} (T : XiC X.K C) (hcv : ∀ u, RelV c u → u = cv) (hk : PySem.W.kitOne X.K (.ref C) cv = some b) (hz : Zc cls d oe) (hf : ∃ vs, oe.data = .fields vs) (hm : X.mg "isinstance" = none) (he : PE (X.suite a ((a, oe) :: pn)) e (lowE X.K te)) (hy : PE (X.suite a ((a, oe) :: pn)) y (tC c))
    (hg : Gl X "isinstance" := by rfl) (hs : starEach [e, y] X.env = (false, eval e X.env) :: starEach [y] X.env := by rfl) (hs2 : starEach [y] X.env = (false, eval y X.env) :: starEach [] X.env := by rfl) (hpl : (backTo pos (starEach [y] X.env)).any (·.1) = false := by rfl) :
    PE (X.suite a ((a, oe) :: pn)) (.Call (.Name "isinstance" p) [e, y] [] pos) (lowE X.K (dIsE a cls d C b te)) :=
  PE.by (pe_callB (call_isX T hcv hk hz hf) hg hm PyProof.Rows.boot_isinstance (pa_cons he (pa_cons hy pa_nil hs2) hs) (by decide) (by decide) hs hpl) fun s H Q ⟨G, O, g, R, rl, gr, h, k⟩ =>
    ⟨G, O, g, _, rl, gr, h, fun x O1 v G1 H1 go1 vr1 q1 => by
      obtain ⟨rfl, hc, ⟨dd, fs, hd, ho⟩, q⟩ := q1
      obtain ⟨us, hu, _⟩ := go1.rel.xd ho
      cases vr1
      exact ⟨rfl, hc, ⟨dd, us, hd, hu⟩, k _ _ _ _ _ go1 (.bl b) q⟩⟩
end
end DL
set_option Elab.async false
set_option linter.all false
set_option maxRecDepth 100000
set_option maxHeartbeats 2000000
namespace DL
open PySem PySem.Spec PyProof.Rows L2
open Evl (Ex)

/-! ### the making of an own error -/
/-- def __init__(self, says): self.says = says -/
def spSays (K : PySem.W.Frag) : Sp := fun vs H Q E => ∃ (a C : Addr) (y : V), vs = [.ref a, y] ∧ OexC K C ∧ PySem.W.findIn K (.ref C) "says" = some none ∧ H a = some (exo a C none) ∧
  ∀ dx, H dx = none → dx ≠ a → Q .non (upd (upd H dx (exd dx [("says", y)])) a (exo a C (some dx)))
/-- def __init__(self): B.__init__(self, m) -/
def spInit (K : PySem.W.Frag) (m : Str) : Sp := fun vs H Q E => ∃ (a C : Addr), vs = [.ref a] ∧ OexC K C ∧ PySem.W.findIn K (.ref C) "says" = some none ∧ H a = some (exo a C none) ∧
  ∀ dx, H dx = none → dx ≠ a → Q .non (upd (upd H dx (exd dx [("says", .str m)])) a (exo a C (some dx)))
/-- what is known of the class B for B.__init__(..) -/
structure CiC (K : PySem.W.Frag) (mg : Str → Option Value) (x : Str) (B fB : Addr) : Prop where
  gB : mg x = some (.ref B)
  ga : PySem.W.specialIn K (.ref B) "__getattribute__" = some (some (.builtin "type.__getattribute__"))
  tB : PySem.W.typeIn K (.ref B) = some (.type "type")
  rB : PySem.W.readsIn K B (.type "type") = true
  fi : PySem.W.findCls K (.ref B) (.type "type") "__init__" = some (.val (.ref fB))
  kB : PySem.W.keepIn K (.ref fB) = true
section
variable {X : Cx} {CX : CXT} {k : Nat} {B fB C fI : Addr} {fd : FuncData} {ps : List Str} {sp : Sp} {srcs : List Src} {dvs : List V} {x : Str} {p p1 p2 pos : Pos} {e : Expr} {es : List Expr} {ta : TA} {n : Nat} {W : WX}
def tCinit (sp : Sp) (n : Nat) (srcs : List Src) (dvs : List V) (ta : TA) : TE := fun σ H Q => ta σ H fun vs H1 => vs.length = n ∧ sp (pick vs [] dvs srcs) H1 Q E0
theorem pe_cinit {pl : Sem Bool} (T : CiC X.K X.mg x B fB) (F : FnOk X.prog X.w X.K X.mg X.base CX0 k fB fd ps sp) (hr : Room k X.A) (hb : Bnd X.K fd ps n [] srcs dvs) (ha : PA X (e :: es) ta) (hg : Gl X x := by rfl)
    (hc : eval (.Call (.Attribute (.Name x p1) "__init__" p2) (e :: es) [] pos) X.env = (do
      let ov ← eval (.Name x p1) X.env
      standAt p2.atName
      let (f, first) ← holding [ov] (getMethod ov "__init__" pl)
      callWith pos f first (backTo pos (starEach (e :: es) X.env)) (backToKw pos (keywordEach [] X.env))) := by rfl)
    (hdb : (x == ("__debug__" : Str)) = false := by decide) (he : starEach (e :: es) X.env = (false, eval e X.env) :: starEach es X.env := by rfl) (hpl : (backTo pos (starEach es X.env)).any (·.1) = false := by rfl) :
    PE X (.Call (.Attribute (.Name x p1) "__init__" p2) (e :: es) [] pos) (tCinit sp n srcs dvs ta) := by
  refine ⟨fun pins s σ H Q I h => ?_⟩
  refine PySem.W.methodCall_KW (ld_glob I hg T.gB ?_ hdb) hc
  obtain ⟨m, fr⟩ := I.fr
  refine PySem.W.method_of_cls fr I.ok.mod.kin T.ga (PySem.W.cls_val fr I.ok.mod.kin T.tB T.rB T.fi rfl ?_)
  show wpAny _ _ (callWith pos (.ref fB) [] (backTo pos (starEach (e :: es) X.env)) []) _ _ _
  refine PySem.W.callWith_K (h₀ := X.base) I.ok.mod.kin T.kB (thn (ha.run pos pins _ σ H _ (I.tok _) h) fun us s1 ⟨vs, H1, I1, r, hl, q⟩ => ⟨I1.kIn, ?_⟩) he hpl
  exact run_any (ks := []) (zs := []) (ws := []) F hr hb (fun _ _ _ _ _ _ z => z.elim) I1 r .nil hl rfl q
/-- C() -/
def tMk0 (C : Addr) (sp : Sp) : L2.St → Hp → XK → Prop := fun σ H1 Q => ∀ a, H1 a = none → sp [.ref a] (upd H1 a (exo a C none))
  (fun v H2 => v = .non ∧ ∃ (d : Addr) (fs : List (Str × V)), H2 a = some (exo a C (some d)) ∧ H2 d = some (exd d fs) ∧ H1 d = none ∧ Q (.ref C) (some d) (upd (L2.del H2 a) d (.xd fs))) (fun _ _ _ => False)
theorem pmk0 (T : OexC X.K C) (iC : PySem.W.findIn X.K (.ref C) "__init__" = some (some (.ref fI))) (tI : PySem.W.typeIn X.K (.ref fI) = some (.type "function"))
    (F1 : FnOk X.prog X.w X.K X.mg X.base CX0 k fI fd ["self"] sp) (hr : Room (k + 1) X.A) (hb : Bnd X.K fd ["self"] 1 [] [.p 0] []) (hm : X.mg x = some (.ref C)) (hg : Gl X x := by rfl)
    (hdb : (x == ("__debug__" : Str)) = false := by decide) :
    PMk X (.Call (.Name x p) [] [] pos) (tMk0 C sp) := by
  intro pins s σ H Q I h
  obtain ⟨nm, q, N, bs, bm, sn, sub, ab, col, dd, k0, k1, k2, k3, k5, hC, hbm⟩ := T.cls
  refine wpAny_Call_Name_kw (ld_glob I hg hm ?_ hdb)
  refine PySem.W.callWith_K0 I.kIn T.kC ?_
  show wpAny _ _ (call (.ref C) []) _ _ _
  obtain ⟨hp, g, dr, tk, os⟩ := s
  have hsz : hp.objs.size ≤ hp.objs.size + 1 := Nat.le_succ _
  have hn : H (hp.objs.size + 1) = none := I.hok.fresh hsz
  have hq := h (hp.objs.size + 1) hn
  have kk : ∀ b o, hp.get? b = some o → ((hp.push (PySem.W.kdv_tup [])).push (PySem.HandSPX.excO C hp.objs.size)).get? b = some o := fun b o e => Heap.get?_push_of_some _ (Heap.get?_push_of_some _ e)
  have hget : ((hp.push (PySem.W.kdv_tup [])).push (PySem.HandSPX.excO C hp.objs.size)).get? (hp.objs.size + 1) = some (PySem.HandSPX.excO C hp.objs.size) := by heap_get
  have I2 : Inv X pins σ (upd H (hp.objs.size + 1) (exo (hp.objs.size + 1) C none)) ⟨(hp.push (PySem.W.kdv_tup [])).push (PySem.HandSPX.excO C hp.objs.size), g, dr, tk, os⟩ :=
    I.laid (t' := tk) (a := hp.objs.size + 1) (o := exo (hp.objs.size + 1) C none) (h' := (hp.push (PySem.W.kdv_tup [])).push (PySem.HandSPX.excO C hp.objs.size)) kk hsz (exo_ok hget)
  have r2 : Vals [V.ref (hp.objs.size + 1)] [Value.ref (hp.objs.size + 1)] := .cons rfl .nil
  obtain ⟨ds, rd, hbt⟩ := hb.to
  refine wpAny_call (PySem.HandSPX.call_own F.excBase_ValueError (fun Y => PySem.HandSPX.refsVE_contains Y bm hbm) (I.kIn _ _ hC) (PySem.W.looks_findIn I.kIn iC) (fun self => PySem.W.bind_fn I.kIn self tI) (by rw [sizeLine_eq]; exact Nat.zero_le _)
    (codeAny_mono (F1.run _ X.stack _ _ ⟨[Value.ref (hp.objs.size + 1)], []⟩ [Value.ref (hp.objs.size + 1)] _ _ (fun _ _ _ => False) (hr.make C [] []) (I2.env0.make C [] []) (hbt _ [Value.ref (hp.objs.size + 1)] [] I2.kIn rfl rfl) r2 hq) fun r s' hq' => ?_))
  cases r with
  | error er => exact hq'.elim
  | ok fl =>
    cases fl with
    | ret u =>
      obtain ⟨v, H2, os2, bare2, un2, hok2, rv, ev, d, fs, ea, ed, hd1, q2⟩ := hq'
      subst ev
      obtain ⟨h2, g2, d2, t2, os'⟩ := s'
      exact ⟨rv, mk_end (raises_own T.exC T.tyC) I hsz kk un2 hok2 os2 bare2 ea ed hd1 q2⟩
    | next => exact False.elim hq'
    | brk => exact False.elim hq'
    | cont => exact False.elim hq'
/-- raise C(), the error's says told -/
def dRaise (C : Addr) (m : Str) : DS := fun F g O => ∀ d, O d = none → F.xc (.ref C) (some d) g (up O d (.xd [("says", .str m)]))
theorem s_raise {m : Str} {pos2 : Pos} (hc : X.calm = true) (tk : Takes X W) (T : OexC X.K C) (hno : PySem.W.findIn X.K (.ref C) "says" = some none) (iC : PySem.W.findIn X.K (.ref C) "__init__" = some (some (.ref fI))) (tI : PySem.W.typeIn X.K (.ref fI) = some (.type "function"))
    (F1 : FnOk X.prog X.w X.K X.mg X.base CX0 k fI fd ["self"] (spInit X.K m)) (hr : Room (k + 1) X.A) (hb : Bnd X.K fd ["self"] 1 [] [.p 0] []) (hm : X.mg x = some (.ref C)) (hg : Gl X x := by rfl) (hdb : (x == ("__debug__" : Str)) = false := by decide) :
    PS X (.Raise (some (.Call (.Name x p) [] [] pos)) none pos2) (lowS X.K W (dRaise C m)) :=
  PS.by (ps_raise hc tk (pmk0 T iC tI F1 hr hb hm hg hdb)) fun E s H ⟨G, O, g, F, rl, gr, h, k⟩ => fun a ha => by
    refine ⟨a, C, rfl, T, hno, upd_same, fun dx hdx ne => ?_⟩
    have hd : H dx = none := by rw [upd_ne ne] at hdx; exact hdx
    refine ⟨rfl, dx, [("says", .str m)], upd_same, ?_, hd, ?_⟩
    · rw [upd_ne ne, upd_same]
    · have eH : upd (L2.del (upd (upd (upd H a (exo a C none)) dx (exd dx [("says", .str m)])) a (exo a C (some dx))) a) dx (.xd [("says", .str m)]) = upd H dx (.xd [("says", .str m)]) := by
        funext b
        by_cases h1 : b = dx
        · subst h1; rw [upd_same, upd_same]
        · rw [upd_ne h1, upd_ne h1]
          by_cases h2 : b = a
          · subst h2; rw [L2.del_same, ha]
          · rw [L2.del_ne h2, upd_ne h2, upd_ne h1, upd_ne h2]
      rw [eH]
      exact k.xc _ _ _ _ _ _ _ (Go.new rl (o := .xd [("says", .str m)]) hd (.cons ⟨rfl, .str m⟩ .nil)) gr (h dx (rl.fresh hd).1)
end
section
variable {P : Program} {w : World} {K : PySem.W.Frag} {mg : Str → Option Value} {base : Heap}
/-- def __init__(self, says=..): self.says = says -/
theorem ok_says {x qual : Str} {params : Arguments} {scope : Scope} {dvs : List V} {kws : List (Str × V)} {f : Addr} {fd : FuncData} {q1 q2 q3 q4 : Pos} (F : FunD K x qual params [.Assign [.Attribute (.Name "self" q1) "says" q2] (.Name "says" q3) q4] scope dvs kws f fd) (S : FnScope ["self", "says"] ["self", "says"] scope)
    (hv0 : Vis scope "self") (hv1 : Vis scope "says") : FnOk P w K mg base CX0 1 f fd ["self", "says"] (spSays K) := by
  refine FunD.ok F S (fun vs H Q E h => ?_) (fun cdv A outer s H vs Q E hr h => ⟨_, (pss_one (ps_ost (pe_var (i := 0) rfl hv0 (by decide) (by decide)) (pe_var (i := 1) rfl hv1 (by decide) (by decide)) rfl)), ?_⟩)
  · obtain ⟨a, C, y, rfl, _⟩ := h
    rfl
  · obtain ⟨a, C, y, rfl, T, hno, ha, k⟩ := h
    exact ⟨y, rfl, .ref a, rfl, a, C, rfl, T, hno, .inl ⟨ha, fun dx h1 h2 => k dx h1 h2⟩⟩
/-- def __init__(self): B.__init__(self, m) -/
theorem ok_init {x qual xB : Str} {params : Arguments} {scope : Scope} {dvs dvB : List V} {kws : List (Str × V)} {f B fB : Addr} {fd fdB : FuncData} {m : Str} {j : Nat} {q1 q2 q3 q4 q5 q6 : Pos}
    (F : FunD K x qual params [.Expr (.Call (.Attribute (.Name xB q1) "__init__" q2) [.Name "self" q3, .Constant (.str m) j q4] [] q5) q6] scope dvs kws f fd) (S : FnScope ["self"] ["self"] scope)
    (hv0 : Vis scope "self") (T : CiC K mg xB B fB) (FB : FnOk P w K mg base CX0 1 fB fdB ["self", "says"] (spSays K)) (bB : Bnd K fdB ["self", "says"] 2 [] [.p 0, .p 1] dvB)
    (hh : ∀ (cdv : Value) (A : Around) (outer : List Env) (s : Shared) (H : Hp) (E : XK), Room 1 (A.deeper (envOfC qual scope s.heap.objs.size f cdv)) → PE (cxOf CX0 P w K mg base ["self"] qual scope f cdv A outer s H E) (.Call (.Attribute (.Name xB q1) "__init__" q2) [.Name "self" q3, .Constant (.str m) j q4] [] q5) (tCinit (spSays K) 2 [.p 0, .p 1] dvB (tCons (tVar 0) (tCons (tC (.str m)) tNil))))
    (hs : ∀ (cdv : Value) (A : Around) (outer : List Env) (s : Shared) (H : Hp) (E : XK), swapsWith (.Call (.Attribute (.Name xB q1) "__init__" q2) [.Name "self" q3, .Constant (.str m) j q4] [] q5) none q6.line (cxOf CX0 P w K mg base ["self"] qual scope f cdv A outer s H E).env = pure false) : FnOk P w K mg base CX0 2 f fd ["self"] (spInit K m) := by
  refine FunD.ok (k := 1) F S (fun vs H Q E h => ?_) (fun cdv A outer s H vs Q E hr h => ⟨_, (pss_one (ps_expr (hh cdv A outer s H E hr) (hs cdv A outer s H E))), ?_⟩)
  · obtain ⟨a, C, rfl, _⟩ := h
    rfl
  · obtain ⟨a, C, rfl, T, hno, ha, k⟩ := h
    exact ⟨.ref a, rfl, rfl, a, C, .str m, rfl, T, hno, ha, fun dx h1 h2 => k dx h1 h2⟩
end
end DL
set_option Elab.async false
set_option linter.all false
set_option maxRecDepth 100000
set_option maxHeartbeats 2000000
namespace DL
open PySem PySem.Spec PyProof.Rows L2
open Evl (Ex)

/-! ### expressions that may raise and those that do not -/
section
variable {X : Cx} {W : WX} {e : Expr} {te : DE} {tx : XD → DE}
theorem x_of (h : PE X e (lowE X.K te)) : PE X e (lowX X.K W (fun _ => te)) := PE.by h fun s H Q ⟨G, O, g, R, Z, rl, gr, h, k, _⟩ => ⟨G, O, g, R, rl, gr, h, k⟩
theorem e_calm (h : PE X e (lowX X.K W tx)) : PE X e (lowE X.K (tx X0)) := PE.by h fun s H Q ⟨G, O, g, R, rl, gr, h, k⟩ => ⟨G, O, g, R, X0, rl, gr, h, k, fun _ _ _ _ _ _ z => z.elim⟩
theorem takes00 {X : Cx} : Takes X W0 := fun _ _ z => by
  obtain ⟨_, _, _, _, _, _, _, _, _, _, _, _, _, _, _, _, z⟩ := z
  exact z.elim
end

/-! ### instances -/
def putFD (f : Str) (v : D) : List (Str × D) → List (Str × D)
  | [] => [(f, v)]
  | (g, x) :: r => if g = f then (g, v) :: r else (g, x) :: putFD f v r
theorem PR.putFd {K : PySem.W.Frag} {G : Hp} {f : Str} {u : V} {v : D} (h : VR K G u v) : ∀ {us : List (Str × V)} {fs : List (Str × D)}, PR K G us fs → PR K G (putF f u us) (putFD f v fs)
  | [], [], _ => .cons ⟨rfl, h⟩ .nil
  | [], _ :: _, q => by cases q
  | _ :: _, [], q => by cases q
  | (n, u') :: us, (n', y) :: fs, q => by
    cases q with
    | cons h1 h2 =>
      obtain ⟨h1, h3⟩ := h1
      dsimp only at h1 h3
      subst h1
      show PR K G (if n = f then (n, u) :: us else (n, u') :: putF f u us) (if n = f then (n, v) :: fs else (n, y) :: putFD f v fs)
      by_cases hf : n = f
      · rw [if_pos hf, if_pos hf]
        exact .cons ⟨rfl, h⟩ h2
      · rw [if_neg hf, if_neg hf]
        exact .cons ⟨rfl, h3⟩ (PR.putFd h h2)
theorem PR.no {K : PySem.W.Frag} {G : Hp} {f : Str} : ∀ {us : List (Str × V)} {fs : List (Str × D)}, PR K G us fs → fs.lookup f = none → us.lookup f = none
  | [], [], _, _ => rfl
  | [], _ :: _, q, _ => by cases q
  | _ :: _, [], q, _ => by cases q
  | (n, u') :: us, (n', y) :: fs, q, e => by
    cases q with
    | cons h1 h2 =>
      obtain ⟨h1, h3⟩ := h1
      dsimp only at h1 h3
      subst h1
      by_cases hf : f = n
      · subst hf
        simp only [List.lookup, beq_self_eq_true] at e
        cases e
      · have eb : (f == n) = false := by simpa using hf
        simp only [List.lookup, eb] at e ⊢
        exact PR.no h2 e
theorem Rel.ins {K : PySem.W.Frag} {G : Hp} {O : Om} {H : Hp} (r : Rel K G O H) {a C dx : Addr} {fs : List (Str × D)} (h : O a = some (.ins C dx fs)) : ∃ us, H a = some (.ins C dx us) ∧ PR K G us fs := by
  obtain ⟨_, u, hu, q⟩ := r.o a _ h
  cases u <;> first | exact q.elim | (obtain ⟨rfl, rfl, q⟩ := q; exact ⟨_, hu, q⟩)
/-- o.f -/
def dFld (C : Addr) (f : Str) (te : DE) : DE := fun g O R => te g O fun x O1 => ∃ (a dx : Addr) (fs : List (Str × D)) (v : D), x = .ref a ∧ O1 a = some (.ins C dx fs) ∧ fs.lookup f = some v ∧ R v O1
def dFldX (C : Addr) (f : Str) (te : XD → DE) : XD → DE := fun Z => dFld C f (te Z)
/-- o.f = v -/
def dSetF (C : Addr) (f : Str) (to : DE) (tv : XD → DE) : DS := fun F g O => tv (fun c d O1 => F.xc c d g O1) g O fun y O1 => to g O1 fun x O2 => ∃ (a dx : Addr) (fs : List (Str × D)), x = .ref a ∧ O2 a = some (.ins C dx fs) ∧ fs.length < 1000 ∧ F.nx g (up O2 a (.ins C dx (putFD f y fs)))
/-- C(..) -/
def dMakeX (C : Addr) (d : DSp) (srcs : List Src) (ds : List D) (t tk : DA) : XD → DE := fun Z g O R => t g O fun xs O1 => tk g O1 fun ys O2 => ∀ x dx, O2 x = none → O2 dx = none → dx ≠ x →
  d (pick (.ref x :: xs) ys ds srcs) (up (up O2 dx (.own x)) x (.ins C dx [])) (fun v O3 => v = .non ∧ R (.ref x) O3) Z
/-- o.m(..) -/
def dMethX (C : Addr) (m : Str) (d : DSp) (srcs : List Src) (ds : List D) (to : XD → DE) (t tk : DA) : XD → DE := fun Z g O R => to Z g O fun x O1 => ∃ (a dx : Addr) (fs : List (Str × D)), x = .ref a ∧ O1 a = some (.ins C dx fs) ∧ fs.lookup m = none ∧
  t g O1 fun xs O2 => tk g O2 fun ys O3 => d (pick (.ref a :: xs) ys ds srcs) O3 R Z
section
variable {X : Cx} {CX : CXT} {W : WX} {C f : Addr} {fd : FuncData} {ps ks : List Str} {sp : Sp} {dsp : DSp} {srcs : List Src} {dvs : List V} {ds : List D} {x m fl : Str} {p pos pos' apos : Pos} {e o : Expr} {es : List Expr} {kws : List Keyword} {te to : DE} {tx tv : XD → DE} {t tk : DA} {n k l : Nat}
theorem x_fld (T : Cls X.K C) (hn : NoAttr X.K C fl) (he : PE X e (lowX X.K W tx)) (hb : attributeBase e fl X.env (eval e X.env) = eval e X.env := by rfl) : PE X (.Attribute e fl pos) (lowX X.K W (dFldX C fl tx)) :=
  PE.by (pe_fld he hb) fun s H Q ⟨G, O, g, R, Z, rl, gr, h, k, kz⟩ => ⟨G, O, g, _, Z, rl, gr, h, fun x O1 v G1 H1 go1 vr1 q1 => by
    obtain ⟨a, dx, fs, w, rfl, ho, hl, q⟩ := q1
    obtain ⟨us, hu, pr⟩ := go1.rel.ins ho
    obtain ⟨u, hl2, vr⟩ := pr.look hl
    cases vr1
    exact ⟨a, C, dx, us, u, rfl, hu, T, hn, hl2, k _ _ _ _ _ go1 vr q⟩, kz⟩
theorem e_fld (T : Cls X.K C) (hn : NoAttr X.K C fl) (he : PE X e (lowE X.K te)) (hb : attributeBase e fl X.env (eval e X.env) = eval e X.env := by rfl) : PE X (.Attribute e fl pos) (lowE X.K (dFld C fl te)) :=
  e_calm (W := W0) (tx := dFldX C fl fun _ => te) (x_fld T hn (x_of he) hb)
theorem s_fld (T : Cls X.K C) (hn : NoAttr X.K C fl) (ho : PE X o (lowE X.K to)) (hv : PE X e (lowX X.K W tv)) (hs : swapsWith e (some (.Attribute o fl pos')) pos.line X.env = pure false := by rfl) : PS X (.Assign [.Attribute o fl pos'] e pos) (lowS X.K W (dSetF C fl to tv)) :=
  PS.by (ps_fld ho hv hs) fun E s H ⟨G, O, g, F, rl, gr, h, k⟩ => ⟨G, O, g, _, _, rl, gr, h, fun y O1 v G1 H1 go1 vr1 q1 => ⟨G1, O1, g, _, go1.rel, gr.mono go1.ex, q1, fun x O2 u G2 H2 go2 vr2 q2 => by
    obtain ⟨a, dx, fs, rfl, ho, hl, q⟩ := q2
    obtain ⟨us, hu, pr⟩ := go2.rel.ins ho
    cases vr2
    have go := go1.trans rl go2
    have gw := Go.write go2.rel (a := a) (o := .ins C dx (putFD fl y fs)) (u := .ins C dx (putF fl v us)) ho ⟨rfl, rfl, pr.putFd (vr1.mono go2.ex)⟩
    exact ⟨a, C, dx, us, rfl, hu, T, hn, by rw [pr.len]; exact hl, k.nx _ _ _ _ _ (go.trans rl gw) ((gr.mono go.ex).mono gw.ex) q⟩⟩, fun c d O1 G1 H1 go1 z => k.xc _ _ _ _ _ _ _ go1 (gr.mono go1.ex) z⟩
/-- the making -/
theorem run_mk {pins : List (Addr × Obj)} {σ : L2.St} {H : Hp} {s : Shared} {Q : VK} {us ws : List Value} {vs zs : List V} {E : XK} (M : Mk X.K C f) (F : FnOk X.prog X.w X.K X.mg X.base CX k f fd ps sp) (hr : Room (k + 1) X.A) (hb : Bnd X.K fd ps (n + 1) ks srcs dvs) (hx : PassesAt CX X σ E)
    (I : Inv X pins σ H s) (r : Vals vs us) (rz : Vals zs ws) (l1 : vs.length = n) (l2 : zs.length = ks.length)
    (h : ∀ x dx, H x = none → H dx = none → dx ≠ x → sp (pick (.ref x :: vs) zs dvs srcs) (upd (upd H dx (.own x)) x (.ins C dx [])) (fun v H2 => v = .non ∧ Q (.ref x) H2) E) :
    wpAny (model X.prog X.w) X.A (call (.ref C) us (ks.zip ws)) (EP X pins σ Q) X.xe s := by
  have hq := h (s.heap.objs.size + 1) s.heap.objs.size (I.hok.fresh (Nat.le_succ _)) (I.hok.fresh (Nat.le_refl _)) (Nat.ne_of_lt (Nat.lt_succ_self _))
  have I2 := Inv.made (C := C) I
  have r1 : Vals (V.ref (s.heap.objs.size + 1) :: vs) (Value.ref (s.heap.objs.size + 1) :: us) := .cons rfl r
  obtain ⟨ds, rd, hb⟩ := hb.to
  have r2 := pick_vals r1 rz rd srcs
  have n1 : (Value.ref (s.heap.objs.size + 1) :: us).length = n + 1 := by
    rw [List.length_cons, ← r.length, l1]
  refine wpAny_call (make_map (f := f) I.kIn M.makes M.init (beq_iff_eq.mp M.fn) (codeAny_mono (F.run _ X.stack _ _ ⟨Value.ref (s.heap.objs.size + 1) :: us, ks.zip ws⟩ (pick (Value.ref (s.heap.objs.size + 1) :: us) ws ds srcs) _ _ E (hr.make C us (ks.zip ws))
    (I2.env0.make C us (ks.zip ws)) (hb _ (Value.ref (s.heap.objs.size + 1) :: us) ws I2.kIn n1 (rz.length.symm.trans l2)) r2 hq) fun r s' hq' => ?_))
  cases r with
  | error e => exact hx pins _ _ e s' I2 hq'
  | ok fl =>
    cases fl with
    | ret u =>
      obtain ⟨v, H', I3, rv, ev, q3⟩ := I2.after hq'
      subst ev
      exact ⟨rv, ⟨V.ref (s.heap.objs.size + 1), H', I3, rfl, q3⟩⟩
    | next => exact False.elim hq'
    | brk => exact False.elim hq'
    | cont => exact False.elim hq'
/-- the new instance, as data -/
theorem mk_sp {K : PySem.W.Frag} {G1 : Hp} {O : Om} {H : Hp} {G2 : Hp} {O2 : Om} {H2 : Hp} {R : D → Om → Prop} {Z : XD} {Q : VK} {s : L2.St} {vs zs : List V} {xs ys : List D} (rl : Rel K G1 O H) (go2 : Go K G1 O H G2 O2 H2) (v1 : VRs K G2 vs xs) (v2 : VRs K G2 zs ys) (hd : ∀ G, VRs K G dvs ds)
    (q : ∀ x dx, O2 x = none → O2 dx = none → dx ≠ x → dsp (pick (.ref x :: xs) ys ds srcs) (up (up O2 dx (.own x)) x (.ins C dx [])) (fun v O3 => v = .non ∧ R (.ref x) O3) Z)
    (k : ∀ x O' v G' H', Go K G1 O H G' O' H' → VR K G' v x → R x O' → Q v H') (kz : ∀ c e O' G' H', Go K G1 O H G' O' H' → Z c e O' → W c e s H') :
    ∀ x dx, H2 x = none → H2 dx = none → dx ≠ x → toSp K dsp (pick (.ref x :: vs) zs dvs srcs) (upd (upd H2 dx (.own x)) x (.ins C dx [])) (fun v H3 => v = .non ∧ Q (.ref x) H3) (WE W s) := fun x dx hx hdx ne => by
  have g1 := Go.new go2.rel (a := dx) (o := .own x) (u := .own x) hdx rfl
  have hx1 : upd H2 dx (.own x) x = none := by rw [upd_ne (Ne.symm ne)]; exact hx
  have g2 := Go.new g1.rel (a := x) (o := .ins C dx []) (u := .ins C dx []) hx1 ⟨rfl, rfl, .nil⟩
  have g12 := g1.trans go2.rel g2
  have gg := go2.trans rl g12
  refine ⟨_, _, _, _, Z, g2.rel, pick_vrs (.cons (.ref x) (v1.mono g12.ex)) (v2.mono g12.ex) (hd _) srcs, q x dx (go2.rel.fresh hx).1 (go2.rel.fresh hdx).1 ne, fun y O3 v G3 H3 go3 vr3 q3 => ?_, fun c e O3 G3 H3 go3 z => kz _ _ _ _ _ (gg.trans rl go3) z⟩
  obtain ⟨rfl, q3⟩ := q3
  cases vr3
  exact ⟨rfl, k _ _ _ _ _ (gg.trans rl go3) (.ref x) q3⟩
theorem x_make (M : Mk X.K C f) (F : FnOk X.prog X.w X.K X.mg X.base (L2.CX X.prog X.w) k f fd ps (toSp X.K dsp)) (hr : Room (k + 1) X.A) (tk' : Takes X W) (hm : X.mg x = some (.ref C)) (hb : Bnd X.K fd ps (n + 1) ks srcs dvs) (hd : ∀ G, VRs X.K G dvs ds)
    (ha : PA X (e :: es) (lowA X.K n t)) (hkw : PK X kws (lowA X.K l tk)) (hmk : l = ks.length := by rfl) (hg : Gl X x := by rfl) (hall : (backToKw pos (keywordEach kws X.env)).all (·.1.isSome) = true := by rfl) (hks : (backToKw pos (keywordEach kws X.env)).filterMap (·.1) = ks := by rfl)
    (hdb : (x == ("__debug__" : Str)) = false := by decide) (he : starEach (e :: es) X.env = (false, eval e X.env) :: starEach es X.env := by rfl)
    (hpl : ((backTo pos (starEach (e :: es) X.env)).any (·.1) || (backToKw pos (keywordEach kws X.env)).any (·.1.isNone)) = false := by rfl) :
    PE X (.Call (.Name x p) (e :: es) kws pos) (lowX X.K W (dMakeX C dsp srcs ds t tk)) := by
  refine ⟨fun pins s σ H Q I h => ?_⟩
  refine wpAny_Call_Name_kw (ld_glob I hg hm ?_ hdb)
  obtain ⟨G, O, g, R, Z, rl, gr, h, kk, kz⟩ := h
  have h2 : lowA X.K n t σ H fun vs H1 => lowA X.K l tk σ H1 fun zs H2 => vs.length = n ∧ zs.length = l ∧ ∀ x dx, H2 x = none → H2 dx = none → dx ≠ x → toSp X.K dsp (pick (.ref x :: vs) zs dvs srcs) (upd (upd H2 dx (.own x)) x (.ins C dx [])) (fun v H3 => v = .non ∧ Q (.ref x) H3) (WE W σ) :=
    ⟨G, O, g, _, rl, gr, h, fun xs O1 vs G1 H1 go1 vr1 hl1 q1 => ⟨G1, O1, g, _, go1.rel, gr.mono go1.ex, q1, fun ys O2 zs G2 H2 go2 vr2 hl2 q2 => ⟨by rw [vr1.length, hl1], by rw [vr2.length, hl2], mk_sp rl (go1.trans rl go2) (vr1.mono go2.ex) vr2 hd q2 kk kz⟩⟩⟩
  refine PySem.W.callWith_KW (h₀ := X.base) I.ok.mod.kin M.kp hall (thn (ha.run pos pins s σ H _ I h2) fun us s1 ⟨vs, H1, I1, r, q⟩ => ?_) hpl he
  refine thn (hkw.run pos pins s1 σ H1 _ I1 q) fun ws s2 ⟨zs, H2, I2, rz, q2⟩ => ⟨I2.kIn, ?_⟩
  rw [hks]
  exact run_mk M F hr hb (passAt tk' σ) I2 r rz q2.1 (q2.2.1.trans hmk) q2.2.2
theorem x_make0 (M : Mk X.K C f) (F : FnOk X.prog X.w X.K X.mg X.base (L2.CX X.prog X.w) k f fd ps (toSp X.K dsp)) (hr : Room (k + 1) X.A) (tk' : Takes X W) (hm : X.mg x = some (.ref C)) (hb : Bnd X.K fd ps 1 ks srcs dvs) (hd : ∀ G, VRs X.K G dvs ds)
    (hkw : PK X kws (lowA X.K l tk)) (hmk : l = ks.length := by rfl) (hg : Gl X x := by rfl) (hall : (backToKw pos (keywordEach kws X.env)).all (·.1.isSome) = true := by rfl) (hks : (backToKw pos (keywordEach kws X.env)).filterMap (·.1) = ks := by rfl)
    (hdb : (x == ("__debug__" : Str)) = false := by decide)
    (hpl : ((backTo pos (starEach [] X.env)).any (·.1) || (backToKw pos (keywordEach kws X.env)).any (·.1.isNone)) = false := by rfl) :
    PE X (.Call (.Name x p) [] kws pos) (lowX X.K W (dMakeX C dsp srcs ds dNil tk)) := by
  refine ⟨fun pins s σ H Q I h => ?_⟩
  refine wpAny_Call_Name_kw (ld_glob I hg hm ?_ hdb)
  obtain ⟨G, O, g, R, Z, rl, gr, h, kk, kz⟩ := h
  have h2 : lowA X.K l tk σ H fun zs H2 => zs.length = l ∧ ∀ x dx, H2 x = none → H2 dx = none → dx ≠ x → toSp X.K dsp (pick [.ref x] zs dvs srcs) (upd (upd H2 dx (.own x)) x (.ins C dx [])) (fun v H3 => v = .non ∧ Q (.ref x) H3) (WE W σ) :=
    ⟨G, O, g, _, rl, gr, h, fun ys O2 zs G2 H2 go2 vr2 hl2 q2 => ⟨by rw [vr2.length, hl2], mk_sp (vs := []) (xs := []) rl go2 .nil vr2 hd q2 kk kz⟩⟩
  refine PySem.W.callWith_KW0 (h₀ := X.base) I.ok.mod.kin M.kp hall (thn (hkw.run pos pins s σ H _ I h2) fun ws s2 ⟨zs, H2, I2, rz, q2⟩ => ⟨I2.kIn, ?_⟩) hpl
  rw [hks]
  exact run_mk (us := []) (vs := []) M F hr hb (passAt tk' σ) I2 .nil rz rfl (q2.1.trans hmk) q2.2
/-- o.m() -/
theorem x_meth0 {pl : Sem Bool} (he : PE X o (lowX X.K W tx)) (c : Cls X.K C) (hm : Meth X.K C m f) (F : FnOk X.prog X.w X.K X.mg X.base (L2.CX X.prog X.w) k f fd ps (toSp X.K dsp)) (hr : Room k X.A) (tk' : Takes X W) (hb : Bnd X.K fd ps 1 [] srcs dvs) (hd : ∀ G, VRs X.K G dvs ds)
    (ht : eval (.Call (.Attribute o m apos) [] [] pos) X.env = (do
      let ov ← eval o X.env
      standAt apos.atName
      let (f, first) ← holding [ov] (getMethod ov m pl)
      callWith pos f first (backTo pos (starEach [] X.env)) (backToKw pos (keywordEach [] X.env))) := by rfl) :
    PE X (.Call (.Attribute o m apos) [] [] pos) (lowX X.K W (dMethX C m dsp srcs ds tx dNil dNil)) := by
  refine ⟨fun pins s σ H Q I h => ?_⟩
  obtain ⟨G, O, g, R, Z, rl, gr, h, kk, kz⟩ := h
  have h2 : lowX X.K W tx σ H fun x H1 => ∃ a dx us, x = .ref a ∧ H1 a = some (.ins C dx us) ∧ us.lookup m = none ∧ toSp X.K dsp (pick [.ref a] [] dvs srcs) H1 Q (WE W σ) :=
    ⟨G, O, g, _, Z, rl, gr, h, fun x O1 v G1 H1 go1 vr1 q1 => by
      obtain ⟨a, dx, fs, rfl, ho, hl, q⟩ := q1
      obtain ⟨us, hu, pr⟩ := go1.rel.ins ho
      cases vr1
      exact ⟨a, dx, us, rfl, hu, pr.no hl, G1, O1, _, _, Z, go1.rel, pick_vrs (.cons (.ref a) .nil) .nil (hd G1) srcs, q, fun x O3 v G3 H3 go3 vr3 q3 => kk _ _ _ _ _ (go1.trans rl go3) vr3 q3, fun c e O3 G3 H3 go3 z => kz _ _ _ _ _ (go1.trans rl go3) z⟩, kz⟩
  refine PySem.W.methodCall_KW (pl := pl) (thn (he.run pins s σ H _ I h2) fun u s1 ⟨x, H1, I1, rx, a, dx, us, ex, ea, l, q⟩ => ?_) ht
  subst ex
  obtain rfl : u = Value.ref a := rx
  refine getmeth_ok I1 ea c hm l ?_
  exact PySem.W.callWith_K0 (first := [.ref a]) I1.kIn hm.kp (run_any (ks := []) (us := [.ref a]) (vs := [.ref a]) (zs := []) (ws := []) F hr hb (passAt tk' σ) I1 (.cons rfl .nil) .nil rfl rfl q)
end
/-- a promise that lets nothing out is one that may let things out -/
theorem warm {P : Program} {w : World} {K : PySem.W.Frag} {mg : Str → Option Value} {base : Heap} {k : Nat} {f : Addr} {fd : FuncData} {ps : List Str} {sp : Sp} (F : FnOk P w K mg base CX0 k f fd ps sp) : FnOk P w K mg base (L2.CX P w) k f fd ps sp :=
  ⟨F.len, fun A outer s H args us vs Q E hr he hb hv h => codeAny_mono (F.run A outer s H args us vs Q E hr he hb hv h) fun r s' hq => by
    cases r with
    | error e => exact hq.elim
    | ok fl => cases fl <;> exact hq⟩
end DL
namespace DL
open PySem PySem.Spec PyProof.Rows L2
theorem lookup_putFD (f g : Str) (v : D) : ∀ fs : List (Str × D), (putFD f v fs).lookup g = if g = f then some v else fs.lookup g
  | [] => by
    show List.lookup g [(f, v)] = _
    by_cases h : g = f
    · subst h; simp [List.lookup]
    · have e : (g == f) = false := by simpa using h
      rw [if_neg h]; simp [List.lookup, e]
  | (k, x) :: r => by
    have ih := lookup_putFD f g v r
    show List.lookup g (if k = f then (k, v) :: r else (k, x) :: putFD f v r) = _
    by_cases hk : k = f
    · rw [if_pos hk]
      subst hk
      by_cases h : g = k
      · subst h; simp [List.lookup]
      · have e : (g == k) = false := by simpa using h
        rw [if_neg h]; simp [List.lookup, e]
    · rw [if_neg hk]
      by_cases h : g = k
      · subst h
        rw [if_neg hk]
        simp [List.lookup]
      · have e : (g == k) = false := by simpa using h
        simp only [List.lookup, e]
        exact ih
theorem length_putFD (f : Str) (v : D) : ∀ fs : List (Str × D), (putFD f v fs).length ≤ fs.length + 1
  | [] => by simp [putFD]
  | (k, x) :: r => by
    have ih := length_putFD f v r
    show (if k = f then (k, v) :: r else (k, x) :: putFD f v r).length ≤ _
    split
    · simp
    · simp only [List.length_cons]; omega
/-- C(e), e one that may raise -/
def dMake1X (C : Addr) (d : DSp) (te : XD → DE) : XD → DE := fun Z g O R => te Z g O fun v O1 => ∀ x dx, O1 x = none → O1 dx = none → dx ≠ x →
  d [.ref x, v] (up (up O1 dx (.own x)) x (.ins C dx [])) (fun u O3 => u = .non ∧ R (.ref x) O3) Z
theorem x_make1 {X : Cx} {W : WX} {C f : Addr} {fd : FuncData} {ps : List Str} {dsp : DSp} {x : Str} {p pos : Pos} {e : Expr} {tx : XD → DE} {k : Nat} (M : Mk X.K C f) (F : FnOk X.prog X.w X.K X.mg X.base (L2.CX X.prog X.w) k f fd ps (toSp X.K dsp)) (hr : Room (k + 1) X.A) (tk' : Takes X W) (hm : X.mg x = some (.ref C)) (hb : Bnd X.K fd ps 2 [] [.p 0, .p 1] [])
    (ha : PE X e (lowX X.K W tx)) (hg : Gl X x := by rfl) (hdb : (x == ("__debug__" : Str)) = false := by decide) (he : starEach [e] X.env = (false, eval e X.env) :: starEach [] X.env := by rfl) (hpl : (backTo pos (starEach [] X.env)).any (·.1) = false := by rfl) :
    PE X (.Call (.Name x p) [e] [] pos) (lowX X.K W (dMake1X C dsp tx)) := by
  refine ⟨fun pins s σ H Q I h => ?_⟩
  refine wpAny_Call_Name_kw (ld_glob I hg hm ?_ hdb)
  obtain ⟨G, O, g, R, Z, rl, gr, h, kk, kz⟩ := h
  have h2 : tCons (lowX X.K W tx) tNil σ H fun vs H2 => vs.length = 1 ∧ ∀ x dx, H2 x = none → H2 dx = none → dx ≠ x → toSp X.K dsp (pick (.ref x :: vs) [] [] [.p 0, .p 1]) (upd (upd H2 dx (.own x)) x (.ins C dx [])) (fun v H3 => v = .non ∧ Q (.ref x) H3) (WE W σ) :=
    ⟨G, O, g, _, Z, rl, gr, h, fun y O1 v G1 H1 go1 vr1 q1 => ⟨rfl, mk_sp (srcs := [.p 0, .p 1]) (ds := []) (dvs := []) (xs := [y]) (ys := []) rl go1 (.cons vr1 .nil) .nil (fun _ => .nil) q1 kk kz⟩, kz⟩
  refine PySem.W.callWith_K (h₀ := X.base) I.ok.mod.kin M.kp (thn ((pa_cons ha pa_nil he).run pos pins s σ H _ I h2) fun us s1 ⟨vs, H1, I1, r, l, q⟩ => ⟨I1.kIn, ?_⟩) he hpl
  exact run_mk (ks := []) (zs := []) (ws := []) M F hr hb (passAt tk' σ) I1 r .nil l rfl q
end DL
set_option Elab.async false
set_option linter.all false
set_option maxRecDepth 100000
set_option maxHeartbeats 2000000
namespace DL
open PySem PySem.Spec PyProof.Rows L2
open Evl (Ex)

/-! ### expressions told by the heap, which stays -/
def Pu (prog : Program) (w : World) (A : Around) (env : Env) (e : Expr) (h : Heap) (P : Value → Prop) : Prop :=
  ∀ (s : Shared) (Q E : Value → Shared → Prop), s.heap = h → (∀ v tk, P v → Q v { s with toks := tk }) → wpAny (model prog w) A (eval e env) Q E s
def IsI (n : Int) : Value → Prop := fun v => ∃ t, v = .int n t
section
variable {prog : Program} {w : World} {A : Around} {env : Env} {h : Heap} {a b : Expr} {pos : Pos} {m : Str → Option Value} {L c : Addr} {x : Str} {v : Value} {i j : Int} {n : Nat}
theorem pu_int {k} : Pu prog w A env (.Constant (.int i) k pos) h (IsI i) := fun s Q E _ q => wpAny_Constant_int (q _ _ ⟨_, rfl⟩)
theorem pu_loc (hk : env.scope.kind = .function) (hl : env.kindOf x = some .local) (hL : env.locals = L) (hn : h.Ns L m) (hv : m x = some v) (hd : (x == ("__debug__" : Str)) = false := by decide) : Pu prog w A env (.Name x pos) h (· = v) := fun s Q E e q => by
  subst e hL
  exact wpAny_Name (wpAny_loadName_local hk hl hn hv (q v s.toks rfl)) hd
theorem pu_free (hk : env.scope.kind = .function) (hl : env.kindOf x = some .free) (hc : env.cells.lookup x = some c) (hv : h.IsCell c (some v)) (hd : (x == ("__debug__" : Str)) = false := by decide) (hcd : (x == ("__classdict__" : Str)) = false := by decide) : Pu prog w A env (.Name x pos) h (· = v) := fun s Q E e q => by
  subst e
  exact wpAny_Name (wpAny_loadName_free hk hl hc hv (q v s.toks rfl) hcd) hd
theorem pu_mul (ha : Pu prog w A env a h (IsI i)) (hb : Pu prog w A env b h (IsI j)) (hm : IntMulOk i j) : Pu prog w A env (.BinOp a .Mult b pos) h (IsI (i * j)) := fun s Q E e q =>
  wpAny_BinOp (ha s _ _ e fun u tk ⟨t, hu⟩ => hb _ _ _ e fun u2 tk2 ⟨t2, hu2⟩ => by
    subst hu hu2
    exact mul_int (q _ _ ⟨_, rfl⟩) hm)
theorem pu_fd (ha : Pu prog w A env a h (IsI i)) (hb : Pu prog w A env b h (IsI j)) (h0 : j ≠ 0) (hp : Builtin.divisionGoesByPylong i j = false) : Pu prog w A env (.BinOp a .FloorDiv b pos) h (IsI (i.fdiv j)) := fun s Q E e q =>
  wpAny_BinOp (ha s _ _ e fun u tk ⟨t, hu⟩ => hb _ _ _ e fun u2 tk2 ⟨t2, hu2⟩ => by
    subst hu hu2
    exact floordiv_int h0 (q _ _ ⟨_, rfl⟩) (.inl hp))
theorem pu_ixT {t : Addr} {items : Array Value} (ha : Pu prog w A env a h (· = .ref t)) (hb : Pu prog w A env b h (IsI i)) (ht : IsTup h t items) (hlo : -(2 ^ 63) ≤ i) (hhi : i < 2 ^ 63) (hj : seqIndex? i items.size = some n) (hx : items[n]? = some v)
    (hs : ∀ o i, subscripted b false o i = operate [o, i] (getItem o i)) : Pu prog w A env (.Subscript a b pos) h (· = v) := fun s Q E e q =>
  Subscript_ (ha s _ _ e fun u tk hu => hb _ _ _ e fun u2 tk2 ⟨t2, hu2⟩ => by
    subst hu hu2 e
    exact subscriptTail_builtinR (x := v) (IsTup.typeIs (s := { s with toks := tk2 }) ht) slot_tuple_getitem.lookup (getItem_tuple (j := n) (s := { s with toks := tk2 }) (Q := fun r s' => r = v ∧ Q r s') ht hlo hhi hj hx ⟨rfl, q v tk2 rfl⟩) (hs _ _))
end

/-! ### the lambda called with one thing -/
section
variable {prog : Program} {w : World} {A : Around} {s : Shared} {f c' : Addr} {v : Value} {q p : Str} {params : Arguments} {body : Expr} {scope : Scope} {clos : List (Str × Addr)} {pm ctv : Value} {k : PyData}
theorem lam_key (ho : s.heap.get? f = some (PySem.W.kla_obj "<lambda>" q params body scope clos pm c' ctv)) (hcd : s.heap.CodeRec (.ref c') q) (hroom : A.depth < recursionLimit) (hl : s.heap.NoLimit)
    (hbind : bindArgs (PySem.W.kla_fn "<lambda>" q params body scope clos pm (.ref c') ctv) ⟨[v], []⟩ = pure [(p, v)]) (hloc : scope.names.lookup p = some .local) (hcell : ∀ x ∈ scope.names, x.2 ≠ .cell) (hk : scope.kind = .function) (hco : scope.isCoroutine = false) (hgen : scope.isGenerator = false)
    (h : ∀ h₁ : Heap, h₁.Ns s.heap.objs.size (fun y => ([(p, v)] : List (Str × Value)).reverse.lookup y) → (∀ b o, s.heap.get? b = some o → h₁.get? b = some o) →
      Pu prog w (A.deeper (PySem.W.envX q scope s.heap.objs.size f (.ref c') clos)) (PySem.W.envX q scope s.heap.objs.size f (.ref c') clos) body h₁ fun u => Reads h₁ u k []) :
    wpAny (model prog w) A (call (.ref f) [v]) (PySem.W.KeyPure k s) (fun _ _ => False) s := by
  refine wpAny_call ?_
  refine PySem.W.kla_callFunE hroom ho rfl hco hgen rfl hcd ?_
  rw [hbind]
  refine wpAny_pure (wpAny_newFunctionEnv hcell (fun y hy => by simp only [List.mem_cons, List.not_mem_nil, or_false] at hy; subst hy; exact hloc) (fun h₁ hns hsb => ⟨hl.fresh _ hsb, ?_⟩) hk)
  show codeAny _ _ (.expr body (PySem.W.envX q scope s.heap.objs.size f (.ref c') clos)) _ _
  have hk₁ : ∀ b o, s.heap.get? b = some o → h₁.get? b = some o := fun b o e => hsb.extBut b o (Nat.ne_of_lt (Heap.lt_size e)) (Heap.get?_push_of_some _ e)
  exact PySem.W.kla_codeExpr (h h₁ hns hk₁ _ _ _ rfl fun u tk hu => ⟨h₁, tk, rfl, hk₁, hu⟩)
end

/-! ### sorted(e, key=lambda ..) -/
/-- what the lambda's object is -/
abbrev lamO (X : Cx) (params : Arguments) (body : Expr) (scope : Scope) (pm ctv : Value) (c' : Addr) : Obj := PySem.W.kla_obj "<lambda>" (X.env.qual ++ "<lambda>") params body scope (cloFrom X.env.cells scope.names []) pm c' ctv
/-- key c σ H b k: the lambda tells k of b -/
def KeyOf (X : Cx) (params : Arguments) (body : Expr) (scope : Scope) (C : L2.St → Hp → V → PyData → Prop) : Prop :=
  ∀ (pins : List (Addr × Obj)) (s : Shared) (σ : L2.St) (H : Hp) (f c' : Addr) (pm ctv : Value) (b : V) (v : Value) (k : PyData) (h : Heap) (tk : Nat), Inv X pins σ H s → s.heap.get? f = some (lamO X params body scope pm ctv c') → H c' = some (LamX.CodeO c' (X.env.qual ++ "<lambda>")) →
    RelV b v → C σ H b k → (∀ b o, s.heap.get? b = some o → h.get? b = some o) → wpAny (model X.prog X.w) X.A.in1.in1 (call (.ref f) [v]) (PySem.W.KeyPure k { s with heap := h, toks := tk }) (fun _ _ => False) { s with heap := h, toks := tk }
def skQ (X : Cx) (T : List (Addr × Str)) (C : L2.St → Hp → V → PyData → Prop) (σ : L2.St) (Q : VK) : List V → Hp → Prop := fun vs H1 => ∃ (l : Addr) (bs : List (V × PyData)), vs = [.ref l] ∧ SqL X.K H1 l (bs.map (·.1)) ∧ PySem.W.AllAlike (bs.map (·.2)) ∧ PySem.W.Sortable (bs.map (·.2)) ∧
  (∀ p, p ∈ bs → X.A.units + 2 + p.2.depth < cLine) ∧ LamX.Tabs T H1 ∧ ∀ H2, LamX.ExtN H1 H2 → LamX.Tabs T H2 → (∀ p, p ∈ bs → C σ H2 p.1 p.2) ∧ ∀ p, H2 p = none → Q (.ref p) (upd H2 p (.lst ((bs.mergeSort (PySem.W.dataLe false (·.2))).map (·.1))))
def tSortKey (X : Cx) (T : List (Addr × Str)) (C : L2.St → Hp → V → PyData → Prop) (te : TE) : TE := fun σ H Q => te σ H fun x H1 => skQ X T C σ Q [x] H1
theorem rd_extN {H H2 : Hp} {a : Addr} {o : HO} (e : LamX.ExtN H H2) (n : ∀ ps, o ≠ .tbl ps) (h : Rd H a o) : Rd H2 a o := by
  rcases h with h | ⟨ob, h⟩
  · exact .inl (e _ _ h n)
  · exact .inr ⟨ob, e _ _ h fun ps z => by cases z⟩
theorem sql_extN {K : PySem.W.Frag} {H H2 : Hp} {a : Addr} {xs : List V} (e : LamX.ExtN H H2) (h : SqL K H a xs) : SqL K H2 a xs := by
  rcases h with h | h
  · exact .inl (rd_extN e (fun ps z => by cases z) h)
  · exact .inr h
theorem sqt_extN {K : PySem.W.Frag} {H H2 : Hp} {a : Addr} {xs : List V} (e : LamX.ExtN H H2) (h : SqT K H a xs) : SqT K H2 a xs := by
  rcases h with h | h
  · exact .inl (rd_extN e (fun ps z => by cases z) h)
  · exact .inr h
theorem each_vals : ∀ {bs : List (V × PyData)} {us : List Value}, Vals (bs.map (·.1)) us → PySem.W.EachIs (fun v (p : V × PyData) => RelV p.1 v) us bs
  | [], _, h => by cases h; exact .nil
  | _ :: _, _, h => by
    cases h with
    | cons h1 h2 => exact .cons h1 (each_vals h2)
theorem vals_each : ∀ {bs : List (V × PyData)} {us : List Value}, PySem.W.EachIs (fun v (p : V × PyData) => RelV p.1 v) us bs → Vals (bs.map (·.1)) us
  | [], [], _ => .nil
  | [], _ :: _, h => nomatch h
  | _ :: _, [], h => nomatch h
  | _ :: _, _ :: _, h => by
    cases h with
    | cons h1 h2 => exact .cons h1 (vals_each h2)
theorem pe_sortKey {X : Cx} {T : List (Addr × Str)} {c P : Addr} {params : Arguments} {body : Expr} {scope : Scope} {e : Expr} {te : TE} {p pos lpos kpos : Pos} {C : L2.St → Hp → V → PyData → Prop} (hg : Gl X "sorted") (hm : X.mg "sorted" = none) (he : PE X e te) (hK : KeyOf X params body scope C)
    (TB : LamX.TabB X.base X.mg c P) (hcode : X.env.code = .ref c) (hmT : (P, X.env.qual ++ "<lambda>") ∈ T) (hu : ∀ q ∈ T, q.1 = P → q.2 = X.env.qual ++ "<lambda>") (hdef : defaultsOf params X.env = ([], [])) (hfree : X.Ok → ∀ y ∈ scope.names, y.2 = .free → ∃ c, X.env.cells.lookup y.1 = some c)
    (hs : starEach [e] X.env = (false, eval e X.env) :: starEach [] X.env := by rfl) :
    PE X (.Call (.Name "sorted" p) [e] [⟨some "key", .Lambda params body scope lpos, kpos⟩] pos) (tSortKey X T C te) := by
  refine ⟨fun pins s σ H Q I h => ?_⟩
  refine wpAny_Call_Name_kw (ld_blt I hg hm PyProof.Rows.boot_sorted ?_ (by decide) (by decide))
  refine PyProof.Rows.callWith_kw (thn ((pa_cons he pa_nil hs).run pos pins s σ H (skQ X T C σ Q) I h) fun us s1 ⟨vs, H1, I1, r1, l, bs, ev, hl, hal, hso, hun, hT, q1⟩ => ?_) (by rw [hs]; rfl) (by rw [hs]; rfl) rfl rfl
  subst ev
  show wpAny _ _ (evalAll [do let v ← eval (.Lambda params body scope lpos) X.env; standAt pos; pure v]) _ _ s1
  refine wpAny_evalAll_cons (wpAny_bind (LamX.lam_make2 I1 TB hcode hmT hu hT hdef (hfree I1.ok) fun f c' pm ctv H2 s2 I2 eN T2 hf hfn hfr hco => wpAny_bind (wpAny_standAt (wpAny_pure (wpAny_pure ?_)))))
  obtain ⟨hC, q2⟩ := q1 H2 eN T2
  cases r1 with
  | cons ra rn =>
    cases rn
    cases ra
    show wpAny _ _ (call (.builtin "sorted") [.ref l] [(Str.ofString "key", .ref f)]) _ _ _
    have hl2 : SqL X.K H2 l (bs.map (·.1)) := sql_extN eN hl
    obtain ⟨its, rv, il, hz⟩ := I2.list hl2
    refine PySem.W.sorted_key_data (R := fun v (p : V × PyData) => RelV p.1 v) (bs := bs) (b := false) (·.2) (vs := its) il.isList (each_vals rv) hal hso ?_ hun (ksk_s1 _ _) (fun _ => ksk_l1 _ _) (fun x => ksk_t1 f x) (fun v p r hp h tk kp => ?_) (fun out cc h' tk kp hn ho hlen ho2 => ?_)
    · rw [List.length_map] at hz; exact hz
    · exact hK pins s2 σ H2 f c' pm ctv p.1 v p.2 h tk I2 hf hco r (hC p hp) kp
    · refine ⟨.ref (s2.heap.objs.size + 1), _, I2.laid (t' := tk) (a := s2.heap.objs.size + 1) (o := .lst ((bs.mergeSort (PySem.W.dataLe false (·.2))).map (·.1))) kp (Nat.le_succ _) ⟨?_, _, cc, vals_each ho2, ho⟩, rfl, q2 _ (I2.hok.fresh (Nat.le_succ _))⟩
      rw [List.length_map, List.length_mergeSort]
      rw [List.length_map] at hz; exact hz
end DL
set_option Elab.async false
set_option linter.all false
set_option maxRecDepth 100000
set_option maxHeartbeats 2000000
namespace DL
open PySem PySem.Spec PyProof.Rows L2
open Evl (Ex)

/-- the closure of a lambda -/
theorem clo_at {X : Cx} {scope : Scope} {y : Str} {c : Addr} (hc : X.env.cells.lookup y = some c) (hy : scope.names.lookup y = some .free) : (cloFrom X.env.cells scope.names []).lookup y = some c := by
  obtain ⟨c2, h2⟩ := mem_lookup (cloFrom_has (cells := X.env.cells) (acc := []) (PySem.mem_of_lookup hy))
  rw [h2]
  rcases cloFrom_mem (PySem.mem_of_lookup h2) with hm | ⟨_, h3⟩
  · cases hm
  · rw [h3, hc] <;> rfl
/-- lambda one: one[0] * (whole // one[1]), whole the slot iw -/
def keyRise (K : PySem.W.Frag) (iw : Nat) : L2.St → Hp → V → PyData → Prop := fun σ H b k => ∃ (t : Addr) (n d W : Int), b = .ref t ∧ SqT K H t [.int n, .int d] ∧ σ[iw]? = some (some (.int W)) ∧ d ≠ 0 ∧ Builtin.divisionGoesByPylong W d = false ∧ IntMulOk n (W.fdiv d) ∧ k = .int (n * W.fdiv d)
theorem key_rise {X : Cx} {k iw j0 j1 : Nat} {scope : Scope} {params : Arguments} {p1 p2 p3 p4 p5 p6 p7 p8 p9 : Pos} (hr : Room (k + 1) X.A) (hN : X.N[iw]? = some ("whole" : Str)) (hcl : X.env.scope.names.lookup ("whole" : Str) = some .cell)
    (ho : scope.names.lookup ("one" : Str) = some .local) (hw : scope.names.lookup ("whole" : Str) = some .free) (hcell : ∀ x ∈ scope.names, x.2 ≠ .cell) (hk : scope.kind = .function) (hco : scope.isCoroutine = false) (hgen : scope.isGenerator = false)
    (hbind : ∀ (q : Str) (body : Expr) (cl : List (Str × Addr)) (pm cv ctv v : Value), bindArgs (PySem.W.kla_fn "<lambda>" q params body scope cl pm cv ctv) ⟨[v], []⟩ = pure [(("one" : Str), v)]) :
    KeyOf X params (.BinOp (.Subscript (.Name "one" p1) (.Constant (.int 0) j0 p2) p3) .Mult (.BinOp (.Name "whole" p4) .FloorDiv (.Subscript (.Name "one" p5) (.Constant (.int 1) j1 p6) p7) p8) p9) scope (keyRise X.K iw) := by
  intro pins s σ H f c' pm ctv b v kd h tk I hf hc rb hC kp
  obtain ⟨t, n, d, W, rfl, hS, hW, hd, hp, hm, rfl⟩ := hC
  obtain rfl : v = Value.ref t := rb
  obtain ⟨its, rv, ht, _⟩ := I.tuple hS
  obtain ⟨⟨oc, vs, tq, hoc, hdc, hvc⟩, _, _⟩ := I.hok c' _ hc
  obtain ⟨m, hn, hl⟩ := I.loc
  obtain ⟨u, ru, hu⟩ := hl iw _ _ hN hW (.inr (.inl hcl))
  obtain ⟨tW, rfl⟩ := ru
  obtain ⟨c, hcc, hIs⟩ : ∃ c, X.env.cells.lookup ("whole" : Str) = some c ∧ s.heap.IsCell c (some (.int W tW)) := by
    rcases hu with ⟨k', _⟩ | ⟨_, c, e, z⟩
    · rw [show X.env.scope.names.lookup ("whole" : Str) = _ from k'] at hcl; cases hcl
    · exact ⟨c, e, z⟩
  obtain ⟨i0, i1, rfl, t0, t1, rfl, rfl⟩ : ∃ i0 i1, its = [i0, i1] ∧ ∃ t0 t1, i0 = .int n t0 ∧ i1 = .int d t1 := by
    cases rv with
    | cons a rv =>
      cases rv with
      | cons b rv =>
        cases rv
        obtain ⟨t0, rfl⟩ := a
        obtain ⟨t1, rfl⟩ := b
        exact ⟨_, _, rfl, _, _, rfl, rfl⟩
  have hroom : (X.A.in1.in1).depth < recursionLimit := by
    have := hr.dp
    have e : (X.A.in1.in1).depth ≤ X.A.depth + 2 := by first | exact Nat.le_add_right _ _ | decide | omega | (show X.A.depth ≤ _; omega)
    omega
  refine lam_key (s := { s with heap := h, toks := tk }) (p := "one") (kp _ _ hf) ⟨c', oc, vs, tq, rfl, kp _ _ hoc, hdc, hvc⟩ hroom (I.nolimit.keeps kp) (hbind _ _ _ _ _ _ _) ho hcell hk hco hgen fun h₁ hns hk₁ => ?_
  have kk : ∀ b o, s.heap.get? b = some o → h₁.get? b = some o := fun b o e => hk₁ _ _ (kp _ _ e)
  have ht' : IsTup h₁ t #[.int n t0, .int d t1] := ht.keeps kk
  have hcel : h₁.IsCell c (some (.int W tW)) := by
    obtain ⟨o, ho, hd⟩ := hIs
    exact ⟨o, kk _ _ ho, hd⟩
  have one : ∀ {p : Pos}, Pu X.prog X.w (X.A.in1.in1.deeper (PySem.W.envX (X.env.qual ++ "<lambda>") scope h.objs.size f (.ref c') (cloFrom X.env.cells scope.names []))) (PySem.W.envX (X.env.qual ++ "<lambda>") scope h.objs.size f (.ref c') (cloFrom X.env.cells scope.names [])) (.Name "one" p) h₁ (· = .ref t) := fun {p} =>
    pu_loc hk ho rfl hns (by simp [List.lookup])
  have hI : ∀ {e : Expr} {h : Heap} {A : Around} {env : Env} {i : Int} {tk : Tok}, Pu X.prog X.w A env e h (· = .int i tk) → Pu X.prog X.w A env e h (IsI i) := fun {e h A env i tk} q s Q E e1 q2 => q s Q E e1 fun v t hv => q2 v t ⟨tk, hv⟩
  have x0 := pu_ixT (pos := p3) (n := 0) (one (p := p1)) (pu_int (k := j0) (pos := p2) (i := 0)) ht' (by decide) (by decide) rfl rfl (fun _ _ => by first | rfl | with_unfolding_all rfl)
  have x1 := pu_ixT (pos := p7) (n := 1) (one (p := p5)) (pu_int (k := j1) (pos := p6) (i := 1)) ht' (by decide) (by decide) rfl rfl (fun _ _ => by first | rfl | with_unfolding_all rfl)
  have xw : Pu X.prog X.w (X.A.in1.in1.deeper (PySem.W.envX (X.env.qual ++ "<lambda>") scope h.objs.size f (.ref c') (cloFrom X.env.cells scope.names []))) (PySem.W.envX (X.env.qual ++ "<lambda>") scope h.objs.size f (.ref c') (cloFrom X.env.cells scope.names [])) (.Name "whole" p4) h₁ (· = .int W tW) := pu_free hk hw (clo_at hcc hw) hcel
  have fin := pu_mul (pos := p9) (hI x0) (pu_fd (pos := p8) (hI xw) (hI x1) hd hp) hm
  intro s' Q E e q
  refine fin s' Q E e fun v tk hv => q v tk ?_
  obtain ⟨tz, rfl⟩ := hv
  exact .int _ _
end DL
set_option Elab.async false
set_option linter.all false
set_option maxRecDepth 100000
set_option maxHeartbeats 2000000
namespace DL
open PySem PySem.Spec PyProof.Rows L2
open Evl (Ex)

/-- the table ps, and what the making of a lambda leaves of it -/
def TabOk (H : Hp) (q : Str) (ps : Array Value) : Prop := TriplesOk ps.toList ∧ ∀ (pos : Pos) (cv : Value), codeAmong pos ps.toList = some cv → ∃ c, cv = .ref c ∧ H c = some (LamX.CodeO c q)
inductive TabGo (P : Addr) (q : Str) (H : Hp) (ps : Array Value) : Hp → Prop
  | same : TabGo P q H ps H
  | more (c : Addr) (more : Array Value) : H c = none → TriplesOk (ps ++ more).toList → (∀ (pos : Pos) (cv : Value), codeAmong pos (ps ++ more).toList = some cv → codeAmong pos ps.toList = some cv ∨ cv = .ref c) → TabGo P q H ps (upd (upd H P (.tbl (ps ++ more))) c (LamX.CodeO c q))
theorem TabGo.extN {P : Addr} {q : Str} {H H' : Hp} {ps : Array Value} (h : TabGo P q H ps H') (hP : H P = some (.tbl ps)) : LamX.ExtN H H' := by
  cases h with
  | same => exact LamX.ExtN.refl H
  | more c more hn h1 h2 =>
    intro b o e n
    rw [upd_ne (ne_of_none e hn), upd_ne (fun z => n ps (Option.some.inj (e.symm.trans (by rw [z]; exact hP))))]
    exact e
theorem lam_make3 {X : Cx} {pins : List (Addr × Obj)} {σ : L2.St} {H : Hp} {s : Shared} {c P : Addr} {ps : Array Value} {params : Arguments} {body : Expr} {scope : Scope} {pos : Pos} {E Q : Value → Shared → Prop} (I : Inv X pins σ H s) (TB : LamX.TabB X.base X.mg c P) (hcode : X.env.code = .ref c)
    (hP : H P = some (.tbl ps)) (ht : TabOk H (X.env.qual ++ "<lambda>") ps) (hdef : defaultsOf params X.env = ([], [])) (hfree : ∀ y ∈ scope.names, y.2 = .free → ∃ c, X.env.cells.lookup y.1 = some c)
    (h : ∀ (f c' : Addr) (pm ctv : Value) (H1 : Hp) (s' : Shared), Inv X pins σ H1 s' → TabGo P (X.env.qual ++ "<lambda>") H ps H1 → s'.heap.get? f = some (lamO X params body scope pm ctv c') → H1 c' = some (LamX.CodeO c' (X.env.qual ++ "<lambda>")) → Q (.ref f) s') :
    wpAny (model X.prog X.w) X.A (eval (.Lambda params body scope pos) X.env) Q E s := by
  refine PySem.W.kla_eval hdef ?_
  have bP : s.heap.BuiltinsAt X.mg P := TB.bm.keeps I.bk
  have hP' : s.heap.get? P = some { cls := .none, data := .fields ps } := I.hok P _ hP
  cases hc : codeAmong pos ps.toList with
  | none =>
    refine PySem.W.kla_makeFunction (mg := X.mg) (c := c) (P := P) (ps := ps) (closure_ok hfree) I.ok.glob (I.mod.glob.keeps I.bk) hcode (TB.code.keeps I.bk) hP' ht.1 hc TB.gP bP fun c' ctv h' tk hx hge hlt hrec htb => ?_
    obtain ⟨c2, oc, vs, t, e2, hoc, hd, hv⟩ := hrec
    cases e2
    have nC : H c' = none := I.hok.fresh hge
    have I1 := LamX.inv_table (t' := tk) (more := #[rawInt pos.line, rawInt pos.col, .ref c']) (h' := h'.push (lamO X params body scope ((X.mg "__name__").getD .none) ctv c')) I hP
      (fun b o hb e => Heap.get?_push_of_some _ (hx b o hb e)) (Heap.get?_push_of_some _ htb) hge ⟨oc, vs, t, Heap.get?_push_of_some _ hoc, hd, hv⟩
    have eL : (ps ++ #[rawInt pos.line, rawInt pos.col, .ref c']).toList = ps.toList ++ [rawInt pos.line, rawInt pos.col, .ref c'] := by simp
    refine h h'.objs.size c' ((X.mg "__name__").getD .none) ctv _ _ I1 (.more c' _ nC (by rw [eL]; exact PySem.TriplesOk_snoc _ _ _ _ ht.1) fun p' cv hcv => ?_) (Heap.get?_push_size _ rfl) upd_same
    rw [eL] at hcv
    exact LamX.among_app _ ht.1 hcv
  | some cv =>
    obtain ⟨c', e, hco⟩ := ht.2 pos cv hc
    subst e
    refine PySem.W.kla_makeFunctionHit (mg := X.mg) (c := c) (P := P) (ps := ps) (closure_ok hfree) I.ok.glob (I.mod.glob.keeps I.bk) hcode (TB.code.keeps I.bk) hP' ht.1 hc bP fun ctv h' tk hx hsz => ?_
    have I1 : Inv X pins σ H { s with heap := h'.push (lamO X params body scope ((X.mg "__name__").getD .none) ctv c'), toks := tk } := I.kept fun b o e => Heap.get?_push_of_some _ (hx b o e)
    exact h h'.objs.size c' ((X.mg "__name__").getD .none) ctv H _ I1 .same (Heap.get?_push_size _ rfl) hco
def skQ3 (X : Cx) (P : Addr) (C : L2.St → Hp → V → PyData → Prop) (σ : L2.St) (Q : VK) : List V → Hp → Prop := fun vs H1 => ∃ (l : Addr) (bs : List (V × PyData)) (ps : Array Value), vs = [.ref l] ∧ SqL X.K H1 l (bs.map (·.1)) ∧ PySem.W.AllAlike (bs.map (·.2)) ∧ PySem.W.Sortable (bs.map (·.2)) ∧
  (∀ p, p ∈ bs → X.A.units + 2 + p.2.depth < cLine) ∧ H1 P = some (.tbl ps) ∧ TabOk H1 (X.env.qual ++ "<lambda>") ps ∧ ∀ H2, TabGo P (X.env.qual ++ "<lambda>") H1 ps H2 → (∀ p, p ∈ bs → C σ H2 p.1 p.2) ∧ ∀ p, H2 p = none → Q (.ref p) (upd H2 p (.lst ((bs.mergeSort (PySem.W.dataLe false (·.2))).map (·.1))))
theorem pe_sortKey3 {X : Cx} {c P : Addr} {params : Arguments} {body : Expr} {scope : Scope} {e : Expr} {te : TE} {p pos lpos kpos : Pos} {C : L2.St → Hp → V → PyData → Prop} (hg : Gl X "sorted") (hm : X.mg "sorted" = none) (he : PE X e te) (hK : KeyOf X params body scope C)
    (TB : LamX.TabB X.base X.mg c P) (hcode : X.env.code = .ref c) (hdef : defaultsOf params X.env = ([], [])) (hfree : X.Ok → ∀ y ∈ scope.names, y.2 = .free → ∃ c, X.env.cells.lookup y.1 = some c)
    (hs : starEach [e] X.env = (false, eval e X.env) :: starEach [] X.env := by rfl) :
    PE X (.Call (.Name "sorted" p) [e] [⟨some "key", .Lambda params body scope lpos, kpos⟩] pos) (fun σ H Q => te σ H fun x H1 => skQ3 X P C σ Q [x] H1) := by
  refine ⟨fun pins s σ H Q I h => ?_⟩
  refine wpAny_Call_Name_kw (ld_blt I hg hm PyProof.Rows.boot_sorted ?_ (by decide) (by decide))
  refine PyProof.Rows.callWith_kw (thn ((pa_cons he pa_nil hs).run pos pins s σ H (skQ3 X P C σ Q) I h) fun us s1 ⟨vs, H1, I1, r1, l, bs, ps, ev, hl, hal, hso, hun, hP, hT, q1⟩ => ?_) (by rw [hs]; rfl) (by rw [hs]; rfl) rfl rfl
  subst ev
  show wpAny _ _ (evalAll [do let v ← eval (.Lambda params body scope lpos) X.env; standAt pos; pure v]) _ _ s1
  refine wpAny_evalAll_cons (wpAny_bind (lam_make3 I1 TB hcode hP hT hdef (hfree I1.ok) fun f c' pm ctv H2 s2 I2 tg hf hco => wpAny_bind (wpAny_standAt (wpAny_pure (wpAny_pure ?_)))))
  obtain ⟨hC, q2⟩ := q1 H2 tg
  cases r1 with
  | cons ra rn =>
    cases rn
    cases ra
    show wpAny _ _ (call (.builtin "sorted") [.ref l] [(Str.ofString "key", .ref f)]) _ _ _
    have hl2 : SqL X.K H2 l (bs.map (·.1)) := sql_extN (tg.extN hP) hl
    obtain ⟨its, rv, il, hz⟩ := I2.list hl2
    refine PySem.W.sorted_key_data (R := fun v (p : V × PyData) => RelV p.1 v) (bs := bs) (b := false) (·.2) (vs := its) il.isList (each_vals rv) hal hso ?_ hun (ksk_s1 _ _) (fun _ => ksk_l1 _ _) (fun x => ksk_t1 f x) (fun v p r hp h tk kp => ?_) (fun out cc h' tk kp hn ho hlen ho2 => ?_)
    · rw [List.length_map] at hz; exact hz
    · exact hK pins s2 σ H2 f c' pm ctv p.1 v p.2 h tk I2 hf hco r (hC p hp) kp
    · refine ⟨.ref (s2.heap.objs.size + 1), _, I2.laid (t' := tk) (a := s2.heap.objs.size + 1) (o := .lst ((bs.mergeSort (PySem.W.dataLe false (·.2))).map (·.1))) kp (Nat.le_succ _) ⟨?_, _, cc, vals_each ho2, ho⟩, rfl, q2 _ (I2.hok.fresh (Nat.le_succ _))⟩
      rw [List.length_map, List.length_mergeSort]
      rw [List.length_map] at hz; exact hz
/-! ### the table as data -/
theorem Rel.tab {K : PySem.W.Frag} {G : Hp} {O : Om} {H : Hp} (r : Rel K G O H) {P : Addr} {q : Str} (h : O P = some (.tab q)) : ∃ ps, H P = some (.tbl ps) ∧ TriplesOk ps.toList ∧ ∀ (pos : Pos) (cv : Value), codeAmong pos ps.toList = some cv → ∃ c, cv = .ref c ∧ G c = some (LamX.CodeO c q) := by
  obtain ⟨_, u, hu, w⟩ := r.o P _ h
  cases u <;> first | exact w.elim | exact ⟨_, hu, w⟩
theorem Go.tab {K : PySem.W.Frag} {G : Hp} {O : Om} {H H2 : Hp} (r : Rel K G O H) {P : Addr} {q : Str} {ps : Array Value} (h : O P = some (.tab q)) (hP : H P = some (.tbl ps)) (hc : ∀ (pos : Pos) (cv : Value), codeAmong pos ps.toList = some cv → ∃ c, cv = .ref c ∧ G c = some (LamX.CodeO c q)) (t : TabGo P q H ps H2) : ∃ G2, Go K G O H G2 O H2 := by
  cases t with
  | same => exact ⟨G, Go.refl r⟩
  | more c more hn h1 h2 =>
    have g1 := Go.data r (a := c) (u := LamX.CodeO c q) hn
    have nPc : P ≠ c := ne_of_none hP hn
    have g2 := Go.write g1.rel (a := P) (o0 := .tab q) (o := .tab q) (u := .tbl (ps ++ more)) h ⟨h1, fun pos cv e => by
      rcases h2 pos cv e with z | z
      · obtain ⟨c0, e1, e2⟩ := hc pos cv z
        exact ⟨c0, e1, g1.ex _ _ e2⟩
      · exact ⟨c, z, upd_same⟩⟩
    have eO : DL.up O P (.tab q) = O := by
      funext b
      by_cases hb : b = P
      · subst hb; rw [up_same, h]
      · rw [up_ne hb]
    have eH : upd (upd H c (LamX.CodeO c q)) P (.tbl (ps ++ more)) = upd (upd H P (.tbl (ps ++ more))) c (LamX.CodeO c q) := by
      funext b
      by_cases h1 : b = P
      · subst h1; rw [upd_same, upd_ne nPc, upd_same]
      · by_cases h2 : b = c
        · subst h2; rw [upd_ne h1, upd_same, upd_same]
        · rw [upd_ne h1, upd_ne h2, upd_ne h2, upd_ne h1]
    rw [eO, eH] at g2
    exact ⟨_, g1.trans r g2⟩
end DL
set_option Elab.async false
set_option linter.all false
set_option maxRecDepth 100000
set_option maxHeartbeats 2000000
namespace DL
open PySem PySem.Spec PyProof.Rows L2
open Evl (Ex)

/-- sorted(e, key=lambda one: one[0] * (whole // one[1])): e a list of parts, whole the slot iw; P the table of the maker's code -/
def keyZ (W : Int) (z : Int × Int) : Int := z.1 * W.fdiv z.2
abbrev zD (z : Int × Int) : D := .tup [.int z.1, .int z.2]
def dSortRise (P : Addr) (q : Str) (iw : Nat) (te : DE) : DE := fun g O R => te g O fun x O1 => ∃ (W : Int) (qs : List (Int × Int)), lstOf O1 x = some (qs.map zD) ∧ g[iw]? = some (some (.int W)) ∧ O1 P = some (.tab q) ∧
  (∀ z ∈ qs, z.2 ≠ 0 ∧ Builtin.divisionGoesByPylong W z.2 = false ∧ IntMulOk z.1 (W.fdiv z.2)) ∧ ∀ p, O1 p = none → R (.ref p) (up O1 p (.lst ((qs.mergeSort fun a b => decide (keyZ W a ≤ keyZ W b)).map zD)))
theorem vrs_pairs {K : PySem.W.Frag} {G : Hp} {A : Type} {f : A → D} : ∀ {vs : List V} {qs : List A}, VRs K G vs (qs.map f) → ∃ cs : List (V × A), cs.map (·.1) = vs ∧ cs.map (·.2) = qs ∧ ∀ c ∈ cs, VR K G c.1 (f c.2)
  | [], [], _ => ⟨[], rfl, rfl, fun _ h => by cases h⟩
  | _ :: _, [], h => nomatch h
  | [], _ :: _, h => nomatch h
  | v :: vs, q :: qs, h => by
    cases h with
    | cons h1 h2 =>
      obtain ⟨cs, e1, e2, e3⟩ := vrs_pairs h2
      refine ⟨(v, q) :: cs, by rw [List.map_cons, e1], by rw [List.map_cons, e2], fun c hc => ?_⟩
      rcases List.mem_cons.mp hc with e | e
      · subst e; exact h1
      · exact e3 c e
theorem vrs_of {K : PySem.W.Frag} {G : Hp} {A : Type} {f : A → D} : ∀ {cs : List (V × A)}, (∀ c ∈ cs, VR K G c.1 (f c.2)) → VRs K G (cs.map (·.1)) ((cs.map (·.2)).map f)
  | [], _ => .nil
  | c :: cs, h => .cons (h c List.mem_cons_self) (vrs_of fun d hd => h d (List.mem_cons_of_mem _ hd))
theorem vr_zD {K : PySem.W.Frag} {G : Hp} {v : V} {z : Int × Int} (h : VR K G v (zD z)) : ∃ t, v = .ref t ∧ SqT K G t [.int z.1, .int z.2] := by
  cases h with
  | tup h1 h2 =>
    obtain ⟨u, w, rfl, a, b⟩ := h2.two
    cases a; cases b
    exact ⟨_, rfl, h1⟩
section
variable {X : Cx} {c P : Addr} {params : Arguments} {scope : Scope} {e : Expr} {te : DE} {p pos lpos kpos : Pos} {k iw j0 j1 : Nat} {q : Str} {p1 p2 p3 p4 p5 p6 p7 p8 p9 : Pos}
theorem e_sortRise (hr : Room (k + 1) X.A) (hq : X.env.qual ++ "<lambda>" = q) (hm : X.mg "sorted" = none) (he : PE X e (lowE X.K te)) (TB : LamX.TabB X.base X.mg c P) (hcode : X.env.code = .ref c)
    (hN : X.N[iw]? = some ("whole" : Str)) (hcl : X.env.scope.names.lookup ("whole" : Str) = some .cell) (hdef : defaultsOf params X.env = ([], []))
    (ho : scope.names.lookup ("one" : Str) = some .local) (hw : scope.names.lookup ("whole" : Str) = some .free) (hcell : ∀ x ∈ scope.names, x.2 ≠ .cell) (hfr : ∀ y ∈ scope.names, y.2 = .free → y.1 = ("whole" : Str)) (hk : scope.kind = .function) (hco : scope.isCoroutine = false) (hgen : scope.isGenerator = false)
    (hbind : ∀ (q : Str) (body : Expr) (cl : List (Str × Addr)) (pm cv ctv v : Value), bindArgs (PySem.W.kla_fn "<lambda>" q params body scope cl pm cv ctv) ⟨[v], []⟩ = pure [(("one" : Str), v)]) (hg : Gl X "sorted" := by rfl)
    (hs : starEach [e] X.env = (false, eval e X.env) :: starEach [] X.env := by rfl) :
    PE X (.Call (.Name "sorted" p) [e] [⟨some "key", .Lambda params (.BinOp (.Subscript (.Name "one" p1) (.Constant (.int 0) j0 p2) p3) .Mult (.BinOp (.Name "whole" p4) .FloorDiv (.Subscript (.Name "one" p5) (.Constant (.int 1) j1 p6) p7) p8) p9) scope lpos, kpos⟩] pos) (lowE X.K (dSortRise P q iw te)) :=
  PE.by (pe_sortKey3 (P := P) hg hm he (key_rise (k := k) hr hN hcl ho hw hcell hk hco hgen hbind) TB hcode hdef (fun ok y hy e => by rw [hfr y hy e]; exact ok.has _ (.inl hcl)) hs) fun s H Q ⟨G, O, g, R, rl, gr, h, kk⟩ =>
    ⟨G, O, g, _, rl, gr, h, fun x O1 v G1 H1 go1 vr1 q1 => by
      subst hq
      obtain ⟨W, qs, hl, hgw, hO, hz, hR⟩ := q1
      obtain ⟨l, vs, rfl, hS, hv⟩ := go1.rel.lstOf vr1 hl
      obtain ⟨cs, e1, e2, e3⟩ := vrs_pairs hv
      obtain ⟨ps, hP, t1, t2⟩ := go1.rel.tab hO
      obtain ⟨w, hw1, hw2⟩ := (gr.mono go1.ex).get iw _ hgw
      cases hw2
      have eb : ∀ {B : Type} (f : V × PyData → B), (cs.map fun c => (c.1, PyData.int (keyZ W c.2))).map f = cs.map fun c => f (c.1, PyData.int (keyZ W c.2)) := fun f => by rw [List.map_map]; rfl
      refine ⟨l, cs.map fun c => (c.1, .int (keyZ W c.2)), ps, rfl, by rw [eb, show (cs.map fun c => c.1) = vs from e1]; exact hS, ?_, ?_, fun b hb => ?_, hP, ⟨t1, fun pos cv hc => ?_⟩, fun H2 tg => ?_⟩
      · rw [eb]; exact PySem.W.AllAlike.of (enc := fun c : V × (Int × Int) => PyData.int (keyZ W c.2)) fun _ _ => rfl
      · rw [eb]; exact PySem.W.Sortable.others (enc := fun c : V × (Int × Int) => PyData.int (keyZ W c.2)) fun b => ⟨fun z => (by cases z), fun xs z => (by cases z)⟩
      · obtain ⟨c0, _, rfl⟩ := List.mem_map.mp hb
        have := hr.un
        show X.A.units + 2 + 0 < cLine
        omega
      · obtain ⟨c0, a1, a2⟩ := t2 pos cv hc
        exact ⟨c0, a1, go1.rel.g _ _ a2⟩
      · obtain ⟨G2, go2⟩ := Go.tab go1.rel hO hP t2 tg
        refine ⟨fun b hb => ?_, fun p hp => ?_⟩
        · obtain ⟨c0, hc0, rfl⟩ := List.mem_map.mp hb
          obtain ⟨t, et, hT⟩ := vr_zD (e3 c0 hc0)
          have hq0 : c0.2 ∈ qs := by rw [← e2]; exact List.mem_map_of_mem hc0
          obtain ⟨z1, z2, z3⟩ := hz _ hq0
          exact ⟨t, c0.2.1, c0.2.2, W, et, Evl.ex_t go2.rel.g (Evl.ex_t go2.ex hT), hw1, z1, z2, z3, rfl⟩
        · have go12 := go1.trans rl go2
          have em : (cs.map fun c => (c.1, PyData.int (keyZ W c.2))).mergeSort (PySem.W.dataLe false (·.2)) = (cs.mergeSort fun a b => decide (keyZ W a.2 ≤ keyZ W b.2)).map fun c => (c.1, PyData.int (keyZ W c.2)) := by
            refine (List.map_mergeSort fun a _ b _ => ?_).symm
            exact (congrFun (congrFun (PySem.W.dataLe_int (fun c : V × (Int × Int) => keyZ W c.2)) a) b).symm
          have eq : qs.mergeSort (fun a b => decide (keyZ W a ≤ keyZ W b)) = (cs.mergeSort fun a b => decide (keyZ W a.2 ≤ keyZ W b.2)).map (·.2) := by
            rw [← e2]
            exact (List.map_mergeSort (r := fun (a b : V × (Int × Int)) => decide (keyZ W a.2 ≤ keyZ W b.2)) (s := fun a b => decide (keyZ W a ≤ keyZ W b)) (f := fun c => c.2) fun a _ b _ => rfl).symm
          have hv2 : VRs X.K G2 ((((cs.map fun c => (c.1, PyData.int (keyZ W c.2))).mergeSort (PySem.W.dataLe false (·.2))).map (·.1))) ((qs.mergeSort fun a b => decide (keyZ W a ≤ keyZ W b)).map zD) := by
            rw [em, List.map_map, eq]
            exact vrs_of fun c hc => (e3 c (List.mem_mergeSort.mp hc)).mono go2.ex
          exact kk _ _ _ _ _ (go12.trans rl (Go.new go2.rel (o := .lst _) hp hv2)) (.ref p) (hR p (go2.rel.fresh hp).1)⟩
end
end DL
set_option Elab.async false
set_option linter.all false
set_option maxRecDepth 100000
set_option maxHeartbeats 2000000
namespace DL
open PySem PySem.Spec PyProof.Rows L2
open Evl (Ex)
/-- the tables at the law's start: (code, table, name of the lambdas) -/
def tabOf (cs : List (Addr × Addr × Str)) : Om := fun b => (cs.find? fun p => decide (p.2.1 = b)).map fun p => DO.tab p.2.2
theorem tabOf_some {cs : List (Addr × Addr × Str)} {b : Addr} {o : DO} (h : tabOf cs b = some o) : ∃ p ∈ cs, p.2.1 = b ∧ o = .tab p.2.2 := by
  unfold tabOf at h
  cases e : cs.find? fun p => decide (p.2.1 = b) with
  | none => rw [e] at h; cases h
  | some p =>
    rw [e] at h
    have h2 := List.find?_some e
    exact ⟨p, List.mem_of_find?_eq_some e, by simpa using h2, (Option.some.inj h).symm⟩
theorem tabOf_at {cs : List (Addr × Addr × Str)} (hu : ∀ p ∈ cs, ∀ r ∈ cs, p.2.1 = r.2.1 → p.2.2 = r.2.2) {p : Addr × Addr × Str} (hp : p ∈ cs) : tabOf cs p.2.1 = some (.tab p.2.2) := by
  unfold tabOf
  cases e : cs.find? fun r => decide (r.2.1 = p.2.1) with
  | none => exact absurd (List.find?_eq_none.mp e p hp) (by simp)
  | some r =>
    have h0 := List.find?_some e
    have h1 : r.2.1 = p.2.1 := by simpa using h0
    show some (DO.tab r.2.2) = _
    rw [hu r (List.mem_of_find?_eq_some e) p hp h1]
/-- the law's end where lambdas are made -/
theorem walkDT {l : PySem.W.OpenLaw} {q : Program} {loose : List Str} {XP : (Str → Option Value) → Heap → Prop} {YP : World → Heap → Prop} {d : DefRec} {K : Params → PySem.W.Frag} {n k : Nat} {x : Str} (hn : l.most = some n) (hl : n ≤ sizeLine) (hdf : d.params.defaults = []) (hr : Room k callerA)
    (hY : ∀ (w : World) (h : Heap), YP w h → (K w.params).In h)
    (F : ∀ (w : World) (mg : Str → Option Value) (fa : Addr) (h : Heap), YP w h → (K w.params).In h → h.Ns mainGlobals mg → mg d.name = some (.ref fa) →
      ∃ (fd : FuncData) (cs : List (Addr × Addr × Str)) (sp : DSp), (∀ p ∈ cs, h.get? p.2.1 = some { cls := .none, data := .fields #[] }) ∧ (∀ p ∈ cs, (K w.params).lookup p.2.1 = none) ∧ (∀ p ∈ cs, PySem.W.CodeHd h p.1 p.2.1) ∧ (∀ p ∈ cs, ∀ r ∈ cs, p.2.1 = r.2.1 → p.2.2 = r.2.2) ∧
        (∀ (s : Shared) (u : Value), BindsTo s fd ⟨[u], []⟩ [(x, u)]) ∧ (∀ (ns : List Int) (O : Om) (R : D → Om → Prop) (Z : XD), ns.length ≤ n → (∀ p ∈ cs, O p.2.1 = some (.tab p.2.2)) → (∀ O', R (.bl true) O') → sp [.lst (ns.map D.int)] O R Z) ∧
        ∀ base : Heap, (K w.params).In base → base.Ns mainGlobals mg → (∀ p ∈ cs, LamX.TabB base mg p.1 p.2.1) → FnOk l.prog w (K w.params) mg base CX0 k fa fd [x] (toSp (K w.params) sp)) :
    PySem.W.WalkO q loose XP YP l.row.toRowW d [] (fun f vs => PySem.call f vs) := by
  refine LamX.walk_ofTs (n := n) (k := k) (x := x) (CX := fun _ => CX0) hn hl hdf hr hY (fun w mg fa h Y KX G hmg => ?_) fun _ _ _ _ _ z => z
  obtain ⟨fd, cs, sp, h1, h2, h3, hu, hb, hs, hF⟩ := F w mg fa h Y KX G hmg
  have mm : ∀ {p : Addr × Addr}, p ∈ cs.map (fun r => (r.1, r.2.1)) → ∃ r ∈ cs, p = (r.1, r.2.1) := fun {p} hp => by
    obtain ⟨r, hr, e⟩ := List.mem_map.mp hp
    exact ⟨r, hr, e.symm⟩
  refine ⟨fd, cs.map fun r => (r.1, r.2.1), toSp (K w.params) sp, fun p hp => ?_, fun p hp => ?_, fun p hp => ?_, hb, fun H a ns hlen _ hT hS => ?_, fun base kb nb tb => hF base kb nb fun p hp => tb _ (List.mem_map_of_mem (f := fun r => (r.1, r.2.1)) hp)⟩
  · obtain ⟨r, hr, rfl⟩ := mm hp; exact h1 r hr
  · obtain ⟨r, hr, rfl⟩ := mm hp; exact h2 r hr
  · obtain ⟨r, hr, rfl⟩ := mm hp; exact h3 r hr
  · have hTT : ∀ r ∈ cs, H r.2.1 = some (.tbl #[]) := fun r hr => hT _ (List.mem_map_of_mem (f := fun r => (r.1, r.2.1)) hr)
    have gl : ∀ {b : Addr} {o : HO}, H b = some o → (∀ ps, o ≠ .tbl ps) → (fun b => if (tabOf cs b).isSome then none else H b) b = some o := fun {b o} e nt => by
      have : tabOf cs b = none := by
        cases e2 : tabOf cs b with
        | none => rfl
        | some u =>
          obtain ⟨r, hr, rfl, _⟩ := tabOf_some e2
          rw [hTT r hr] at e
          exact absurd (Option.some.inj e).symm (nt _)
      show (if (tabOf cs b).isSome then none else H b) = some o
      rw [this]; exact e
    have hS' : SqL (K w.params) (fun b => if (tabOf cs b).isSome then none else H b) a (ns.map V.int) := by
      rcases hS with (z | ⟨ob, z⟩) | z
      · exact .inl (.inl (gl z fun ps e => by cases e))
      · exact .inl (.inr ⟨ob, gl z fun ps e => by cases e⟩)
      · exact .inr z
    refine ⟨fun b => if (tabOf cs b).isSome then none else H b, tabOf cs, [.lst (ns.map D.int)], fun x _ => x = .bl true, fun _ _ _ => False, ⟨fun b o e => ?_, fun b o e => ?_⟩, .cons (.lst hS' (VRs.ofInts ns)) .nil, hs ns _ _ _ hlen (fun p hp => tabOf_at hu hp) fun _ => rfl, ?_, ?_⟩
    · have e : (if (tabOf cs b).isSome then none else H b) = some o := e
      split at e
      · cases e
      · exact e
    · obtain ⟨r, hr, rfl, rfl⟩ := tabOf_some e
      refine ⟨?_, _, hTT r hr, True.intro, fun pos cv hc => ?_⟩
      · show (if (tabOf cs r.2.1).isSome then none else H r.2.1) = none
        rw [e]; rfl
      · have z : codeAmong pos [] = some cv := hc
        simp [codeAmong] at z
    · rintro x O' v G' H' go vr rfl
      cases vr
      rfl
    · intro c e O' G' H' _ z
      exact z
end DL
set_option Elab.async false
set_option linter.all false
set_option maxRecDepth 100000
set_option maxHeartbeats 2000000
namespace DL
open PySem PySem.Spec PyProof.Rows L2
open Evl (Ex)
/-! ### {x: v for ..} by tuples that stand already, and list() of it -/
abbrev KA := List Key × Addr
/-- a dict by tuples: its keys, with the tuples' addresses; the tuples' own words are told beside it -/
def DictO (P : Program) (w : World) (d : Addr) (ks : List KA) : HO := .ext fun h => (d == sysModules) = false ∧ ks.length ≤ sizeLine ∧ ∃ (xs : List (List Key × Addr × Value)) (o : Obj) (es : Array DictEntry) (ep : Nat), xs.map (fun x => (x.1, x.2.1)) = ks ∧ h.get? d = some o ∧ o.ExactDict ∧ o.data = .dict es ep ∧ es.toList = xs.map (entryOfKey (tupleKind (mixKind P w))) ∧ (xs.map (·.1)).Nodup
theorem dictO_ok {P : Program} {w : World} {H : Hp} {h : Heap} {d : Addr} {ks : List KA} (q : (d == sysModules) = false ∧ ks.length ≤ sizeLine ∧ ∃ (xs : List (List Key × Addr × Value)) (o : Obj) (es : Array DictEntry) (ep : Nat), xs.map (fun x => (x.1, x.2.1)) = ks ∧ h.get? d = some o ∧ o.ExactDict ∧ o.data = .dict es ep ∧ es.toList = xs.map (entryOfKey (tupleKind (mixKind P w))) ∧ (xs.map (·.1)).Nodup) : ObjOk P w H h d (DictO P w d ks) := by
  refine ⟨q, ?_, ?_⟩
  · obtain ⟨_, _, xs, o, es, ep, _, h1, _⟩ := q
    exact ⟨o, h1⟩
  · rintro h1 h2 ⟨a, b, xs, o, es, ep, c, e, r⟩ k
    exact ⟨a, b, xs, o, es, ep, c, k o e, r⟩
theorem dictO_empty {P : Program} {w : World} {H : Hp} (h : Heap) (hb : sysModules < h.objs.size) : ObjOk P w H (h.push { cls := .type "dict", data := .dict #[] }) h.objs.size (DictO P w h.objs.size []) :=
  dictO_ok ⟨beq_eq_false_iff_ne.mpr (Ne.symm (Nat.ne_of_lt hb)), Nat.zero_le _, [], _, #[], 0, rfl, Heap.get?_push_size _ rfl, ⟨rfl, rfl, rfl⟩, rfl, rfl, List.nodup_nil⟩
def putKA (ks : List KA) (k : List Key) (a : Addr) : List KA := if ks.any (fun x => decide (x.1 = k)) then ks else ks ++ [(k, a)]
theorem putKA_len (ks : List KA) (k : List Key) (a : Addr) : (putKA ks k a).length ≤ ks.length + 1 := by
  unfold putKA; split
  · omega
  · rw [List.length_append]; exact Nat.le_refl _
theorem stored_ka (xs : List (List Key × Addr × Value)) (k : List Key) (a : Addr) (v : Value) : (storedH xs k a v).map (fun x => (x.1, x.2.1)) = putKA (xs.map fun x => (x.1, x.2.1)) k a := by
  have e : (atKey xs k).isSome = (xs.map fun x => (x.1, x.2.1)).any fun x => decide (x.1 = k) := by
    unfold atKey
    rw [Option.isSome_map, List.any_map]
    induction xs with
    | nil => rfl
    | cons x xs ih =>
      rw [List.find?_cons, List.any_cons]
      show (match decide (x.1 = k) with | true => some x | false => _).isSome = (decide (x.1 = k) || _)
      cases decide (x.1 = k) with
      | true => rfl
      | false => exact ih
  unfold storedH putKA
  rw [e]
  cases (xs.map fun x => (x.1, x.2.1)).any fun x => decide (x.1 = k) with
  | true =>
    simp only [if_true, List.map_map]
    refine List.map_congr_left fun x _ => ?_
    show ((putAt k v x).1, (putAt k v x).2.1) = _
    unfold putAt
    split <;> rfl
  | false => simp
section
variable {X : Cx}
theorem d_dictSetX {pins : List (Addr × Obj)} {σ : L2.St} {H : Hp} {s : Shared} {E : Value → Shared → Prop} {D b : Addr} {ks : List KA} {k : List Key} {r : Value} {Q : Unit → Shared → Prop} (hu : X.A.units + 1 < cLine) (I : Inv X pins σ H s) (hD : H D = some (DictO X.prog X.w D ks)) (eb : SqT X.K H b (k.map kV)) (hks : ∀ x ∈ ks, SqT X.K H x.2 (x.1.map kV)) (hz : ks.length < sizeLine)
    (h : ∀ s', Inv X pins σ (upd H D (DictO X.prog X.w D (putKA ks k b))) s' → Q () s') : wpAny (model X.prog X.w) X.A (dictSet D (.ref b) r) Q E s := by
  obtain ⟨⟨hd, _, xs, o, es, ep, ex, ho, hx, hdt, he, hn⟩, _, _⟩ := I.hok D _ hD
  have hl : xs.length = ks.length := by rw [← ex, List.length_map]
  have dd : s.heap.DictOfH (tupleKind (mixKind X.prog X.w)) D xs := ⟨o, es, ep, ho, hx, hdt, he, fun x hx => key_ofT I (hks (x.1, x.2.1) (by rw [← ex]; exact List.mem_map_of_mem (f := fun x => (x.1, x.2.1)) hx)), hn⟩
  refine wpAny_dictSet_heap (hsz := by rw [hl]; exact Nat.le_of_lt hz) (show (tupleKind (mixKind X.prog X.w)).room X.A from (show X.A.units < cLine by omega)) (key_ofT I eb) dd fun h' dd' hs => h _ ?_
  obtain ⟨q, es2, ep2, hq, h2, h3, h4, _, h5⟩ := dd'
  refine d_write I (by rw [hD]; exact True.intro) hs ⟨q, hq⟩ (dictO_ok ⟨hd, by have := putKA_len ks k b; omega, _, q, es2, ep2, by rw [stored_ka, ex], hq, h2, h3, h4, h5⟩)
def tDcX (X : Cx) (wi : TI) (g : TG) (tt : TT) (tk tv : TE) (vs : List Nat) : TE := fun σ H Q => wi σ H fun J H1 => ∀ D, H1 D = none → ∃ W : Nat → Nat → Hp → Prop, (∃ m, W 0 m (upd H1 D (DictO X.prog X.w D []))) ∧ ∀ i m H, W i m H →
  (J.stop i H ∧ Q (.ref D) H) ∨ (J.go i H ∧ ∃ Nx : Hp → Prop, (∀ H', Nx H' → ∃ m', m' < m ∧ W (i + 1) m' H') ∧ ∀ x H', J.yld i H x H' → g x (wipe σ vs) H' fun σ2 H2 => wipe σ2 vs = wipe σ vs ∧ tt σ2 H2 fun b H3 =>
    if b = true then tk σ2 H3 fun y H4 => tv σ2 H4 fun z H5 => ∃ ks k q, y = .ref q ∧ SqT X.K H5 q (k.map kV) ∧ H5 D = some (DictO X.prog X.w D ks) ∧ (∀ x ∈ ks, SqT X.K H5 x.2 (x.1.map kV)) ∧ ks.length < sizeLine ∧ Nx (upd H5 D (DictO X.prog X.w D (putKA ks k q))) else Nx H3)
theorem dcX_core {pins : List (Addr × Obj)} {s : Shared} {σ : L2.St} {H : Hp} {Q : VK} {kx vx tg iter : Expr} {ifs : List Expr} {scope : Scope} {own : List (Str × Nat)} {pos pos' : Pos} {wi : TI} {g : TG} {tt : TT} {tk tv : TE} {use : Option (Value → Sem Unit)} {Qf : Value → Shared → Prop}
    (hu : X.A.units + 1 < cLine) (hc : X.calm = true) (hN : X.N.Nodup) (I : Inv X pins σ H s) (hi : PI X tg iter wi) (ok : BlkOk X.N X.env.scope scope own)
    (hg : ∀ (s : Shared) (H : Hp) (C : Addr) (cl : List (Str × Addr)) (fp : List Addr), PG (X.blk s H scope (compEnvC scope cl C X.env) fp) tg g) (ht : ∀ (s : Shared) (H : Hp) (C : Addr) (cl : List (Str × Addr)) (fp : List Addr), PTs (X.blk s H scope (compEnvC scope cl C X.env) fp) ifs tt)
    (hk : ∀ (s : Shared) (H : Hp) (C : Addr) (cl : List (Str × Addr)) (fp : List Addr), PE (X.blk s H scope (compEnvC scope cl C X.env) fp) kx tk)
    (he : ∀ (s : Shared) (H : Hp) (C : Addr) (cl : List (Str × Addr)) (fp : List Addr), PE (X.blk s H scope (compEnvC scope cl C X.env) fp) vx tv) (hs : ∀ x, foldedSetIterable iter X.env x = pure x)
    (h : tDcX X wi g tt tk tv (own.map (·.2)) σ H Q)
    (hRR : ∀ D C s' m H', Inv X pins σ H' s' → Q (.ref D) H' → s'.heap.Ns C m → FpOk X pins H' C → compPost (model X.prog X.w) X.A X.xe use Qf (.ref D) C (.ok .next) s') :
    wpAny (model X.prog X.w) X.A (comprehension (.DictComp kx vx [⟨tg, iter, ifs, 0⟩] scope pos) scope X.env pos' newDict false (eval iter X.env) use) Qf X.xe s := by
  have hfree : ∀ y ∈ scope.names, y.2 = .free → ∃ c, X.env.cells.lookup y.1 = some c := fun y hy e => by
    rcases ok.free y hy e with k | k
    · exact I.ok.has _ (.inl k)
    · exact I.ok.has _ (.inr k)
  refine wpAny_comprehension_free (use := use) rfl hs (closure_ok hfree) ok.kind (fun y hy e => by rw [ok.uniq y hy, e])
    (thn (hi.run pins s σ H _ I h) fun xv s1 hx => thn hx fun itv s2 h2 => ?_)
  obtain ⟨it, fp, tn, J, H2, e, I2, T, st2, f2, q⟩ := h2
  subst e
  refine wpAny_newObj_type (newEnv_comp ?_)
  generalize hD : s2.heap.objs.size = D
  have hDn : H2 D = none := I2.hok.fresh (Nat.le_of_eq hD)
  obtain ⟨W, ⟨m0, w0⟩, turn⟩ := q D hDn
  -- the new list
  generalize hs3 : ({ s2 with heap := s2.heap.push { cls := .type "dict", data := .dict #[] } } : Shared) = s3
  have I3 : Inv X pins σ (upd H2 D (DictO X.prog X.w D [])) s3 := by
    rw [← hs3]
    refine I2.laid (t' := s2.toks) (fun b o e => Heap.get?_push_of_some _ e) (Nat.le_of_eq hD) ?_
    rw [← hD]
    exact dictO_empty s2.heap I2.big
  have h3 : s3.heap = s2.heap.push { cls := .type "dict", data := .dict #[] } := by rw [← hs3]
  have sz : ∀ b ∈ fp, b < s2.heap.objs.size := fun b hb => by
    obtain ⟨o, e, _⟩ := T.obj _ _ st2 b hb
    exact Heap.lt_size e
  have f3 : ∀ b ∈ fp, FpOk X pins (upd H2 D (DictO X.prog X.w D [])) b ∧ b < s3.heap.objs.size := fun b hb => by
    have hlt := sz b hb
    refine ⟨⟨?_, (f2 b hb).2⟩, by rw [h3, Heap.size_push]; exact Nat.lt_succ_of_lt hlt⟩
    rw [upd_ne (by rw [← hD]; exact Nat.ne_of_lt hlt)]
    exact (f2 b hb).1
  have st3 : tn 0 s3.heap := T.keep _ _ _ st2 fun b _ o e => by rw [h3]; exact Heap.get?_push_of_some _ e
  have I4 := block_start I3 ok hN f3
  have pg := hg s3 (upd H2 D (DictO X.prog X.w D [])) s3.heap.objs.size (cellsFrom (s3.heap.objs.size + 1) scope.names (cloFrom X.env.cells scope.names [])) fp
  have pt := ht s3 (upd H2 D (DictO X.prog X.w D [])) s3.heap.objs.size (cellsFrom (s3.heap.objs.size + 1) scope.names (cloFrom X.env.cells scope.names [])) fp
  have pk := hk s3 (upd H2 D (DictO X.prog X.w D [])) s3.heap.objs.size (cellsFrom (s3.heap.objs.size + 1) scope.names (cloFrom X.env.cells scope.names [])) fp
  have pe := he s3 (upd H2 D (DictO X.prog X.w D [])) s3.heap.objs.size (cellsFrom (s3.heap.objs.size + 1) scope.names (cloFrom X.env.cells scope.names [])) fp
  show codeAny _ _ (.compStart (.DictComp kx vx [⟨tg, iter, ifs, 0⟩] scope pos) 0 (.ref it) (.ref D) (compEnvC scope (cellsFrom (s3.heap.objs.size + 1) scope.names (cloFrom X.env.cells scope.names [])) s3.heap.objs.size X.env)) (compPost (model X.prog X.w) X.A X.xe use Qf (.ref D) s3.heap.objs.size) { s3 with heap := pushCells (s3.heap.push { cls := .type "dict", data := .dict #[] }) scope.names }
  have nfp : ∀ b ∈ fp, (upd H2 D (DictO X.prog X.w D [])) b = none := fun b hb => (f3 b hb).1.1
  generalize hce : compEnvC scope (cellsFrom (s3.heap.objs.size + 1) scope.names (cloFrom X.env.cells scope.names [])) s3.heap.objs.size X.env = ce at I4 pg pt pk pe ⊢
  have cL : ce.locals = s3.heap.objs.size := by subst hce; rfl
  generalize hH3 : upd H2 D (DictO X.prog X.w D []) = H3 at I3 I4 pg pt pk pe w0 nfp f3
  generalize hs4 : ({ s3 with heap := pushCells (s3.heap.push { cls := .type "dict", data := .dict #[] }) scope.names } : Shared) = s4 at I4 ⊢
  have st4 : tn 0 s4.heap := T.keep _ _ _ st3 fun b _ o e => by rw [← hs4]; exact pushCells_keeps _ _ _ _ (Heap.get?_push_of_some _ e)
  have stat : ∀ {σ' : L2.St} {H' : Hp} {s' : Shared}, Inv (X.blk s3 H3 scope ce fp) [] σ' H' s' → (∀ b ∈ fp, H' b = none) → ∀ b ∈ fp, FpOk (X.blk s3 H3 scope ce fp) [] H' b := fun {σ' H' s'} I' hn b hb =>
    ⟨hn b hb, (I'.ok.exf b hb).1, I'.ok.exfs b hb, .inl hb, fun x c e => (I'.ok.exf b hb).2 x c e, fun p hp => absurd (show p ∈ ([] : List (Addr × Obj)) ++ [] from hp) (by simp)⟩
  have loop : codeAny (model X.prog X.w) X.A (.compLoop (.DictComp kx vx [⟨tg, iter, ifs, 0⟩] scope pos) 0 (.ref it) (.ref D) ce) (compPost (model X.prog X.w) X.A X.xe use Qf (.ref D) s3.heap.objs.size) s4 := by
    refine compLoop_anyD (fun n s' => ∃ i H', Inv (X.blk s3 H3 scope ce fp) [] (wipe σ (own.map (·.2))) H' s' ∧ tn i s'.heap ∧ (∀ b ∈ fp, H' b = none) ∧ W i n H') ?_ m0 ⟨0, H3, I4, st4, nfp, w0⟩
    rintro n s5 ⟨i, H5, I5, st5, n5, w5⟩
    rcases turn i n H5 w5 with ⟨stop, qq⟩ | ⟨go, Nx, hNx, step⟩
    · have td := T.done (X.blk s3 H3 scope ce fp) rfl rfl rfl hc i [] s5 _ H5 (fun _ _ => False) I5 (stat I5 n5) st5 stop
      refine thnF td fun r s6 ⟨hr, I6⟩ => ?_
      subst hr
      -- back in the def's context
      have I7 : Inv X pins σ H5 s6 := I3.call' (ch := fp) I6.os I6.base I6.hok I6.bare fun b hb => ⟨(f3 b hb).1.2.2.2.1, (f3 b hb).1.2.1, (f3 b hb).1.2.2.2.2.1, (f3 b hb).1.2.2.2.2.2⟩
      have nC : H5 s3.heap.objs.size = none := by
        have z : H5 ce.locals = none := I6.free
        rw [cL] at z
        exact z
      obtain ⟨m, hn, _⟩ := I6.loc
      have hn : s6.heap.Ns ce.locals m := hn
      rw [cL] at hn
      exact hRR D s3.heap.objs.size s6 m H5 I7 qq hn (I3.fpOk (Nat.le_refl _) nC)
    · have ti := T.item (X.blk s3 H3 scope ce fp) rfl rfl rfl hc i [] s5 _ H5 (fun _ _ => False) I5 (stat I5 n5) st5 go
      refine thnF ti fun r s6 ⟨u, hr, h6⟩ => ?_
      subst hr
      refine thnF h6 fun _ s7 ⟨x, H7, I7, r7, y7, st7, n7⟩ => ?_
      have I7' := I7.pinned (stat I7 n7) (T.obj _ _ st7)
      refine thnF (pg.run _ s7 _ H7 x u _ I7' r7 (step x H7 y7)) fun _ s8 ⟨σ8, H8, I8, hw8, q8⟩ => ?_
      refine thnF (pt.run _ s8 σ8 H8 _ I8 q8) fun b s9 ⟨H9, I9, q9⟩ => ?_
      -- the turn's end
      have fin : ∀ {s' : Shared} {H' : Hp}, Inv (X.blk s3 H3 scope ce fp) ([] ++ pinsAt fp s7.heap) σ8 H' s' → Nx H' → ∃ m, m < n ∧ ∃ i H', Inv (X.blk s3 H3 scope ce fp) [] (wipe σ (own.map (·.2))) H' s' ∧ tn i s'.heap ∧ (∀ b ∈ fp, H' b = none) ∧ W i m H' := fun {s' H'} I' nx => by
        obtain ⟨m', hm, w'⟩ := hNx H' nx
        have pin' : ∀ b ∈ fp, ∀ o, s7.heap.get? b = some o → s'.heap.get? b = some o ∧ H' b = none := fun b hb o e =>
          let z := I'.pin (b, o) (List.mem_append_right _ (List.mem_append_right _ (mem_pinsAt hb e)))
          ⟨z.1, z.2.1⟩
        have hl : (wipe σ (own.map (·.2))).length = σ8.length := by rw [← hw8, wipe_length]
        refine ⟨m', hm, i + 1, H', (I'.unpinned (pins := [])).weak hl (fun j v e => ?_), T.keep _ _ _ st7 fun b hb o e => (pin' b hb o e).1, fun b hb => ?_, w'⟩
        · rw [← hw8] at e
          exact (wipe_some e).1
        · obtain ⟨o, e, _⟩ := T.obj _ _ st7 b hb
          exact (pin' b hb o e).2
      cases b with
      | false =>
        simp only [Bool.false_eq_true, if_false] at q9 ⊢
        exact fin I9 q9
      | true =>
        simp only [if_true] at q9 ⊢
        refine thnF (pk.run _ s9 σ8 H9 _ I9 q9) fun z s10 ⟨yk, H10, I10, r10, q10⟩ => ?_
        refine thnF (pe.run _ s10 σ8 H10 _ I10 q10) fun z2 s11 ⟨yv, H11, I11, r11, ks, k, q, ek, eq, hD11, hks, hz11, nx⟩ => ?_
        subst ek
        obtain rfl : z = Value.ref q := r10
        exact d_dictSetX (X := X.blk s3 H3 scope ce fp) hu I11 hD11 eq hks hz11 fun s12 I12 => fin I12 nx
  exact codeAny_compStart_dict loop (T.self X.A 0 _ _ _ st4 loop)
end
/-- list(a dict by standing tuples) -/
theorem call_list_dX {X : Cx} (hc : X.calm = true) : CallR X (.type "list") (fun xs H Q => ∃ d ks, xs = [V.ref d] ∧ H d = some (DictO X.prog X.w d ks) ∧ ∀ p, H p = none → Q (.ref p) (upd H p (.lst (ks.map fun x => V.ref x.2)))) := by
  intro pins s σ H xs us Q I r h
  obtain ⟨d, kas, rfl, hd, q⟩ := h
  obtain ⟨u, rfl, rx⟩ := r.one
  cases rx
  obtain ⟨⟨hs, z, ks, o, es, ep, ex, ho, hx, hdt, he, hn⟩, _, _⟩ := I.hok d _ hd
  have l1 : es.size = ks.length := size_of_entries he
  have l2 : kas.length = ks.length := by rw [← ex, List.length_map]
  refine PySem.W.kdl_call (kdl_raw hs hx hdt) (I.ok.hd hc) ho (by omega) fun h' tk acc' c' kp e it => ?_
  have ea : acc'.toList = ks.map fun x => Value.ref x.2.1 := by
    have hl : acc'.toList.length = ks.length := by rw [Array.length_toList, it.1]; exact l1
    apply List.ext_getElem?
    intro j
    rw [List.getElem?_map]
    cases hj : acc'.toList[j]? with
    | none =>
      have h1 := List.getElem?_eq_none_iff.mp hj
      rw [List.getElem?_eq_none (by omega)]
      all_goals rfl
    | some v =>
      obtain ⟨en, hen, hv⟩ := it.2 j v (by rw [← Array.getElem?_toList]; exact hj)
      have qe := entry_at he j
      rw [hen] at qe
      cases hb : ks[j]? with
      | none =>
        rw [hb] at qe
        exact nomatch (show some en = none from qe)
      | some b =>
        rw [hb] at qe
        have e2 : en = entryOfKey (tupleKind (mixKind X.prog X.w)) b := Option.some.inj qe
        rw [hv, e2]
        all_goals rfl
  have eb : acc'.toList = (kas.map fun x => x.2).map Value.ref := by rw [ea, ← ex, List.map_map, List.map_map]; all_goals rfl
  have rv : Vals ((kas.map fun x => x.2).map V.ref) acc'.toList := by rw [eb]; exact vals_refs _
  have e3 : (kas.map fun x => V.ref x.2) = (kas.map fun x => x.2).map V.ref := by rw [List.map_map]; rfl
  rw [← e3] at rv
  refine ⟨.ref s.heap.objs.size, _, I.laid (t' := tk) (o := .lst (kas.map fun x => V.ref x.2)) kp (Nat.le_refl _) ?_, rfl, q _ (I.hok.fresh (Nat.le_refl _))⟩
  exact ⟨by rw [List.length_map]; exact z, acc'.toList, c', rv, by rw [Array.toArray_toList]; exact e⟩
end DL
set_option Elab.async false
set_option linter.all false
set_option maxRecDepth 100000
set_option maxHeartbeats 2000000
namespace DL
open PySem PySem.Spec PyProof.Rows L2
open Evl (Ex)
/-! ### list({x: v for ..}): the things without doubles, in the order in which they first come -/
section
variable {K : PySem.W.Frag} {G G1 G2 : Hp} {O O1 O2 : Om} {H H1 H2 : Hp} {a : Addr} {u w : HO}
theorem Go.putJunk (g : Go K G O H G1 O1 H1) (h : H a = none) (ho : O1 a = none) (hg : G1 a = none) : Go K G O H G1 O1 (upd H1 a u) := by
  refine ⟨⟨fun x w e => ?_, fun x w e => ?_⟩, g.ex, fun x w e1 e2 => ?_, g.nwO, g.nwG⟩
  · rw [upd_ne (ne_of_none e hg)]; exact g.rel.g x w e
  · have hx : x ≠ a := fun z => by subst z; rw [ho] at e; cases e
    obtain ⟨h1, v, h2, h3⟩ := g.rel.o x w e
    exact ⟨h1, v, by rw [upd_ne hx]; exact h2, h3⟩
  · rw [upd_ne (ne_of_none e2 h)]; exact g.fr x w e1 e2
theorem Go.stays (g : Go K G O H G1 O1 H1) (ho : O a = none) (hg : G a = none) (hu : H a = some u) (nt : ∀ vs, u ≠ .tup vs) : O1 a = none ∧ G1 a = none ∧ H1 a = some u := by
  refine ⟨?_, ?_, g.fr a u ho hu⟩
  · cases e : O1 a with
    | none => rfl
    | some w =>
      rcases g.nwO a w e with ⟨z, hz⟩ | hn
      · rw [ho] at hz; cases hz
      · rw [hu] at hn; cases hn
  · cases e : G1 a with
    | none => rfl
    | some w =>
      rcases g.nwG a w e with ⟨z, hz⟩ | ⟨z, hz⟩ | hn | ⟨ts, hn⟩
      · rw [ho] at hz; cases hz
      · rw [hg] at hz; cases hz
      · rw [hu] at hn; cases hn
      · rw [hu] at hn; exact absurd (Option.some.inj hn) (nt ts)
end
def PU (K : PySem.W.Frag) (G : Hp) : List KA → List D → Prop := Paired fun (p : KA) (d : D) => VR K G (.ref p.2) d ∧ tkOf d = some p.1
theorem PU.mono {K : PySem.W.Frag} {G G' : Hp} (e : Ex G G') {ks : List KA} {ds : List D} (h : PU K G ks ds) : PU K G' ks ds := Paired.mapP h fun _ _ z => ⟨z.1.mono e, z.2⟩
def putU (acc : List D) (k : List Key) (y : D) : List D := if acc.any (fun z => decide (tkOf z = some k)) then acc else acc ++ [y]
theorem PU.any {K : PySem.W.Frag} {G : Hp} {k : List Key} : ∀ {ks : List KA} {ds : List D}, PU K G ks ds → ks.any (fun x => decide (x.1 = k)) = ds.any (fun z => decide (tkOf z = some k))
  | _, _, .nil => rfl
  | _, _, .cons h t => by
    rw [List.any_cons, List.any_cons, PU.any t, h.2]
    simp
theorem PU.snoc {K : PySem.W.Frag} {G : Hp} {p : KA} {d : D} (q : VR K G (.ref p.2) d ∧ tkOf d = some p.1) : ∀ {ks : List KA} {ds : List D}, PU K G ks ds → PU K G (ks ++ [p]) (ds ++ [d])
  | _, _, .nil => .cons q .nil
  | _, _, .cons h t => .cons h (PU.snoc q t)
theorem PU.put {K : PySem.W.Frag} {G : Hp} {ks : List KA} {ds : List D} {k : List Key} {a : Addr} {y : D} (h : PU K G ks ds) (hv : VR K G (.ref a) y) (hk : tkOf y = some k) : PU K G (putKA ks k a) (putU ds k y) := by
  unfold putKA putU
  rw [h.any]
  split
  · exact h
  · exact h.snoc ⟨hv, hk⟩
theorem PU.vrs {K : PySem.W.Frag} {G : Hp} : ∀ {ks : List KA} {ds : List D}, PU K G ks ds → VRs K G (ks.map fun x => V.ref x.2) ds
  | _, _, .nil => .nil
  | _, _, .cons h t => .cons h.1 (PU.vrs t)
theorem PU.keys {K : PySem.W.Frag} {G : Hp} {O : Om} {H : Hp} (rl : Rel K G O H) : ∀ {ks : List KA} {ds : List D}, PU K G ks ds → ∀ x ∈ ks, SqT K H x.2 (x.1.map kV)
  | _, _, .nil, x, hx => by cases hx
  | _, _, .cons h t, x, hx => by
    rcases List.mem_cons.mp hx with e | e
    · subst e
      obtain ⟨b, eb, hb⟩ := tk_vr rl h.1 h.2
      cases eb
      exact hb
    · exact PU.keys rl t x e
theorem PU.len {K : PySem.W.Frag} {G : Hp} {ks : List KA} {ds : List D} (h : PU K G ks ds) : ks.length = ds.length := Paired.length h
def dCompU (u : DG) (te tv : DE) (ok : Om → Prop) (g : Gm) (R : List D → Om → Prop) : List D → List D → Om → Prop
  | [], acc, O => ok O ∧ R acc O
  | x :: xs, acc, O => ok O ∧ u x g O fun g1 O1 => te g1 O1 fun y O2 => tv g1 O2 fun _ O3 => (∃ k, tkOf y = some k ∧ acc.length < sizeLine ∧ dCompU u te tv ok g R xs (putU acc k y) O3)
def dUniq (it : DI) (u : DG) (te tv : DE) (vs : List Nat) : DE := fun g O R => it g O fun xs ok O1 => dCompU u te tv ok (wipeD g vs) (fun ds O2 => ∀ p, O2 p = none → R (.ref p) (up O2 p (.lst ds))) xs [] O1
theorem low_uniq {X : Cx} {it : DI} {u : DG} {te tv : DE} {vs : List Nat} : ∀ s H (Q : VK), lowE X.K (dUniq it u te tv vs) s H Q → tDcX X (lowI X.K it) (lowGw X.K vs u) (lowT X.K dYes) (lowE X.K te) (lowE X.K tv) vs s H (fun v H1 => ∃ d ks, [v] = [V.ref d] ∧ H1 d = some (DictO X.prog X.w d ks) ∧ ∀ p, H1 p = none → Q (.ref p) (upd H1 p (.lst (ks.map fun x => V.ref x.2)))) := fun s H Q ⟨G, O, g, R, rl, gr, h, k⟩ => by
  refine ⟨G, O, g, _, rl, gr, h, fun xs ok O1 J G1 H1 go1 ir q1 => ?_⟩
  intro Dl hD
  obtain ⟨hO, hG⟩ := go1.rel.fresh hD
  have nt : ∀ ks vs, DictO X.prog X.w Dl ks ≠ .tup vs := fun ks vs z => by unfold DictO at z; cases z
  refine ⟨fun i m H' => ∃ G' O' acc ks, Go X.K G1 O1 H1 G' O' H' ∧ O' Dl = none ∧ G' Dl = none ∧ H' Dl = some (DictO X.prog X.w Dl ks) ∧ PU X.K G' ks acc ∧ dCompU u te tv ok (wipeD g vs) (fun ds O2 => ∀ p, O2 p = none → R (.ref p) (up O2 p (.lst ds))) (xs.drop i) acc O' ∧ m = xs.length - i ∧ i ≤ xs.length,
    ⟨_, G1, O1, [], [], (Go.refl go1.rel).putJunk hD hO hG, hO, hG, upd_same, .nil, q1, rfl, Nat.zero_le _⟩, ?_⟩
  rintro i m H2 ⟨G2, O2, acc, ks, go2, nO2, nG2, hh, pu, q2, hm, hi⟩
  have r2 := go2.rel
  cases e : xs.drop i with
  | nil =>
    rw [e] at q2
    have hl : xs.length = i := by
      have := congrArg List.length e
      rw [List.length_drop, List.length_nil] at this
      omega
    refine .inl ⟨?_, Dl, ks, rfl, hh, fun p hp => k _ _ _ _ _ ((go1.trans rl go2).trans rl (Go.new r2 (o := .lst acc) (u := .lst _) hp pu.vrs)) (.ref p) (q2.2 p (r2.fresh hp).1)⟩
    rw [← hl]
    exact ir.stop G2 O2 H2 go2.ex r2 q2.1
  | cons x r =>
    rw [e] at q2
    obtain ⟨hx, hr⟩ := drop_cons e
    have hlt : i < xs.length := (List.getElem?_eq_some_iff.mp hx).1
    refine .inr ⟨ir.go i x G2 O2 H2 hx go2.ex r2 q2.1, fun H' => ∃ G' O' acc ks, Go X.K G1 O1 H1 G' O' H' ∧ O' Dl = none ∧ G' Dl = none ∧ H' Dl = some (DictO X.prog X.w Dl ks) ∧ PU X.K G' ks acc ∧ dCompU u te tv ok (wipeD g vs) (fun ds O2 => ∀ p, O2 p = none → R (.ref p) (up O2 p (.lst ds))) r acc O', ?_, fun v H3 hy => ?_⟩
    · rintro H3 ⟨G3, O3, acc3, ks3, go3, n3, ng3, h3, pu3, q3⟩
      exact ⟨xs.length - (i + 1), by omega, G3, O3, acc3, ks3, go3, n3, ng3, h3, pu3, by rw [hr]; exact q3, rfl, hlt⟩
    · obtain ⟨G3, go3, vr3⟩ := ir.yld i x G2 O2 H2 v H3 hx go2.ex r2 q2.1 hy
      refine ⟨G3, O2, wipeD g vs, x, _, go3.rel, (gr.mono (go1.ex.trans (go2.ex.trans go3.ex))).wipe vs, vr3, q2.2, fun s4 g4 O4 G4 H4 go4 gr4 w4 q4 => ⟨w4.trans ?_, G4, O4, g4, fun b O => b = true ∧ O = O4, go4.rel, gr4, ⟨rfl, rfl⟩, fun b O5 G5 H5 go5 q5 => ?_⟩⟩
      · have wipe2 : ∀ us : List Nat, (∀ a ∈ us, a ∈ vs) → L2.wipe (L2.wipe s us) vs = L2.wipe s vs := by
          intro us
          induction us with
          | nil => intro _; rfl
          | cons a us ih =>
            intro ha
            show L2.wipe ((L2.wipe s us).set a none) vs = _
            rw [wipe_set (ha a List.mem_cons_self)]
            exact ih fun b hb => ha b (List.mem_cons_of_mem _ hb)
        exact wipe2 vs fun _ z => z
      · obtain ⟨rfl, rfl⟩ := q5
        have g25 : Go X.K G2 O2 H2 G5 O5 H5 := (go3.trans r2 go4).trans r2 go5
        rw [if_pos rfl]
        refine ⟨G5, O5, g4, _, go5.rel, gr4.mono go5.ex, q4, fun y O6 w6 G6 H6 go6 vr6 q6 => ?_⟩
        refine ⟨G6, O6, g4, _, go6.rel, (gr4.mono go5.ex).mono go6.ex, q6, fun z O7 w7 G7 H7 go7 vr7 q7 => ?_⟩
        obtain ⟨kk, ek, hsz, q7⟩ := q7
        have g27 := (g25.trans r2 go6).trans r2 go7
        obtain ⟨n7, ng7, h7⟩ := g27.stays nO2 nG2 hh (nt ks)
        obtain ⟨b, rfl, hb⟩ := tk_vr go7.rel (vr6.mono go7.ex) ek
        have pu7 := pu.mono g27.ex
        have g17 := go2.trans go1.rel g27
        refine ⟨ks, kk, b, rfl, hb, h7, pu7.keys go7.rel, by rw [pu7.len]; exact hsz, G7, O7, putU acc kk y, putKA ks kk b, g17.putJunk hD n7 ng7, n7, ng7, upd_same, pu7.put (vr6.mono go7.ex) ek, q7⟩
section
variable {X : Cx} {tg : Expr} {pos : Pos}
theorem e_uniq {k : Nat} {kx vx iter : Expr} {scope : Scope} {own : List (Str × Nat)} {it : DI} {u : DG} {te tv : DE} {p q : Pos} (hr : Room k X.A) (hm : X.mg "list" = none) (hc : X.calm = true) (hN : X.N.Nodup) (hi : PI X tg iter (lowI X.K it)) (ok : BlkOk X.N X.env.scope scope own)
    (hg : ∀ (s : Shared) (H : Hp) (C : Addr) (cl : List (Str × Addr)) (fp : List Addr), PG (X.blk s H scope (compEnvC scope cl C X.env) fp) tg (lowGw X.K (own.map (·.2)) u)) (ht : ∀ (s : Shared) (H : Hp) (C : Addr) (cl : List (Str × Addr)) (fp : List Addr), PTs (X.blk s H scope (compEnvC scope cl C X.env) fp) [] (lowT X.K dYes))
    (hk : ∀ (s : Shared) (H : Hp) (C : Addr) (cl : List (Str × Addr)) (fp : List Addr), PE (X.blk s H scope (compEnvC scope cl C X.env) fp) kx (lowE X.K te))
    (he : ∀ (s : Shared) (H : Hp) (C : Addr) (cl : List (Str × Addr)) (fp : List Addr), PE (X.blk s H scope (compEnvC scope cl C X.env) fp) vx (lowE X.K tv)) (hs : ∀ x, foldedSetIterable iter X.env x = pure x := by intro _; rfl) (hgl : Gl X "list" := by rfl)
    (na : starEach [.DictComp kx vx [⟨tg, iter, [], 0⟩] scope pos] X.env = (false, eval (.DictComp kx vx [⟨tg, iter, [], 0⟩] scope pos) X.env) :: starEach [] X.env := by rfl) :
    PE X (.Call (.Name "list" p) [.DictComp kx vx [⟨tg, iter, [], 0⟩] scope pos] [] q) (lowE X.K (dUniq it u te tv (own.map (·.2)))) := by
  have h1 : PE X (.DictComp kx vx [⟨tg, iter, [], 0⟩] scope pos) (tDcX X (lowI X.K it) (lowGw X.K (own.map (·.2)) u) (lowT X.K dYes) (lowE X.K te) (lowE X.K tv) (own.map (·.2))) := by
    refine ⟨fun pins s σ H Q I h => ?_⟩
    rw [arm_eval_DictComp]
    refine dcX_core (by have := hr.un; omega) hc hN I hi ok hg ht hk he hs h fun D C s' m H' I' q hn f => ⟨m, hn, fun h'' sb => ?_⟩
    obtain ⟨f0, f1, f2, f3, f4, f5⟩ := f
    exact ⟨.ref D, H', I'.turned (t' := s'.toks) (fun b o hb e => (sb.2 b hb).trans e) f0 f1 f3 f4 f5, rfl, q⟩
  refine PE.by (pe_callTy (call_list_dX hc) hgl hm (by decide +kernel) (pa_cons h1 pa_nil na) (he := na) (hpl := rfl)) fun s H Q h => low_uniq s H Q h
end
end DL
set_option Elab.async false
set_option linter.all false
set_option maxRecDepth 100000
set_option maxHeartbeats 2000000
namespace DL
open PySem PySem.Spec PyProof.Rows L2
open Evl (Ex)
/-- the tables of the makers' codes -/
structure Tb where
  rising : Addr
  laid : Addr
  beam : Addr
section
variable {P : Program} {w : World} {K : PySem.W.Frag} {mg : Str → Option Value} {base : Heap}
/-- a def that lets nothing out, its code known -/
theorem fn_okC {x qual : Str} {params : Arguments} {body : List Stmt} {scope : Scope} {dvs : List V} {kws : List (Str × V)} {f cc : Addr} {fd : FuncData} {N ps : List Str} {k : Nat} {dsp : DSp} {t : DS} (F : FunD K x qual params body scope dvs kws f fd) (hcc : fd.code = .ref cc) (S : FnScope N ps scope)
    (len : ∀ xs O R Z, dsp xs O R Z → xs.length = ps.length)
    (hb : ∀ (A : Around) (outer : List Env) (s : Shared) (H : Hp) (E : XK), Room k (A.deeper (envOfC qual scope s.heap.objs.size f (.ref cc))) → PSs (cxOf CX0 P w K mg base N qual scope f (.ref cc) A outer s H E).nox body (lowS K W0 t))
    (hd : ∀ xs O R Z, dsp xs O R Z → t (ends R) (startD N xs) O) : FnOk P w K mg base CX0 (k + 1) f fd ps (toSp K dsp) := by
  obtain ⟨oc, od, dV, kV, doc, pm, an, cdv, ct, osl, rfl, lk, hcd, _, _⟩ := F.ex
  have hcc : cdv = .ref cc := hcc
  subst hcc
  refine fn_of lk hcd S (fun vs H Q E h => ?_) (fun A outer s H vs Q E hr h => ⟨lowS K W0 t, (hb A outer s H E hr).nox, ?_⟩)
  · obtain ⟨G, O, xs, R, Z, rl, vr, hs, _⟩ := h
    rw [vr.length]
    exact len _ _ _ _ hs
  · obtain ⟨G, O, xs, R, Z, rl, vr, hs, k, _⟩ := h
    refine ⟨G, O, startD N xs, ends R, rl, GR.start vr, hd _ _ _ _ hs, ⟨fun s' g' O' G' H' go gr q => ?_, fun _ _ _ _ _ _ _ q => q, fun _ _ _ _ _ _ _ q => q, fun x O' v G' H' go vr q => ?_, fun _ _ _ _ _ _ _ _ _ q => q⟩⟩
    · obtain ⟨O2, h1, h2⟩ := q
      exact k _ _ _ _ _ (go.less h1) .non h2
    · obtain ⟨O2, h1, h2⟩ := q
      exact k _ _ _ _ _ (go.less h1) vr h2
end
end DL
set_option linter.all false
set_option maxRecDepth 100000
set_option maxHeartbeats 1000000
namespace Lw
open PySem PySem.Spec PyProof.Rows L2 DL
open Evl (Ex)
/-! ### the least common under -/
def lcmN (qs : List Rat) : Nat := qs.foldl (fun a q => Nat.lcm a q.den) 1
theorem lcmN_snoc (qs : List Rat) (q : Rat) : lcmN (qs ++ [q]) = Nat.lcm (lcmN qs) q.den := by unfold lcmN; rw [List.foldl_append]; rfl
theorem lcm_ind {P : List Rat → Prop} (h0 : P []) (hs : ∀ qs q, P qs → P (qs ++ [q])) (qs : List Rat) : P qs := by
  have key : ∀ rs : List Rat, P rs.reverse := by
    intro rs
    induction rs with
    | nil => exact h0
    | cons r rs ih => rw [List.reverse_cons]; exact hs _ _ ih
  have := key qs.reverse
  rwa [List.reverse_reverse] at this
theorem lcmN_pos (qs : List Rat) : 0 < lcmN qs := lcm_ind (P := fun qs => 0 < lcmN qs) (by decide) (fun qs q h => by rw [lcmN_snoc]; exact Nat.lcm_pos h q.den_pos) qs
theorem lcmN_dvd (qs : List Rat) : ∀ q ∈ qs, q.den ∣ lcmN qs := lcm_ind (P := fun qs => ∀ q ∈ qs, q.den ∣ lcmN qs) (fun q h => by cases h) (fun qs q h z hz => by
  rw [lcmN_snoc]
  rcases List.mem_append.mp hz with hz | hz
  · exact Nat.dvd_trans (h z hz) (Nat.dvd_lcm_left _ _)
  · rw [List.mem_singleton.mp hz]; exact Nat.dvd_lcm_right _ _) qs
theorem lcmN_lt {m : Nat} (qs : List Rat) : (∀ q ∈ qs, Bz m q) → lcmN qs < 2 ^ (qs.length * m + 1) := lcm_ind (P := fun qs => (∀ q ∈ qs, Bz m q) → lcmN qs < 2 ^ (qs.length * m + 1)) (fun _ => by show 1 < 2 ^ (0 * m + 1); rw [Nat.zero_mul]; decide) (fun qs q ih h => by
  rw [lcmN_snoc]
  have h1 := ih fun z hz => h z (by simp [hz])
  have h2 := (h q (by simp)).2
  have h3 : Nat.lcm (lcmN qs) q.den ≤ lcmN qs * q.den := Nat.le_of_dvd (Nat.mul_pos (lcmN_pos qs) q.den_pos) (Nat.lcm_dvd_mul _ _)
  have h4 := mul_lt h1 h2
  refine Nat.lt_of_le_of_lt h3 (Nat.lt_of_lt_of_le h4 (Nat.pow_le_pow_right (by decide) ?_))
  rw [List.length_append, List.length_singleton, Nat.add_mul]
  omega) qs
theorem lcm_div (a d : Nat) : a / Nat.gcd a d * d = Nat.lcm a d := by
  unfold Nat.lcm
  obtain ⟨k, hk⟩ := Nat.gcd_dvd_left a d
  by_cases h0 : Nat.gcd a d = 0
  · rw [h0]; simp
  · have hp : 0 < Nat.gcd a d := Nat.pos_of_ne_zero h0
    generalize Nat.gcd a d = g at *
    subst hk
    rw [Nat.mul_div_cancel_left _ hp, Nat.mul_assoc, Nat.mul_div_cancel_left _ hp]
def t_under_all : DS :=
  (dSeq (dSet 1 (dC (.int 1)))
  (dSeq (dFor (dSeqI (dVar 0)) (gN 2) (dSet 1 (dOp dMul (dOp dFd (dVar 1) (dCall sp_common [.p 0, .p 1] [] (dCons (dVar 1) (dCons (dOp dIx (dVar 2) (dC (.int 1))) dNil)) dNil)) (dOp dIx (dVar 2) (dC (.int 1))))))
  (dRet (dVar 1))))
def n_under_all : List Str := ["row", "found", "one"]
def sp_under_all : DSp := fun xs O R _ => ∃ (qs : List Rat) (m : Nat), xs = [.lst (qs.map pR)] ∧ (∀ q ∈ qs, Bz m q) ∧ 0 < m ∧ m ≤ 9000 ∧ qs.length * m ≤ 50000000 ∧ R (.int (lcmN qs : Nat)) O
theorem d_under_all : ∀ xs O R Z, sp_under_all xs O R Z → t_under_all (ends R) (startD n_under_all xs) O := by
  rintro _ O R Z ⟨qs, m, rfl, hq, m0, m1, hl, k⟩
  show t_under_all (ends R) [some (.lst (qs.map pR)), none, none] O
  unfold t_under_all
  refine seq1 fun N hN => ?_; simp only [dIfS, dAndT, dOrT, dNotT, dTest, dTruth, dTru, dAndV, dOrV, dNotV, dIf, dOp, dUn, dVar, dC, dI, dIc, dAdd, dSub, dMul, dFd, dMod, dPow, dNeg, dLt, dLe, dGt, dGe, dIsN, dNotN, DL.isNon, ix_pR0, ix_pR1, ix_tup, ix_lst, ix_ref, dSl, dPart, dNoPart, dCB, len_tup, len_lst, len_ref, dAbs, dList, dTuple, dBls, dSum, dIsi, dIsi2, dtOf, isC, seqOf, lstOf, dCons, dNil, dTup, dLst, dRet, dRetN, dNext, dDrop, dAsg, gN, gsNil, gsCons, gT, gSubD, dSetL, dPar, dAug, dIpAdd, dIpSub, dCall, eq_int, eq_str, eq_bl, ne_int, ne_str, ne_bl, eq_pR, ne_pR, plus_eq, less_eq, times_eq, over_eq, floor_eq, ceil_eq, part_eq, below_eq, seq_pR, pick_nil, pick_p, pick_k, pick_d, dBreak, dCont, dLM, dLM0, isL, dAppend, dInsert, dPop, dPopAt, dRevL, dStr, dFmt, dJs, dMax2, dMin2, dSorted, dNewK, dctOf, dGetK, dHasK, DL.keyOf, dPutK, dDelK, dSortedD, dSet, dLstF, dRevF, dSlF, dListF, dSortedF, dSortedDF, dMaxF, dMinF, dInS, dLtA, dNewT, dGetT, dHasT, dctT, tkOf, keysOf, dTupP, dPutT, dPutP, putTk, pkOf, dSortedTF, dGet1, dGet2, dGet2T, dDisp1, dRep, dInt, dBits, dExtend, dReverse, dMaxDf, dCat, dCatF, dExtL, dDcT, Option.isSome_some, List.getElem?_cons_zero, List.getElem?_cons_succ, List.set_cons_zero, List.set_cons_succ, atI_0, atI_1, atI_2, atI_3, atI_4, atI_5, ixN_0, ixN_1, ixN_2, ixN_3, ixN_4, ixN_5, up_same, List.length_cons, List.length_nil, Bool.not_true, Bool.not_false, Bool.false_eq_true, if_true, if_false, reduceIte]
  subst hN
  refine seq_by (fun g O' => O = O' ∧ ∃ x2, g = [some (.lst (qs.map pR)), some (.int (lcmN qs : Nat)), x2]) (fun N hN => ?_) ?_
  · unfold dFor
    refine seqI_lst rfl ?_
    refine loop_map (fun pre g O' => O = O' ∧ ∃ x2, g = [some (.lst (qs.map pR)), some (.int (lcmN pre : Nat)), x2]) ⟨rfl, _, rfl⟩ (fun _ _ _ _ => True.intro) ?_ ?_
    · rintro pre q post _ _ M e ⟨rfl, x2, rfl⟩ hM
      have hqm := hq q (by rw [e]; simp)
      simp only [gN, List.set_cons_succ, List.set_cons_zero]
      simp only [dIfS, dAndT, dOrT, dNotT, dTest, dTruth, dTru, dAndV, dOrV, dNotV, dIf, dOp, dUn, dVar, dC, dI, dIc, dAdd, dSub, dMul, dFd, dMod, dPow, dNeg, dLt, dLe, dGt, dGe, dIsN, dNotN, DL.isNon, ix_pR0, ix_pR1, ix_tup, ix_lst, ix_ref, dSl, dPart, dNoPart, dCB, len_tup, len_lst, len_ref, dAbs, dList, dTuple, dBls, dSum, dIsi, dIsi2, dtOf, isC, seqOf, lstOf, dCons, dNil, dTup, dLst, dRet, dRetN, dNext, dDrop, dAsg, gN, gsNil, gsCons, gT, gSubD, dSetL, dPar, dAug, dIpAdd, dIpSub, dCall, eq_int, eq_str, eq_bl, ne_int, ne_str, ne_bl, eq_pR, ne_pR, plus_eq, less_eq, times_eq, over_eq, floor_eq, ceil_eq, part_eq, below_eq, seq_pR, pick_nil, pick_p, pick_k, pick_d, dBreak, dCont, dLM, dLM0, isL, dAppend, dInsert, dPop, dPopAt, dRevL, dStr, dFmt, dJs, dMax2, dMin2, dSorted, dNewK, dctOf, dGetK, dHasK, DL.keyOf, dPutK, dDelK, dSortedD, dSet, dLstF, dRevF, dSlF, dListF, dSortedF, dSortedDF, dMaxF, dMinF, dInS, dLtA, dNewT, dGetT, dHasT, dctT, tkOf, keysOf, dTupP, dPutT, dPutP, putTk, pkOf, dSortedTF, dGet1, dGet2, dGet2T, dDisp1, dRep, dInt, dBits, dExtend, dReverse, dMaxDf, dCat, dCatF, dExtL, dDcT, Option.isSome_some, List.getElem?_cons_zero, List.getElem?_cons_succ, List.set_cons_zero, List.set_cons_succ, atI_0, atI_1, atI_2, atI_3, atI_4, atI_5, ixN_0, ixN_1, ixN_2, ixN_3, ixN_4, ixN_5, up_same, List.length_cons, List.length_nil, Bool.not_true, Bool.not_false, Bool.false_eq_true, if_true, if_false, reduceIte]
      have hp := lcmN_pos pre
      have hd := q.den_pos
      refine ⟨(lcmN pre : Nat), (q.den : Nat), rfl, by omega, by omega, ?_⟩
      simp only [dIfS, dAndT, dOrT, dNotT, dTest, dTruth, dTru, dAndV, dOrV, dNotV, dIf, dOp, dUn, dVar, dC, dI, dIc, dAdd, dSub, dMul, dFd, dMod, dPow, dNeg, dLt, dLe, dGt, dGe, dIsN, dNotN, DL.isNon, ix_pR0, ix_pR1, ix_tup, ix_lst, ix_ref, dSl, dPart, dNoPart, dCB, len_tup, len_lst, len_ref, dAbs, dList, dTuple, dBls, dSum, dIsi, dIsi2, dtOf, isC, seqOf, lstOf, dCons, dNil, dTup, dLst, dRet, dRetN, dNext, dDrop, dAsg, gN, gsNil, gsCons, gT, gSubD, dSetL, dPar, dAug, dIpAdd, dIpSub, dCall, eq_int, eq_str, eq_bl, ne_int, ne_str, ne_bl, eq_pR, ne_pR, plus_eq, less_eq, times_eq, over_eq, floor_eq, ceil_eq, part_eq, below_eq, seq_pR, pick_nil, pick_p, pick_k, pick_d, dBreak, dCont, dLM, dLM0, isL, dAppend, dInsert, dPop, dPopAt, dRevL, dStr, dFmt, dJs, dMax2, dMin2, dSorted, dNewK, dctOf, dGetK, dHasK, DL.keyOf, dPutK, dDelK, dSortedD, dSet, dLstF, dRevF, dSlF, dListF, dSortedF, dSortedDF, dMaxF, dMinF, dInS, dLtA, dNewT, dGetT, dHasT, dctT, tkOf, keysOf, dTupP, dPutT, dPutP, putTk, pkOf, dSortedTF, dGet1, dGet2, dGet2T, dDisp1, dRep, dInt, dBits, dExtend, dReverse, dMaxDf, dCat, dCatF, dExtL, dDcT, Option.isSome_some, List.getElem?_cons_zero, List.getElem?_cons_succ, List.set_cons_zero, List.set_cons_succ, atI_0, atI_1, atI_2, atI_3, atI_4, atI_5, ixN_0, ixN_1, ixN_2, ixN_3, ixN_4, ixN_5, up_same, List.length_cons, List.length_nil, Bool.not_true, Bool.not_false, Bool.false_eq_true, if_true, if_false, reduceIte]
      have eg : Int.gcd (lcmN pre : Nat) (q.den : Nat) = Nat.gcd (lcmN pre) q.den := rfl
      rw [eg]
      have gp : 0 < Nat.gcd (lcmN pre) q.den := Nat.gcd_pos_of_pos_right _ hd
      have gl : Nat.gcd (lcmN pre) q.den ≤ q.den := Nat.le_of_dvd hd (Nat.gcd_dvd_right _ _)
      have hpl : ∀ z ∈ pre, Bz m z := fun z hz => hq z (by rw [e]; simp [hz])
      have hlt := lcmN_lt pre hpl
      have hlen : pre.length * m ≤ qs.length * m := Nat.mul_le_mul_right _ (by rw [e]; simp)
      refine ⟨Dok.of (by omega) ?_, Smi.mok ?_ ?_, ?_⟩
      · show (Nat.gcd (lcmN pre) q.den).log2 < 9000
        exact Nat.lt_of_lt_of_le ((Nat.log2_lt (by omega)).mpr (Nat.lt_of_le_of_lt gl hqm.2)) m1
      · refine Smi.of (a := pre.length * m + 1) ?_ (by omega) (by omega)
        show ((lcmN pre : Int) / (Nat.gcd (lcmN pre) q.den : Nat)).natAbs < _
        rw [← Int.natCast_ediv]
        exact Nat.lt_of_le_of_lt (Nat.div_le_self _ _) hlt
      · exact Smi.of (a := m) hqm.2 m0 (by omega)
      · have e3 : (lcmN pre : Int) / (Nat.gcd (lcmN pre) q.den : Nat) * (q.den : Nat) = (lcmN (pre ++ [q]) : Nat) := by
          rw [lcmN_snoc, ← lcm_div, Int.natCast_mul, Int.natCast_ediv]
        rw [e3]
        exact hM _ _ ⟨rfl, _, rfl⟩
    · rintro _ _ ⟨rfl, x2, rfl⟩
      exact hN _ _ ⟨rfl, _, rfl⟩
  · rintro _ _ ⟨rfl, x2, rfl⟩
    simp only [dIfS, dAndT, dOrT, dNotT, dTest, dTruth, dTru, dAndV, dOrV, dNotV, dIf, dOp, dUn, dVar, dC, dI, dIc, dAdd, dSub, dMul, dFd, dMod, dPow, dNeg, dLt, dLe, dGt, dGe, dIsN, dNotN, DL.isNon, ix_pR0, ix_pR1, ix_tup, ix_lst, ix_ref, dSl, dPart, dNoPart, dCB, len_tup, len_lst, len_ref, dAbs, dList, dTuple, dBls, dSum, dIsi, dIsi2, dtOf, isC, seqOf, lstOf, dCons, dNil, dTup, dLst, dRet, dRetN, dNext, dDrop, dAsg, gN, gsNil, gsCons, gT, gSubD, dSetL, dPar, dAug, dIpAdd, dIpSub, dCall, eq_int, eq_str, eq_bl, ne_int, ne_str, ne_bl, eq_pR, ne_pR, plus_eq, less_eq, times_eq, over_eq, floor_eq, ceil_eq, part_eq, below_eq, seq_pR, pick_nil, pick_p, pick_k, pick_d, dBreak, dCont, dLM, dLM0, isL, dAppend, dInsert, dPop, dPopAt, dRevL, dStr, dFmt, dJs, dMax2, dMin2, dSorted, dNewK, dctOf, dGetK, dHasK, DL.keyOf, dPutK, dDelK, dSortedD, dSet, dLstF, dRevF, dSlF, dListF, dSortedF, dSortedDF, dMaxF, dMinF, dInS, dLtA, dNewT, dGetT, dHasT, dctT, tkOf, keysOf, dTupP, dPutT, dPutP, putTk, pkOf, dSortedTF, dGet1, dGet2, dGet2T, dDisp1, dRep, dInt, dBits, dExtend, dReverse, dMaxDf, dCat, dCatF, dExtL, dDcT, Option.isSome_some, List.getElem?_cons_zero, List.getElem?_cons_succ, List.set_cons_zero, List.set_cons_succ, atI_0, atI_1, atI_2, atI_3, atI_4, atI_5, ixN_0, ixN_1, ixN_2, ixN_3, ixN_4, ixN_5, up_same, List.length_cons, List.length_nil, Bool.not_true, Bool.not_false, Bool.false_eq_true, if_true, if_false, reduceIte]
    exact Fin.here k
/-! ### unlike parts, rising -/
def addU (acc : List Rat) (q : Rat) : List Rat := if q ∈ acc then acc else acc ++ [q]
def dedF (qs : List Rat) : List Rat := qs.foldl addU []
theorem dedF_snoc (qs : List Rat) (q : Rat) : dedF (qs ++ [q]) = addU (dedF qs) q := by unfold dedF; rw [List.foldl_append]; rfl
theorem dedF_mem (qs : List Rat) : ∀ z, z ∈ dedF qs ↔ z ∈ qs := lcm_ind (P := fun qs => ∀ z, z ∈ dedF qs ↔ z ∈ qs) (fun z => Iff.rfl) (fun qs q ih z => by
  rw [dedF_snoc]
  unfold addU
  split
  · rename_i h
    rw [ih z, List.mem_append, List.mem_singleton]
    refine ⟨.inl, fun h2 => ?_⟩
    rcases h2 with h2 | h2
    · exact h2
    · rw [h2]; exact (ih q).mp h
  · rw [List.mem_append, List.mem_append, ih z]) qs
theorem dedF_nodup (qs : List Rat) : (dedF qs).Nodup := lcm_ind (P := fun qs => (dedF qs).Nodup) List.nodup_nil (fun qs q ih => by
  rw [dedF_snoc]
  unfold addU
  split
  · exact ih
  · rename_i h
    rw [List.nodup_append]
    exact ⟨ih, by simp, fun a ha b hb => by rw [List.mem_singleton.mp hb]; exact fun z => h (z ▸ ha)⟩) qs
theorem dedF_len (qs : List Rat) : (dedF qs).length ≤ qs.length := lcm_ind (P := fun qs => (dedF qs).length ≤ qs.length) (Nat.le_refl _) (fun qs q ih => by
  rw [dedF_snoc]
  unfold addU
  split
  · rw [List.length_append]; omega
  · rw [List.length_append, List.length_append]; omega) qs
def kkR (x : Rat) : List Key := [.inl x.num, .inl (x.den : Int)]
theorem tk_pR (x : Rat) : tkOf (pR x) = some (kkR x) := rfl
theorem kkR_inj {x y : Rat} (h : kkR x = kkR y) : x = y := by
  unfold kkR at h
  injection h with h1 h2
  injection h2 with h2 _
  injection h1 with h1
  injection h2 with h2
  exact pR_inj (Prod.ext h1 h2)
theorem putU_pR (acc : List Rat) (q : Rat) : putU (acc.map pR) (kkR q) (pR q) = (addU acc q).map pR := by
  have e : (acc.map pR).any (fun z => decide (tkOf z = some (kkR q))) = decide (q ∈ acc) := by
    rw [List.any_map, Bool.eq_iff_iff, List.any_eq_true, decide_eq_true_eq]
    constructor
    · rintro ⟨x, hx, h⟩
      have h : decide (tkOf (pR x) = some (kkR q)) = true := h
      rw [tk_pR, decide_eq_true_eq] at h
      rw [← kkR_inj (Option.some.inj h)]; exact hx
    · intro h
      exact ⟨q, h, by show decide (tkOf (pR q) = some (kkR q)) = true; rw [tk_pR]; simp⟩
  unfold putU addU
  rw [e]
  by_cases h : q ∈ acc
  · simp [h]
  · simp [h]
def srt (qs : List Rat) : List Rat := (dedF qs).mergeSort fun a b => decide (a ≤ b)
theorem srt_mem (qs : List Rat) (z : Rat) : z ∈ srt qs ↔ z ∈ qs := by unfold srt; rw [List.mem_mergeSort, dedF_mem]
theorem srt_lt (qs : List Rat) : (srt qs).Pairwise (· < ·) := by
  have h1 : (srt qs).Pairwise fun a b => decide (a ≤ b) = true := List.pairwise_mergeSort (le := fun (a b : Rat) => decide (a ≤ b)) (fun a b c h1 h2 => by
    simp only [decide_eq_true_eq] at *
    exact Rat.le_trans h1 h2) (fun a b => by
    simp only [Bool.or_eq_true, decide_eq_true_eq]
    exact Rat.le_total) _
  have h2 : (srt qs).Nodup := (List.mergeSort_perm _ _).nodup_iff.mpr (dedF_nodup qs)
  refine (h1.and h2).imp fun {a b} h => ?_
  simp only [decide_eq_true_eq] at h
  exact Rat.lt_of_le_of_ne h.1 h.2
theorem srt_len (qs : List Rat) : (srt qs).length ≤ qs.length := by unfold srt; rw [List.length_mergeSort]; exact dedF_len qs
theorem sorted_uniq : ∀ {xs ys : List Rat}, xs.Pairwise (· < ·) → ys.Pairwise (· < ·) → (∀ z, z ∈ xs ↔ z ∈ ys) → xs = ys
  | [], [], _, _, _ => rfl
  | [], y :: ys, _, _, h => by have := (h y).mpr (by simp); cases this
  | x :: xs, [], _, _, h => by have := (h x).mp (by simp); cases this
  | x :: xs, y :: ys, h1, h2, h => by
    rw [List.pairwise_cons] at h1 h2
    have exy : x = y := by
      rcases List.mem_cons.mp ((h x).mp (by simp)) with e | e
      · exact e
      · rcases List.mem_cons.mp ((h y).mpr (by simp)) with e2 | e2
        · exact e2.symm
        · have a := h2.1 x e
          have b := h1.1 y e2
          grind
    subst exy
    rw [sorted_uniq h1.2 h2.2 fun z => ?_]
    constructor
    · intro hz
      rcases List.mem_cons.mp ((h z).mp (by simp [hz])) with e | e
      · have := h1.1 z hz; rw [e] at this; exact absurd this (by grind)
      · exact e
    · intro hz
      rcases List.mem_cons.mp ((h z).mpr (by simp [hz])) with e | e
      · have := h2.1 z hz; rw [e] at this; exact absurd this (by grind)
      · exact e
theorem key_le {x y : Rat} {W : Nat} (hW : 0 < W) (hx : x.den ∣ W) (hy : y.den ∣ W) : keyZ (W : Int) (ptR x) ≤ keyZ (W : Int) (ptR y) ↔ x ≤ y := by
  obtain ⟨a, ha⟩ := hx
  obtain ⟨b, hb⟩ := hy
  have dx := x.den_pos
  have dy := y.den_pos
  have ex : keyZ (W : Int) (ptR x) = x.num * a := by
    show x.num * Int.fdiv (W : Int) (x.den : Int) = _
    rw [ha, Int.fdiv_eq_ediv_of_nonneg _ (by omega), Int.natCast_mul, Int.mul_ediv_cancel_left _ (by omega)]
  have ey : keyZ (W : Int) (ptR y) = y.num * b := by
    show y.num * Int.fdiv (W : Int) (y.den : Int) = _
    rw [hb, Int.fdiv_eq_ediv_of_nonneg _ (by omega), Int.natCast_mul, Int.mul_ediv_cancel_left _ (by omega)]
  rw [ex, ey, Rat.le_iff]
  have hab : (x.den : Int) * a = (y.den : Int) * b := by rw [← Int.natCast_mul, ← Int.natCast_mul, ← ha, ← hb]
  have ap : (0 : Int) < a := by
    have : 0 < a := by rcases Nat.eq_zero_or_pos a with h | h; · subst h; omega
                       · exact h
    omega
  have bp : (0 : Int) < b := by
    have : 0 < b := by rcases Nat.eq_zero_or_pos b with h | h; · subst h; omega
                       · exact h
    omega
  have dx' : (0 : Int) < x.den := by omega
  have dy' : (0 : Int) < y.den := by omega
  generalize (x.den : Int) = d at *
  generalize (y.den : Int) = e at *
  generalize x.num = n at *
  generalize y.num = k at *
  generalize (a : Int) = a at *
  generalize (b : Int) = b at *
  constructor
  · intro h
    have h1 : n * a * d ≤ k * b * d := Int.mul_le_mul_of_nonneg_right h (by omega)
    have e1 : n * a * d = n * e * b := by rw [Int.mul_assoc, Int.mul_comm a d, hab, Int.mul_assoc]
    have e2 : k * b * d = k * d * b := by rw [Int.mul_assoc, Int.mul_comm b d, Int.mul_assoc]
    rw [e1, e2] at h1
    exact Int.le_of_mul_le_mul_right h1 bp
  · intro h
    have h1 : n * e * b ≤ k * d * b := Int.mul_le_mul_of_nonneg_right h (by omega)
    have e1 : n * a * d = n * e * b := by rw [Int.mul_assoc, Int.mul_comm a d, hab, Int.mul_assoc]
    have e2 : k * b * d = k * d * b := by rw [Int.mul_assoc, Int.mul_comm b d, Int.mul_assoc]
    rw [← e1, ← e2] at h1
    exact Int.le_of_mul_le_mul_right h1 dx'
def qRise : Str := PySem.Str.ofString "rising.<locals>.<lambda>"
def t_rising (tb : Tb) : DS :=
  (dSeq (dSet 1 (dCall sp_under_all [.p 0] [] (dCons (dVar 0) dNil) dNil))
  (dRet (dFz (dSortRise tb.rising (PySem.Str.ofString "rising.<locals>.<lambda>") 1 (dUniq (dSeqI (dVar 0)) (gN 2) (dVar 2) (dC (.bl true)) [2])))))
def n_rising : List Str := ["row", "whole", "one"]
theorem uniq_run {u : DG} {te tv : DE} {ok : Om → Prop} {g : Gm} {R : List D → Om → Prop} {O : Om} {qs : List Rat} (hok : ok O) (hl : qs.length ≤ 10000)
    (hs : ∀ q, q ∈ qs → ∀ N : D → Om → Prop, N (pR q) O → u (pR q) g O fun g1 O1 => te g1 O1 fun y O2 => tv g1 O2 fun _ O3 => N y O3) (hd : R ((dedF qs).map pR) O) : dCompU u te tv ok g R (qs.map pR) [] O := by
  have key : ∀ (post pre : List Rat), qs = pre ++ post → dCompU u te tv ok g R (post.map pR) ((dedF pre).map pR) O := by
    intro post
    induction post with
    | nil =>
      intro pre e
      rw [List.append_nil] at e
      subst e
      exact ⟨hok, hd⟩
    | cons q post ih =>
      intro pre e
      refine ⟨hok, hs q (by rw [e]; simp) (fun y O3 => ∃ k, tkOf y = some k ∧ ((dedF pre).map pR).length < sizeLine ∧ dCompU u te tv ok g R (post.map pR) (putU ((dedF pre).map pR) k y) O3) ⟨kkR q, tk_pR q, ?_, ?_⟩⟩
      · rw [List.length_map, sizeLine_eq]
        have := dedF_len pre
        have : pre.length ≤ qs.length := by rw [e]; simp
        omega
      · rw [putU_pR, ← dedF_snoc]
        exact ih (pre ++ [q]) (by rw [e, List.append_assoc]; rfl)
  exact key qs [] rfl
def sp_rising (tb : Tb) : DSp := fun xs O R _ => ∃ (qs : List Rat), xs = [.lst (qs.map pR)] ∧ (∀ q ∈ qs, Bz 60 q) ∧ qs.length ≤ 10000 ∧ O tb.rising = some (.tab qRise) ∧ R (.lst ((srt qs).map pR)) O
theorem zD_pR (qs : List Rat) : qs.map pR = (qs.map ptR).map zD := by rw [List.map_map]; rfl
theorem d_rising (tb : Tb) : ∀ xs O R Z, sp_rising tb xs O R Z → t_rising tb (ends R) (startD n_rising xs) O := by
  rintro _ O R Z ⟨qs, rfl, hq, hl, ht, k⟩
  show t_rising tb (ends R) [some (.lst (qs.map pR)), none, none] O
  unfold t_rising
  refine seq1 fun N hN => ?_; simp only [dIfS, dAndT, dOrT, dNotT, dTest, dTruth, dTru, dAndV, dOrV, dNotV, dIf, dOp, dUn, dVar, dC, dI, dIc, dAdd, dSub, dMul, dFd, dMod, dPow, dNeg, dLt, dLe, dGt, dGe, dIsN, dNotN, DL.isNon, ix_pR0, ix_pR1, ix_tup, ix_lst, ix_ref, dSl, dPart, dNoPart, dCB, len_tup, len_lst, len_ref, dAbs, dList, dTuple, dBls, dSum, dIsi, dIsi2, dtOf, isC, seqOf, lstOf, dCons, dNil, dTup, dLst, dRet, dRetN, dNext, dDrop, dAsg, gN, gsNil, gsCons, gT, gSubD, dSetL, dPar, dAug, dIpAdd, dIpSub, dCall, eq_int, eq_str, eq_bl, ne_int, ne_str, ne_bl, eq_pR, ne_pR, plus_eq, less_eq, times_eq, over_eq, floor_eq, ceil_eq, part_eq, below_eq, seq_pR, pick_nil, pick_p, pick_k, pick_d, dBreak, dCont, dLM, dLM0, isL, dAppend, dInsert, dPop, dPopAt, dRevL, dStr, dFmt, dJs, dMax2, dMin2, dSorted, dNewK, dctOf, dGetK, dHasK, DL.keyOf, dPutK, dDelK, dSortedD, dSet, dLstF, dRevF, dSlF, dListF, dSortedF, dSortedDF, dMaxF, dMinF, dInS, dLtA, dNewT, dGetT, dHasT, dctT, tkOf, keysOf, dTupP, dPutT, dPutP, putTk, pkOf, dSortedTF, dGet1, dGet2, dGet2T, dDisp1, dRep, dInt, dBits, dExtend, dReverse, dMaxDf, dCat, dCatF, dExtL, dDcT, Option.isSome_some, List.getElem?_cons_zero, List.getElem?_cons_succ, List.set_cons_zero, List.set_cons_succ, atI_0, atI_1, atI_2, atI_3, atI_4, atI_5, ixN_0, ixN_1, ixN_2, ixN_3, ixN_4, ixN_5, up_same, List.length_cons, List.length_nil, Bool.not_true, Bool.not_false, Bool.false_eq_true, if_true, if_false, reduceIte]
  refine ⟨qs, 60, rfl, hq, by decide, by decide, by omega, ?_⟩
  subst hN
  simp only [dRet, dFz, dSortRise, dUniq]
  refine seqI_lst rfl ?_
  refine uniq_run True.intro hl (fun q hq N hN => ?_) ?_
  · simp only [gN, wipeD, dVar, dC, List.set_cons_succ, List.set_cons_zero, List.getElem?_cons_succ, List.getElem?_cons_zero]
    exact hN
  intro p hp
  have hne : tb.rising ≠ p := fun z => by rw [z, hp] at ht; cases ht
  have hW := lcmN_pos qs
  refine ⟨(lcmN qs : Nat), (dedF qs).map ptR, ?_, rfl, by rw [up_ne hne]; exact ht, fun z hz => ?_, fun p2 hp2 => ?_⟩
  · rw [lst_ref up_same, zD_pR]
  · obtain ⟨q, hqm, rfl⟩ := List.mem_map.mp hz
    have hb := hq q ((dedF_mem qs q).mp hqm)
    have hd := q.den_pos
    refine ⟨by show (q.den : Int) ≠ 0; omega, ?_, ?_⟩
    · have : (q.den : Int).natAbs.log2 < 60 := by
        simp only [Int.natAbs_natCast]
        exact (Nat.log2_lt (by omega)).mpr hb.2
      show (decide (_ > 300) && _) = false
      rw [decide_eq_false, Bool.false_and]
      simp only [gt_iff_lt, Nat.not_lt]
      split
      · omega
      · show (q.den : Int).natAbs.log2 / 30 + 1 ≤ 300
        omega
    · exact ((Smi.of (a := 60) hb.1 (by decide) (by decide)).mok (Smi.of (a := qs.length * 60 + 1) (by
        show (Int.fdiv (lcmN qs : Nat) (q.den : Nat)).natAbs < _
        rw [Int.fdiv_eq_ediv_of_nonneg _ (by omega), ← Int.natCast_ediv]
        exact Nat.lt_of_le_of_lt (Nat.div_le_self _ _) (lcmN_lt qs hq)) (by omega) (by omega))).ok
  · have em : ((dedF qs).map ptR).mergeSort (fun a b => decide (keyZ (lcmN qs : Nat) a ≤ keyZ (lcmN qs : Nat) b)) = (srt qs).map ptR := by
      unfold srt
      refine (List.map_mergeSort fun a ha b hb => ?_).symm
      rw [decide_eq_decide]
      exact (key_le hW (lcmN_dvd qs a ((dedF_mem qs a).mp ha)) (lcmN_dvd qs b ((dedF_mem qs b).mp hb))).symm
    rw [em, ← zD_pR]
    refine fz_ref up_same ?_
    rw [del_up hp2]
    refine ⟨O, fun a o e => ?_, k⟩
    exact Sb.new hp a o e
end Lw
set_option linter.all false
set_option maxRecDepth 100000
set_option maxHeartbeats 1000000
namespace Lw
open PySem PySem.Spec PyProof.Rows L2 DL
open Evl (Ex)
/-! ### stretches -/
abbrev Sg := Rat × Rat × Int
def sgD (s : Sg) : D := .tup [pR s.1, pR s.2.1, .int s.2.2]
def bwD (p : Rat × Rat) : D := .tup [pR p.1, pR p.2]
def tops (bs : List Bx) (p : Rat × Rat) : List Int := (bs.filter fun x => mt ⟨p.1, p.2, 0, 0⟩ x).map fun x => x.hi
def seg1 (bs : List Bx) (p : Rat × Rat) : Option Sg := if tops bs p = [] then none else some (p.1, p.2, mxI (tops bs p))
def stepJ (acc : List Sg) (s : Sg) : List Sg := match acc.getLast? with
  | some z => if z.2.1 = s.1 ∧ z.2.2 = s.2.2 then acc.set (acc.length - 1) (z.1, s.2.1, s.2.2) else acc ++ [s]
  | none => acc ++ [s]
def joinS (ss : List Sg) : List Sg := ss.foldl stepJ []
theorem joinS_snoc (ss : List Sg) (s : Sg) : joinS (ss ++ [s]) = stepJ (joinS ss) s := by unfold joinS; rw [List.foldl_append]; rfl
def segs (bs : List Bx) (ps : List (Rat × Rat)) : List Sg := ps.filterMap (seg1 bs)
def edgs (bs : List Bx) : List Rat := bs.flatMap fun b => [b.l, b.r]
def prs (E : List Rat) : List (Rat × Rat) := E.zip (E.drop 1)
def outl (bs : List Bx) : List Sg := joinS (segs bs (prs (srt (edgs bs))))
theorem stepJ_len (acc : List Sg) (s : Sg) : (stepJ acc s).length ≤ acc.length + 1 := by
  unfold stepJ
  split
  · split
    · rw [List.length_set]; omega
    · rw [List.length_append]; exact Nat.le_refl _
  · rw [List.length_append]; exact Nat.le_refl _
theorem snoc_ind {A : Type} {P : List A → Prop} (h0 : P []) (hs : ∀ qs q, P qs → P (qs ++ [q])) (qs : List A) : P qs := by
  have key : ∀ rs : List A, P rs.reverse := by
    intro rs
    induction rs with
    | nil => exact h0
    | cons r rs ih => rw [List.reverse_cons]; exact hs _ _ ih
  have := key qs.reverse
  rwa [List.reverse_reverse] at this
theorem joinS_len (ss : List Sg) : (joinS ss).length ≤ ss.length := snoc_ind (P := fun ss => (joinS ss).length ≤ ss.length) (Nat.le_refl _) (fun ss s ih => by
  rw [joinS_snoc, List.length_append]
  have := stepJ_len (joinS ss) s
  show _ ≤ ss.length + 1
  omega) ss
/-- what an outline asks of boxes -/
structure GE (b : Bx) : Prop where
  l : Bz 30 b.l
  r : Bz 30 b.r
theorem GE.sl {b : Bx} (h : GE b) : SmP (ptR b.l) := h.l.sm (by decide) (by decide)
theorem GE.sr {b : Bx} (h : GE b) : SmP (ptR b.r) := h.r.sm (by decide) (by decide)
theorem GBx.ge {b : Bx} (h : GBx b) : GE b := ⟨h.l, h.r⟩
theorem edgs_bz {bs : List Bx} (h : ∀ b ∈ bs, GE b) : ∀ q ∈ edgs bs, Bz 30 q := fun q hq => by
  obtain ⟨b, hb, hq⟩ := List.mem_flatMap.mp hq
  simp only [List.mem_cons, List.not_mem_nil, or_false] at hq
  rcases hq with rfl | rfl
  · exact (h b hb).l
  · exact (h b hb).r
theorem edgs_len (bs : List Bx) : (edgs bs).length = 2 * bs.length := by
  unfold edgs
  induction bs with
  | nil => rfl
  | cons b bs ih => rw [List.flatMap_cons, List.length_append, ih, List.length_cons, List.length_cons, List.length_cons, List.length_nil]; omega
theorem prs_mem {E : List Rat} {p : Rat × Rat} (h : p ∈ prs E) : p.1 ∈ E ∧ p.2 ∈ E := by
  obtain ⟨h1, h2⟩ := List.of_mem_zip h
  exact ⟨h1, List.mem_of_mem_drop h2⟩
theorem prs_len (E : List Rat) : (prs E).length ≤ E.length := by unfold prs; rw [List.length_zip]; omega
theorem meetR (p : Rat × Rat) (b : Bx) {us ws : List D} {O : Om} {R : D → Om → Prop} {Z : XD} {m : Nat} (h1 : Bz m p.1) (h2 : Bz m p.2) (hm : 0 < m) (hm2 : m ≤ 1000) (hb : GE b) (r : R (.bl (mt ⟨p.1, p.2, 0, 0⟩ b)) O) : sp_over_v1 [.tup (pR p.1 :: pR p.2 :: us), .tup (pR b.l :: pR b.r :: ws)] O R Z :=
  ⟨ptR p.1, ptR p.2, ptR b.l, ptR b.r, _, _, rfl, h1.sm hm (by omega), h2.sm hm (by omega), hb.sl, hb.sr, by rw [← meet_rat] at r; exact r⟩
theorem meetR' (p : Rat × Rat) (b : Bx) {us ws : List D} {O : Om} {R : D → Om → Prop} {Z : XD} {m : Nat} (h1 : Bz m p.1) (h2 : Bz m p.2) (hm : 0 < m) (hm2 : m ≤ 1000) (hb : GE b) (r : R (.bl (mt ⟨p.1, p.2, 0, 0⟩ b)) O) : sp_law_meet [.tup (pR p.1 :: pR p.2 :: us), .tup (pR b.l :: pR b.r :: ws)] O R Z :=
  ⟨ptR p.1, ptR p.2, ptR b.l, ptR b.r, _, _, rfl, h1.sm hm (by omega), h2.sm hm (by omega), hb.sl, hb.sr, by rw [← meet_rat] at r; exact r⟩
theorem zip_bw (E : List Rat) : zipD (E.map pR) ((E.drop 1).map pR) = (prs E).map bwD := by
  unfold zipD prs
  rw [List.zip_map, List.map_map]; rfl
def t_outline (tb : Tb) : DS :=
  (dSeq (dSet 1 (dCall (sp_rising tb) [.p 0] [] (dCons (dFz (dLc2 (dSeqI (dVar 0)) (gT 4 (gsCons (gN 3) (gsCons (gN 4) (gsCons (gN 8) (gsCons (gN 7) gsNil))))) dYes (dSeqI (dTup (dCons (dVar 3) (dCons (dVar 4) dNil)))) (gN 9) dYes (dVar 9) [3, 4, 8, 7, 9] [9])) dNil) dNil))
  (dSeq (dSet 2 (dLst dNil))
  (dSeq (dFor (dZip (dCons (dVar 1) (dCons (dSlF (dVar 1) (dPart (dC (.int 1))) dNoPart) dNil))) (gT 2 (gsCons (gN 3) (gsCons (gN 4) gsNil))) (dSeq (dSet 5 (dLcF (dSeqI (dVar 0)) (gN 10) (dTest (dCall sp_over_v1 [.p 0, .p 1] [] (dCons (dTup (dCons (dVar 3) (dCons (dVar 4) dNil))) (dCons (dVar 10) dNil)) dNil)) (dOp dIx (dVar 10) (dC (.int 3))) [10]))
  (dIfS (dTest (dOp dGt (dCB dLen (dCons (dVar 5) dNil)) (dC (.int 0)))) (dDrop (dLM dAppend (dVar 2) (dCons (dTup (dCons (dVar 3) (dCons (dVar 4) (dCons (dCB dMaxF (dCons (dVar 5) dNil)) dNil)))) dNil))) dNext)))
  (dSeq (dSet 6 (dLst dNil))
  (dSeq (dFor (dSeqI (dVar 2)) (gT 3 (gsCons (gN 3) (gsCons (gN 4) (gsCons (gN 7) gsNil)))) (dIfS (dAndT (dTest (dOp dGt (dCB dLen (dCons (dVar 6) dNil)) (dC (.int 0)))) (dAndT (dTest (dOp dEq (dOp dIx (dOp dIx (dVar 6) (dUn dNeg (dC (.int 1)))) (dC (.int 1))) (dVar 3))) (dTest (dOp dEq (dOp dIx (dOp dIx (dVar 6) (dUn dNeg (dC (.int 1)))) (dC (.int 2))) (dVar 7))))) (dAsg (dTup (dCons (dOp dIx (dOp dIx (dVar 6) (dUn dNeg (dC (.int 1)))) (dC (.int 0))) (dCons (dVar 4) (dCons (dVar 7) dNil)))) (gSubD (dVar 6) (dUn dNeg (dC (.int 1))) dSetL)) (dDrop (dLM dAppend (dVar 6) (dCons (dTup (dCons (dVar 3) (dCons (dVar 4) (dCons (dVar 7) dNil)))) dNil)))))
  (dRet (dVar 6)))))))
def n_outline : List Str := ["boxes", "edges", "found", "left", "right", "highs", "joined", "high", "low", "edge", "box"]
def sp_outline (tb : Tb) : DSp := fun xs O R _ => ∃ (bs : List Bx), xs = [.lst (bs.map bxR)] ∧ (∀ b ∈ bs, GE b) ∧ bs.length ≤ 1000 ∧ O tb.rising = some (.tab qRise) ∧ ∀ q, O q = none → R (.ref q) (DL.up O q (.lst ((outl bs).map sgD)))
theorem ixN_end {n : Nat} (h : 0 < n) : ixN n (-1) = some (n - 1) := by
  unfold ixN
  rw [if_neg (by decide), if_pos (by omega)]
  congr 1
  omega
theorem atI_end {A : Type} {xs : List A} {x : A} : atI (xs ++ [x]) (-1) = some x := by
  unfold atI
  rw [ixN_end (by rw [List.length_append]; show 0 < xs.length + 1; omega)]
  show (xs ++ [x])[(xs ++ [x]).length - 1]? = some x
  rw [List.length_append]
  show (xs ++ [x])[xs.length + 1 - 1]? = some x
  simp
theorem nil_or_snoc {A : Type} (xs : List A) : xs = [] ∨ ∃ ys y, xs = ys ++ [y] := by
  rcases List.eq_nil_or_concat xs with h | ⟨ys, y, h⟩
  · exact .inl h
  · exact .inr ⟨ys, y, by rw [h, List.concat_eq_append]⟩
theorem last_at {A : Type} (acc : List A) (z : A) : (acc ++ [z]).getLast? = some z := by simp
theorem d_outline (tb : Tb) : ∀ xs O R Z, sp_outline tb xs O R Z → t_outline tb (ends R) (startD n_outline xs) O := by
  rintro _ O R Z ⟨bs, rfl, hb, hl, ht, k⟩
  show t_outline tb (ends R) [some (.lst (bs.map bxR)), none, none, none, none, none, none, none, none, none, none] O
  unfold t_outline
  refine seq1 fun N hN => ?_; simp only [dIfS, dAndT, dOrT, dNotT, dTest, dTruth, dTru, dAndV, dOrV, dNotV, dIf, dOp, dUn, dVar, dC, dI, dIc, dAdd, dSub, dMul, dFd, dMod, dPow, dNeg, dLt, dLe, dGt, dGe, dIsN, dNotN, DL.isNon, ix_pR0, ix_pR1, ix_tup, ix_lst, ix_ref, dSl, dPart, dNoPart, dCB, len_tup, len_lst, len_ref, dAbs, dList, dTuple, dBls, dSum, dIsi, dIsi2, dtOf, isC, seqOf, lstOf, dCons, dNil, dTup, dLst, dRet, dRetN, dNext, dDrop, dAsg, gN, gsNil, gsCons, gT, gSubD, dSetL, dPar, dAug, dIpAdd, dIpSub, dCall, eq_int, eq_str, eq_bl, ne_int, ne_str, ne_bl, eq_pR, ne_pR, plus_eq, less_eq, times_eq, over_eq, floor_eq, ceil_eq, part_eq, below_eq, seq_pR, pick_nil, pick_p, pick_k, pick_d, dBreak, dCont, dLM, dLM0, isL, dAppend, dInsert, dPop, dPopAt, dRevL, dStr, dFmt, dJs, dMax2, dMin2, dSorted, dNewK, dctOf, dGetK, dHasK, DL.keyOf, dPutK, dDelK, dSortedD, dSet, dLstF, dRevF, dSlF, dListF, dSortedF, dSortedDF, dMaxF, dMinF, dInS, dLtA, dNewT, dGetT, dHasT, dctT, tkOf, keysOf, dTupP, dPutT, dPutP, putTk, pkOf, dSortedTF, dGet1, dGet2, dGet2T, dDisp1, dRep, dInt, dBits, dExtend, dReverse, dMaxDf, dCat, dCatF, dExtL, dDcT, Option.isSome_some, List.getElem?_cons_zero, List.getElem?_cons_succ, List.set_cons_zero, List.set_cons_succ, atI_0, atI_1, atI_2, atI_3, atI_4, atI_5, ixN_0, ixN_1, ixN_2, ixN_3, ixN_4, ixN_5, up_same, List.length_cons, List.length_nil, Bool.not_true, Bool.not_false, Bool.false_eq_true, if_true, if_false, reduceIte, dFz, dLc2]
  refine seqI_lst rfl ?_
  refine comp2_len (f := bxR) (fun b => [pR b.l, pR b.r]) True.intro (fun b hbm N2 acc hacc hN2 => ?_) ?_
  · have hlen : (bs.flatMap fun b => [pR b.l, pR b.r]).length = 2 * bs.length := by
      have := edgs_len bs
      unfold edgs at this
      rw [← this, List.length_flatMap, List.length_flatMap]; rfl
    rw [hlen] at hacc
    have ha : acc.length < 3000 := by
      have : acc.length + 2 ≤ 2 * bs.length := hacc
      omega
    have eb : bxR b = .tup [pR b.l, pR b.r, .int b.lo, .int b.hi] := rfl
    simp only [dIfS, dAndT, dOrT, dNotT, dTest, dTruth, dTru, dAndV, dOrV, dNotV, dIf, dOp, dUn, dVar, dC, dI, dIc, dAdd, dSub, dMul, dFd, dMod, dPow, dNeg, dLt, dLe, dGt, dGe, dIsN, dNotN, DL.isNon, ix_pR0, ix_pR1, ix_tup, ix_lst, ix_ref, dSl, dPart, dNoPart, dCB, len_tup, len_lst, len_ref, dAbs, dList, dTuple, dBls, dSum, dIsi, dIsi2, dtOf, isC, seqOf, lstOf, dCons, dNil, dTup, dLst, dRet, dRetN, dNext, dDrop, dAsg, gN, gsNil, gsCons, gT, gSubD, dSetL, dPar, dAug, dIpAdd, dIpSub, dCall, eq_int, eq_str, eq_bl, ne_int, ne_str, ne_bl, eq_pR, ne_pR, plus_eq, less_eq, times_eq, over_eq, floor_eq, ceil_eq, part_eq, below_eq, seq_pR, pick_nil, pick_p, pick_k, pick_d, dBreak, dCont, dLM, dLM0, isL, dAppend, dInsert, dPop, dPopAt, dRevL, dStr, dFmt, dJs, dMax2, dMin2, dSorted, dNewK, dctOf, dGetK, dHasK, DL.keyOf, dPutK, dDelK, dSortedD, dSet, dLstF, dRevF, dSlF, dListF, dSortedF, dSortedDF, dMaxF, dMinF, dInS, dLtA, dNewT, dGetT, dHasT, dctT, tkOf, keysOf, dTupP, dPutT, dPutP, putTk, pkOf, dSortedTF, dGet1, dGet2, dGet2T, dDisp1, dRep, dInt, dBits, dExtend, dReverse, dMaxDf, dCat, dCatF, dExtL, dDcT, Option.isSome_some, List.getElem?_cons_zero, List.getElem?_cons_succ, List.set_cons_zero, List.set_cons_succ, atI_0, atI_1, atI_2, atI_3, atI_4, atI_5, ixN_0, ixN_1, ixN_2, ixN_3, ixN_4, ixN_5, up_same, List.length_cons, List.length_nil, Bool.not_true, Bool.not_false, Bool.false_eq_true, if_true, if_false, reduceIte, dFor, dRng1, dRng2, dRng3, dSeqI, dEnum, dEnumA, dZip, dLc, dLcF, wipeD, dYes, eb]
    refine ⟨by simp, ?_⟩
    simp only [dComp, gN, List.set_cons_succ, List.set_cons_zero, List.getElem?_cons_succ, List.getElem?_cons_zero, if_true]
    refine ⟨True.intro, by rw [sizeLine_eq]; omega, True.intro, by rw [sizeLine_eq, List.length_append]; show acc.length + 1 < _; omega, True.intro, ?_⟩
    rw [List.append_assoc]
    exact hN2
  refine fz_new ?_
  have ee : bs.flatMap (fun b => [pR b.l, pR b.r]) = (edgs bs).map pR := by unfold edgs; rw [List.map_flatMap]; rfl
  rw [ee]
  refine ⟨edgs bs, rfl, fun q hq => (edgs_bz hb q hq).mono (by decide), by rw [edgs_len]; omega, ht, ?_⟩
  subst hN
  have hE : ∀ q ∈ srt (edgs bs), Bz 30 q := fun q hq => edgs_bz hb q ((srt_mem _ _).mp hq)
  have hEl : (srt (edgs bs)).length ≤ 2000 := by
    have := srt_len (edgs bs)
    rw [edgs_len] at this
    omega
  have eo : outl bs = joinS (segs bs (prs (srt (edgs bs)))) := rfl
  rw [eo] at k
  generalize srt (edgs bs) = E at *
  refine seq1 fun N hN => ?_; simp only [dIfS, dAndT, dOrT, dNotT, dTest, dTruth, dTru, dAndV, dOrV, dNotV, dIf, dOp, dUn, dVar, dC, dI, dIc, dAdd, dSub, dMul, dFd, dMod, dPow, dNeg, dLt, dLe, dGt, dGe, dIsN, dNotN, DL.isNon, ix_pR0, ix_pR1, ix_tup, ix_lst, ix_ref, dSl, dPart, dNoPart, dCB, len_tup, len_lst, len_ref, dAbs, dList, dTuple, dBls, dSum, dIsi, dIsi2, dtOf, isC, seqOf, lstOf, dCons, dNil, dTup, dLst, dRet, dRetN, dNext, dDrop, dAsg, gN, gsNil, gsCons, gT, gSubD, dSetL, dPar, dAug, dIpAdd, dIpSub, dCall, eq_int, eq_str, eq_bl, ne_int, ne_str, ne_bl, eq_pR, ne_pR, plus_eq, less_eq, times_eq, over_eq, floor_eq, ceil_eq, part_eq, below_eq, seq_pR, pick_nil, pick_p, pick_k, pick_d, dBreak, dCont, dLM, dLM0, isL, dAppend, dInsert, dPop, dPopAt, dRevL, dStr, dFmt, dJs, dMax2, dMin2, dSorted, dNewK, dctOf, dGetK, dHasK, DL.keyOf, dPutK, dDelK, dSortedD, dSet, dLstF, dRevF, dSlF, dListF, dSortedF, dSortedDF, dMaxF, dMinF, dInS, dLtA, dNewT, dGetT, dHasT, dctT, tkOf, keysOf, dTupP, dPutT, dPutP, putTk, pkOf, dSortedTF, dGet1, dGet2, dGet2T, dDisp1, dRep, dInt, dBits, dExtend, dReverse, dMaxDf, dCat, dCatF, dExtL, dDcT, Option.isSome_some, List.getElem?_cons_zero, List.getElem?_cons_succ, List.set_cons_zero, List.set_cons_succ, atI_0, atI_1, atI_2, atI_3, atI_4, atI_5, ixN_0, ixN_1, ixN_2, ixN_3, ixN_4, ixN_5, up_same, List.length_cons, List.length_nil, Bool.not_true, Bool.not_false, Bool.false_eq_true, if_true, if_false, reduceIte]
  intro p hp
  subst hN
  have hpl := prs_len E
  have hsl : ∀ ps : List (Rat × Rat), (segs bs ps).length ≤ ps.length := fun ps => List.length_filterMap_le _ _
  refine seq_by (fun g O' => O' = DL.up O p (.lst ((segs bs (prs E)).map sgD)) ∧ ∃ x3 x4 x5 x10, g = [some (.lst (bs.map bxR)), some (.lst (E.map pR)), some (.ref p), x3, x4, x5, none, none, none, none, x10]) (fun N hN => ?_) ?_
  · have ec : DL.cutD (E.map pR) (some 1) none = (E.drop 1).map pR := by rw [cut_from (by decide), List.map_drop]; rfl
    simp only [dIfS, dAndT, dOrT, dNotT, dTest, dTruth, dTru, dAndV, dOrV, dNotV, dIf, dOp, dUn, dVar, dC, dI, dIc, dAdd, dSub, dMul, dFd, dMod, dPow, dNeg, dLt, dLe, dGt, dGe, dIsN, dNotN, DL.isNon, ix_pR0, ix_pR1, ix_tup, ix_lst, ix_ref, dSl, dPart, dNoPart, dCB, len_tup, len_lst, len_ref, dAbs, dList, dTuple, dBls, dSum, dIsi, dIsi2, dtOf, isC, seqOf, lstOf, dCons, dNil, dTup, dLst, dRet, dRetN, dNext, dDrop, dAsg, gN, gsNil, gsCons, gT, gSubD, dSetL, dPar, dAug, dIpAdd, dIpSub, dCall, eq_int, eq_str, eq_bl, ne_int, ne_str, ne_bl, eq_pR, ne_pR, plus_eq, less_eq, times_eq, over_eq, floor_eq, ceil_eq, part_eq, below_eq, seq_pR, pick_nil, pick_p, pick_k, pick_d, dBreak, dCont, dLM, dLM0, isL, dAppend, dInsert, dPop, dPopAt, dRevL, dStr, dFmt, dJs, dMax2, dMin2, dSorted, dNewK, dctOf, dGetK, dHasK, DL.keyOf, dPutK, dDelK, dSortedD, dSet, dLstF, dRevF, dSlF, dListF, dSortedF, dSortedDF, dMaxF, dMinF, dInS, dLtA, dNewT, dGetT, dHasT, dctT, tkOf, keysOf, dTupP, dPutT, dPutP, putTk, pkOf, dSortedTF, dGet1, dGet2, dGet2T, dDisp1, dRep, dInt, dBits, dExtend, dReverse, dMaxDf, dCat, dCatF, dExtL, dDcT, Option.isSome_some, List.getElem?_cons_zero, List.getElem?_cons_succ, List.set_cons_zero, List.set_cons_succ, atI_0, atI_1, atI_2, atI_3, atI_4, atI_5, ixN_0, ixN_1, ixN_2, ixN_3, ixN_4, ixN_5, up_same, List.length_cons, List.length_nil, Bool.not_true, Bool.not_false, Bool.false_eq_true, if_true, if_false, reduceIte, dFor, dRng1, dRng2, dRng3, dSeqI, dEnum, dEnumA, dZip, dLc, dLcF, wipeD, ec]
    rw [zip_bw]
    refine loop_map (fun pre g O' => O' = DL.up O p (.lst ((segs bs pre).map sgD)) ∧ ∃ x3 x4 x5 x10, g = [some (.lst (bs.map bxR)), some (.lst (E.map pR)), some (.ref p), x3, x4, x5, none, none, none, none, x10]) ⟨rfl, _, _, _, _, rfl⟩ (fun _ _ _ _ => ⟨True.intro, True.intro⟩) ?_ ?_
    · rintro pre pp post _ _ M e ⟨rfl, x3, x4, x5, x10, rfl⟩ hM
      have hpm : pp ∈ prs E := by rw [e]; simp
      obtain ⟨h1, h2⟩ := prs_mem hpm
      have b1 := hE _ h1
      have b2 := hE _ h2
      have hpre : (segs bs pre).length ≤ 2000 := by
        have := hsl pre
        have : pre.length ≤ (prs E).length := by rw [e]; simp
        omega
      have eb : bwD pp = .tup [pR pp.1, pR pp.2] := rfl
      simp only [dIfS, dAndT, dOrT, dNotT, dTest, dTruth, dTru, dAndV, dOrV, dNotV, dIf, dOp, dUn, dVar, dC, dI, dIc, dAdd, dSub, dMul, dFd, dMod, dPow, dNeg, dLt, dLe, dGt, dGe, dIsN, dNotN, DL.isNon, ix_pR0, ix_pR1, ix_tup, ix_lst, ix_ref, dSl, dPart, dNoPart, dCB, len_tup, len_lst, len_ref, dAbs, dList, dTuple, dBls, dSum, dIsi, dIsi2, dtOf, isC, seqOf, lstOf, dCons, dNil, dTup, dLst, dRet, dRetN, dNext, dDrop, dAsg, gN, gsNil, gsCons, gT, gSubD, dSetL, dPar, dAug, dIpAdd, dIpSub, dCall, eq_int, eq_str, eq_bl, ne_int, ne_str, ne_bl, eq_pR, ne_pR, plus_eq, less_eq, times_eq, over_eq, floor_eq, ceil_eq, part_eq, below_eq, seq_pR, pick_nil, pick_p, pick_k, pick_d, dBreak, dCont, dLM, dLM0, isL, dAppend, dInsert, dPop, dPopAt, dRevL, dStr, dFmt, dJs, dMax2, dMin2, dSorted, dNewK, dctOf, dGetK, dHasK, DL.keyOf, dPutK, dDelK, dSortedD, dSet, dLstF, dRevF, dSlF, dListF, dSortedF, dSortedDF, dMaxF, dMinF, dInS, dLtA, dNewT, dGetT, dHasT, dctT, tkOf, keysOf, dTupP, dPutT, dPutP, putTk, pkOf, dSortedTF, dGet1, dGet2, dGet2T, dDisp1, dRep, dInt, dBits, dExtend, dReverse, dMaxDf, dCat, dCatF, dExtL, dDcT, Option.isSome_some, List.getElem?_cons_zero, List.getElem?_cons_succ, List.set_cons_zero, List.set_cons_succ, atI_0, atI_1, atI_2, atI_3, atI_4, atI_5, ixN_0, ixN_1, ixN_2, ixN_3, ixN_4, ixN_5, up_same, List.length_cons, List.length_nil, Bool.not_true, Bool.not_false, Bool.false_eq_true, if_true, if_false, reduceIte, eb]
      refine ⟨by simp, ?_⟩
      refine seq1 fun N hN => ?_; simp only [dIfS, dAndT, dOrT, dNotT, dTest, dTruth, dTru, dAndV, dOrV, dNotV, dIf, dOp, dUn, dVar, dC, dI, dIc, dAdd, dSub, dMul, dFd, dMod, dPow, dNeg, dLt, dLe, dGt, dGe, dIsN, dNotN, DL.isNon, ix_pR0, ix_pR1, ix_tup, ix_lst, ix_ref, dSl, dPart, dNoPart, dCB, len_tup, len_lst, len_ref, dAbs, dList, dTuple, dBls, dSum, dIsi, dIsi2, dtOf, isC, seqOf, lstOf, dCons, dNil, dTup, dLst, dRet, dRetN, dNext, dDrop, dAsg, gN, gsNil, gsCons, gT, gSubD, dSetL, dPar, dAug, dIpAdd, dIpSub, dCall, eq_int, eq_str, eq_bl, ne_int, ne_str, ne_bl, eq_pR, ne_pR, plus_eq, less_eq, times_eq, over_eq, floor_eq, ceil_eq, part_eq, below_eq, seq_pR, pick_nil, pick_p, pick_k, pick_d, dBreak, dCont, dLM, dLM0, isL, dAppend, dInsert, dPop, dPopAt, dRevL, dStr, dFmt, dJs, dMax2, dMin2, dSorted, dNewK, dctOf, dGetK, dHasK, DL.keyOf, dPutK, dDelK, dSortedD, dSet, dLstF, dRevF, dSlF, dListF, dSortedF, dSortedDF, dMaxF, dMinF, dInS, dLtA, dNewT, dGetT, dHasT, dctT, tkOf, keysOf, dTupP, dPutT, dPutP, putTk, pkOf, dSortedTF, dGet1, dGet2, dGet2T, dDisp1, dRep, dInt, dBits, dExtend, dReverse, dMaxDf, dCat, dCatF, dExtL, dDcT, Option.isSome_some, List.getElem?_cons_zero, List.getElem?_cons_succ, List.set_cons_zero, List.set_cons_succ, atI_0, atI_1, atI_2, atI_3, atI_4, atI_5, ixN_0, ixN_1, ixN_2, ixN_3, ixN_4, ixN_5, up_same, List.length_cons, List.length_nil, Bool.not_true, Bool.not_false, Bool.false_eq_true, if_true, if_false, reduceIte, dFor, dRng1, dRng2, dRng3, dSeqI, dEnum, dEnumA, dZip, dLc, dLcF, wipeD]
      refine comp_typed (f := bxR) (fun x => mt ⟨pp.1, pp.2, 0, 0⟩ x) (fun x => .int x.hi) True.intro (by omega) (fun x hx N2 acc hacc y1 y2 => ?_) ?_
      · simp only [dIfS, dAndT, dOrT, dNotT, dTest, dTruth, dTru, dAndV, dOrV, dNotV, dIf, dOp, dUn, dVar, dC, dI, dIc, dAdd, dSub, dMul, dFd, dMod, dPow, dNeg, dLt, dLe, dGt, dGe, dIsN, dNotN, DL.isNon, ix_pR0, ix_pR1, ix_tup, ix_lst, ix_ref, dSl, dPart, dNoPart, dCB, len_tup, len_lst, len_ref, dAbs, dList, dTuple, dBls, dSum, dIsi, dIsi2, dtOf, isC, seqOf, lstOf, dCons, dNil, dTup, dLst, dRet, dRetN, dNext, dDrop, dAsg, gN, gsNil, gsCons, gT, gSubD, dSetL, dPar, dAug, dIpAdd, dIpSub, dCall, eq_int, eq_str, eq_bl, ne_int, ne_str, ne_bl, eq_pR, ne_pR, plus_eq, less_eq, times_eq, over_eq, floor_eq, ceil_eq, part_eq, below_eq, seq_pR, pick_nil, pick_p, pick_k, pick_d, dBreak, dCont, dLM, dLM0, isL, dAppend, dInsert, dPop, dPopAt, dRevL, dStr, dFmt, dJs, dMax2, dMin2, dSorted, dNewK, dctOf, dGetK, dHasK, DL.keyOf, dPutK, dDelK, dSortedD, dSet, dLstF, dRevF, dSlF, dListF, dSortedF, dSortedDF, dMaxF, dMinF, dInS, dLtA, dNewT, dGetT, dHasT, dctT, tkOf, keysOf, dTupP, dPutT, dPutP, putTk, pkOf, dSortedTF, dGet1, dGet2, dGet2T, dDisp1, dRep, dInt, dBits, dExtend, dReverse, dMaxDf, dCat, dCatF, dExtL, dDcT, Option.isSome_some, List.getElem?_cons_zero, List.getElem?_cons_succ, List.set_cons_zero, List.set_cons_succ, atI_0, atI_1, atI_2, atI_3, atI_4, atI_5, ixN_0, ixN_1, ixN_2, ixN_3, ixN_4, ixN_5, up_same, List.length_cons, List.length_nil, Bool.not_true, Bool.not_false, Bool.false_eq_true, if_true, if_false, reduceIte]
        refine meetR pp x b1 b2 (by decide) (by decide) (hb x hx) ?_
        cases em : mt ⟨pp.1, pp.2, 0, 0⟩ x with
        | true =>
          simp only [dIfS, dAndT, dOrT, dNotT, dTest, dTruth, dTru, dAndV, dOrV, dNotV, dIf, dOp, dUn, dVar, dC, dI, dIc, dAdd, dSub, dMul, dFd, dMod, dPow, dNeg, dLt, dLe, dGt, dGe, dIsN, dNotN, DL.isNon, ix_pR0, ix_pR1, ix_tup, ix_lst, ix_ref, dSl, dPart, dNoPart, dCB, len_tup, len_lst, len_ref, dAbs, dList, dTuple, dBls, dSum, dIsi, dIsi2, dtOf, isC, seqOf, lstOf, dCons, dNil, dTup, dLst, dRet, dRetN, dNext, dDrop, dAsg, gN, gsNil, gsCons, gT, gSubD, dSetL, dPar, dAug, dIpAdd, dIpSub, dCall, eq_int, eq_str, eq_bl, ne_int, ne_str, ne_bl, eq_pR, ne_pR, plus_eq, less_eq, times_eq, over_eq, floor_eq, ceil_eq, part_eq, below_eq, seq_pR, pick_nil, pick_p, pick_k, pick_d, dBreak, dCont, dLM, dLM0, isL, dAppend, dInsert, dPop, dPopAt, dRevL, dStr, dFmt, dJs, dMax2, dMin2, dSorted, dNewK, dctOf, dGetK, dHasK, DL.keyOf, dPutK, dDelK, dSortedD, dSet, dLstF, dRevF, dSlF, dListF, dSortedF, dSortedDF, dMaxF, dMinF, dInS, dLtA, dNewT, dGetT, dHasT, dctT, tkOf, keysOf, dTupP, dPutT, dPutP, putTk, pkOf, dSortedTF, dGet1, dGet2, dGet2T, dDisp1, dRep, dInt, dBits, dExtend, dReverse, dMaxDf, dCat, dCatF, dExtL, dDcT, Option.isSome_some, List.getElem?_cons_zero, List.getElem?_cons_succ, List.set_cons_zero, List.set_cons_succ, atI_0, atI_1, atI_2, atI_3, atI_4, atI_5, ixN_0, ixN_1, ixN_2, ixN_3, ixN_4, ixN_5, up_same, List.length_cons, List.length_nil, Bool.not_true, Bool.not_false, Bool.false_eq_true, if_true, if_false, reduceIte, ix_bx3]
          exact ⟨hacc, y1 em⟩
        | false =>
          simp only [dIfS, dAndT, dOrT, dNotT, dTest, dTruth, dTru, dAndV, dOrV, dNotV, dIf, dOp, dUn, dVar, dC, dI, dIc, dAdd, dSub, dMul, dFd, dMod, dPow, dNeg, dLt, dLe, dGt, dGe, dIsN, dNotN, DL.isNon, ix_pR0, ix_pR1, ix_tup, ix_lst, ix_ref, dSl, dPart, dNoPart, dCB, len_tup, len_lst, len_ref, dAbs, dList, dTuple, dBls, dSum, dIsi, dIsi2, dtOf, isC, seqOf, lstOf, dCons, dNil, dTup, dLst, dRet, dRetN, dNext, dDrop, dAsg, gN, gsNil, gsCons, gT, gSubD, dSetL, dPar, dAug, dIpAdd, dIpSub, dCall, eq_int, eq_str, eq_bl, ne_int, ne_str, ne_bl, eq_pR, ne_pR, plus_eq, less_eq, times_eq, over_eq, floor_eq, ceil_eq, part_eq, below_eq, seq_pR, pick_nil, pick_p, pick_k, pick_d, dBreak, dCont, dLM, dLM0, isL, dAppend, dInsert, dPop, dPopAt, dRevL, dStr, dFmt, dJs, dMax2, dMin2, dSorted, dNewK, dctOf, dGetK, dHasK, DL.keyOf, dPutK, dDelK, dSortedD, dSet, dLstF, dRevF, dSlF, dListF, dSortedF, dSortedDF, dMaxF, dMinF, dInS, dLtA, dNewT, dGetT, dHasT, dctT, tkOf, keysOf, dTupP, dPutT, dPutP, putTk, pkOf, dSortedTF, dGet1, dGet2, dGet2T, dDisp1, dRep, dInt, dBits, dExtend, dReverse, dMaxDf, dCat, dCatF, dExtL, dDcT, Option.isSome_some, List.getElem?_cons_zero, List.getElem?_cons_succ, List.set_cons_zero, List.set_cons_succ, atI_0, atI_1, atI_2, atI_3, atI_4, atI_5, ixN_0, ixN_1, ixN_2, ixN_3, ixN_4, ixN_5, up_same, List.length_cons, List.length_nil, Bool.not_true, Bool.not_false, Bool.false_eq_true, if_true, if_false, reduceIte]
          exact y2 em
      · have et : (bs.filter fun x => mt ⟨pp.1, pp.2, 0, 0⟩ x).map (fun x => D.int x.hi) = (tops bs pp).map D.int := by unfold tops; rw [List.map_map]; rfl
        rw [et]
        subst hN
        have esn : segs bs (pre ++ [pp]) = segs bs pre ++ (seg1 bs pp).toList := by unfold segs; rw [List.filterMap_append, List.filterMap_cons]; cases seg1 bs pp <;> rfl
        rw [esn] at hM
        simp only [dIfS, dAndT, dOrT, dNotT, dTest, dTruth, dTru, dAndV, dOrV, dNotV, dIf, dOp, dUn, dVar, dC, dI, dIc, dAdd, dSub, dMul, dFd, dMod, dPow, dNeg, dLt, dLe, dGt, dGe, dIsN, dNotN, DL.isNon, ix_pR0, ix_pR1, ix_tup, ix_lst, ix_ref, dSl, dPart, dNoPart, dCB, len_tup, len_lst, len_ref, dAbs, dList, dTuple, dBls, dSum, dIsi, dIsi2, dtOf, isC, seqOf, lstOf, dCons, dNil, dTup, dLst, dRet, dRetN, dNext, dDrop, dAsg, gN, gsNil, gsCons, gT, gSubD, dSetL, dPar, dAug, dIpAdd, dIpSub, dCall, eq_int, eq_str, eq_bl, ne_int, ne_str, ne_bl, eq_pR, ne_pR, plus_eq, less_eq, times_eq, over_eq, floor_eq, ceil_eq, part_eq, below_eq, seq_pR, pick_nil, pick_p, pick_k, pick_d, dBreak, dCont, dLM, dLM0, isL, dAppend, dInsert, dPop, dPopAt, dRevL, dStr, dFmt, dJs, dMax2, dMin2, dSorted, dNewK, dctOf, dGetK, dHasK, DL.keyOf, dPutK, dDelK, dSortedD, dSet, dLstF, dRevF, dSlF, dListF, dSortedF, dSortedDF, dMaxF, dMinF, dInS, dLtA, dNewT, dGetT, dHasT, dctT, tkOf, keysOf, dTupP, dPutT, dPutP, putTk, pkOf, dSortedTF, dGet1, dGet2, dGet2T, dDisp1, dRep, dInt, dBits, dExtend, dReverse, dMaxDf, dCat, dCatF, dExtL, dDcT, Option.isSome_some, List.getElem?_cons_zero, List.getElem?_cons_succ, List.set_cons_zero, List.set_cons_succ, atI_0, atI_1, atI_2, atI_3, atI_4, atI_5, ixN_0, ixN_1, ixN_2, ixN_3, ixN_4, ixN_5, up_same, List.length_cons, List.length_nil, Bool.not_true, Bool.not_false, Bool.false_eq_true, if_true, if_false, reduceIte, List.length_map]
        by_cases h0 : tops bs pp = []
        · have e1 : seg1 bs pp = none := by unfold seg1; rw [if_pos h0]
          rw [e1] at hM
          simp only [h0, List.length_nil, gt_iff_lt]
          rw [if_neg (by decide)]
          exact hM _ _ ⟨by simp, _, _, _, _, rfl⟩
        · have e1 : seg1 bs pp = some (pp.1, pp.2, mxI (tops bs pp)) := by unfold seg1; rw [if_neg h0]
          rw [e1] at hM
          have hpos : ((tops bs pp).length : Int) > 0 := by
            have : (tops bs pp).length ≠ 0 := fun z => h0 (List.length_eq_zero_iff.mp z)
            omega
          simp only [hpos, decide_true, if_true]
          simp only [dIfS, dAndT, dOrT, dNotT, dTest, dTruth, dTru, dAndV, dOrV, dNotV, dIf, dOp, dUn, dVar, dC, dI, dIc, dAdd, dSub, dMul, dFd, dMod, dPow, dNeg, dLt, dLe, dGt, dGe, dIsN, dNotN, DL.isNon, ix_pR0, ix_pR1, ix_tup, ix_lst, ix_ref, dSl, dPart, dNoPart, dCB, len_tup, len_lst, len_ref, dAbs, dList, dTuple, dBls, dSum, dIsi, dIsi2, dtOf, isC, seqOf, lstOf, dCons, dNil, dTup, dLst, dRet, dRetN, dNext, dDrop, dAsg, gN, gsNil, gsCons, gT, gSubD, dSetL, dPar, dAug, dIpAdd, dIpSub, dCall, eq_int, eq_str, eq_bl, ne_int, ne_str, ne_bl, eq_pR, ne_pR, plus_eq, less_eq, times_eq, over_eq, floor_eq, ceil_eq, part_eq, below_eq, seq_pR, pick_nil, pick_p, pick_k, pick_d, dBreak, dCont, dLM, dLM0, isL, dAppend, dInsert, dPop, dPopAt, dRevL, dStr, dFmt, dJs, dMax2, dMin2, dSorted, dNewK, dctOf, dGetK, dHasK, DL.keyOf, dPutK, dDelK, dSortedD, dSet, dLstF, dRevF, dSlF, dListF, dSortedF, dSortedDF, dMaxF, dMinF, dInS, dLtA, dNewT, dGetT, dHasT, dctT, tkOf, keysOf, dTupP, dPutT, dPutP, putTk, pkOf, dSortedTF, dGet1, dGet2, dGet2T, dDisp1, dRep, dInt, dBits, dExtend, dReverse, dMaxDf, dCat, dCatF, dExtL, dDcT, Option.isSome_some, List.getElem?_cons_zero, List.getElem?_cons_succ, List.set_cons_zero, List.set_cons_succ, atI_0, atI_1, atI_2, atI_3, atI_4, atI_5, ixN_0, ixN_1, ixN_2, ixN_3, ixN_4, ixN_5, up_same, List.length_cons, List.length_nil, Bool.not_true, Bool.not_false, Bool.false_eq_true, if_true, if_false, reduceIte, intsOf_map]
          refine ⟨True.intro, h0, by rw [sizeLine_eq]; omega, ?_⟩
          rw [up_up]
          exact hM _ _ ⟨by rw [List.map_append]; rfl, _, _, _, _, rfl⟩
    · rintro _ _ ⟨rfl, x3, x4, x5, x10, rfl⟩
      exact hN _ _ ⟨rfl, _, _, _, _, rfl⟩
  rintro _ _ ⟨rfl, x3, x4, x5, x10, rfl⟩
  have hsegs := hsl (prs E)
  generalize segs bs (prs E) = S at *
  refine seq1 fun N hN => ?_; simp only [dIfS, dAndT, dOrT, dNotT, dTest, dTruth, dTru, dAndV, dOrV, dNotV, dIf, dOp, dUn, dVar, dC, dI, dIc, dAdd, dSub, dMul, dFd, dMod, dPow, dNeg, dLt, dLe, dGt, dGe, dIsN, dNotN, DL.isNon, ix_pR0, ix_pR1, ix_tup, ix_lst, ix_ref, dSl, dPart, dNoPart, dCB, len_tup, len_lst, len_ref, dAbs, dList, dTuple, dBls, dSum, dIsi, dIsi2, dtOf, isC, seqOf, lstOf, dCons, dNil, dTup, dLst, dRet, dRetN, dNext, dDrop, dAsg, gN, gsNil, gsCons, gT, gSubD, dSetL, dPar, dAug, dIpAdd, dIpSub, dCall, eq_int, eq_str, eq_bl, ne_int, ne_str, ne_bl, eq_pR, ne_pR, plus_eq, less_eq, times_eq, over_eq, floor_eq, ceil_eq, part_eq, below_eq, seq_pR, pick_nil, pick_p, pick_k, pick_d, dBreak, dCont, dLM, dLM0, isL, dAppend, dInsert, dPop, dPopAt, dRevL, dStr, dFmt, dJs, dMax2, dMin2, dSorted, dNewK, dctOf, dGetK, dHasK, DL.keyOf, dPutK, dDelK, dSortedD, dSet, dLstF, dRevF, dSlF, dListF, dSortedF, dSortedDF, dMaxF, dMinF, dInS, dLtA, dNewT, dGetT, dHasT, dctT, tkOf, keysOf, dTupP, dPutT, dPutP, putTk, pkOf, dSortedTF, dGet1, dGet2, dGet2T, dDisp1, dRep, dInt, dBits, dExtend, dReverse, dMaxDf, dCat, dCatF, dExtL, dDcT, Option.isSome_some, List.getElem?_cons_zero, List.getElem?_cons_succ, List.set_cons_zero, List.set_cons_succ, atI_0, atI_1, atI_2, atI_3, atI_4, atI_5, ixN_0, ixN_1, ixN_2, ixN_3, ixN_4, ixN_5, up_same, List.length_cons, List.length_nil, Bool.not_true, Bool.not_false, Bool.false_eq_true, if_true, if_false, reduceIte]
  intro q hq
  subst hN
  have hqp : q ≠ p := fun z => by subst z; rw [up_same] at hq; cases hq
  have hq0 : O q = none := by rw [up_ne hqp] at hq; exact hq
  refine seq_by (fun g O' => O' = DL.up (DL.up O p (.lst (S.map sgD))) q (.lst ((joinS S).map sgD)) ∧ ∃ x3 x4 x7, g = [some (.lst (bs.map bxR)), some (.lst (E.map pR)), some (.ref p), x3, x4, x5, some (.ref q), x7, none, none, x10]) (fun N hN => ?_) ?_
  · have hp2 : (DL.up (DL.up O p (.lst (S.map sgD))) q (.lst [])) p = some (.lst (S.map sgD)) := by rw [up_ne hqp.symm, up_same]
    unfold dFor
    refine seqI_at (i := 2) rfl (seq_ref hp2) fun ok hok => ?_
    refine loop_map (fun pre g O' => O' = DL.up (DL.up O p (.lst (S.map sgD))) q (.lst ((joinS pre).map sgD)) ∧ ∃ x3 x4 x7, g = [some (.lst (bs.map bxR)), some (.lst (E.map pR)), some (.ref p), x3, x4, x5, some (.ref q), x7, none, none, x10]) ⟨rfl, _, _, _, rfl⟩ (fun _ _ _ h => hok _ (by rw [h.1, seq_ref (xs := S.map sgD) (by rw [up_ne hqp.symm, up_same])])) ?_ ?_
    · rintro pre s post _ _ M e ⟨rfl, y3, y4, y7, rfl⟩ hM
      have es : sgD s = .tup [pR s.1, pR s.2.1, .int s.2.2] := rfl
      have hj := joinS_len pre
      have hjl : (joinS pre).length ≤ 2000 := by
        have : pre.length ≤ S.length := by rw [e]; simp
        omega
      rw [joinS_snoc] at hM
      generalize joinS pre = J at *
      simp only [dIfS, dAndT, dOrT, dNotT, dTest, dTruth, dTru, dAndV, dOrV, dNotV, dIf, dOp, dUn, dVar, dC, dI, dIc, dAdd, dSub, dMul, dFd, dMod, dPow, dNeg, dLt, dLe, dGt, dGe, dIsN, dNotN, DL.isNon, ix_pR0, ix_pR1, ix_tup, ix_lst, ix_ref, dSl, dPart, dNoPart, dCB, len_tup, len_lst, len_ref, dAbs, dList, dTuple, dBls, dSum, dIsi, dIsi2, dtOf, isC, seqOf, lstOf, dCons, dNil, dTup, dLst, dRet, dRetN, dNext, dDrop, dAsg, gN, gsNil, gsCons, gT, gSubD, dSetL, dPar, dAug, dIpAdd, dIpSub, dCall, eq_int, eq_str, eq_bl, ne_int, ne_str, ne_bl, eq_pR, ne_pR, plus_eq, less_eq, times_eq, over_eq, floor_eq, ceil_eq, part_eq, below_eq, seq_pR, pick_nil, pick_p, pick_k, pick_d, dBreak, dCont, dLM, dLM0, isL, dAppend, dInsert, dPop, dPopAt, dRevL, dStr, dFmt, dJs, dMax2, dMin2, dSorted, dNewK, dctOf, dGetK, dHasK, DL.keyOf, dPutK, dDelK, dSortedD, dSet, dLstF, dRevF, dSlF, dListF, dSortedF, dSortedDF, dMaxF, dMinF, dInS, dLtA, dNewT, dGetT, dHasT, dctT, tkOf, keysOf, dTupP, dPutT, dPutP, putTk, pkOf, dSortedTF, dGet1, dGet2, dGet2T, dDisp1, dRep, dInt, dBits, dExtend, dReverse, dMaxDf, dCat, dCatF, dExtL, dDcT, Option.isSome_some, List.getElem?_cons_zero, List.getElem?_cons_succ, List.set_cons_zero, List.set_cons_succ, atI_0, atI_1, atI_2, atI_3, atI_4, atI_5, ixN_0, ixN_1, ixN_2, ixN_3, ixN_4, ixN_5, up_same, List.length_cons, List.length_nil, Bool.not_true, Bool.not_false, Bool.false_eq_true, if_true, if_false, reduceIte, es, List.length_map]
      refine ⟨by simp, ?_⟩
      rcases nil_or_snoc J with rfl | ⟨J', z, rfl⟩
      · simp only [List.length_nil]
        rw [if_neg (by decide)]
        simp only [dIfS, dAndT, dOrT, dNotT, dTest, dTruth, dTru, dAndV, dOrV, dNotV, dIf, dOp, dUn, dVar, dC, dI, dIc, dAdd, dSub, dMul, dFd, dMod, dPow, dNeg, dLt, dLe, dGt, dGe, dIsN, dNotN, DL.isNon, ix_pR0, ix_pR1, ix_tup, ix_lst, ix_ref, dSl, dPart, dNoPart, dCB, len_tup, len_lst, len_ref, dAbs, dList, dTuple, dBls, dSum, dIsi, dIsi2, dtOf, isC, seqOf, lstOf, dCons, dNil, dTup, dLst, dRet, dRetN, dNext, dDrop, dAsg, gN, gsNil, gsCons, gT, gSubD, dSetL, dPar, dAug, dIpAdd, dIpSub, dCall, eq_int, eq_str, eq_bl, ne_int, ne_str, ne_bl, eq_pR, ne_pR, plus_eq, less_eq, times_eq, over_eq, floor_eq, ceil_eq, part_eq, below_eq, seq_pR, pick_nil, pick_p, pick_k, pick_d, dBreak, dCont, dLM, dLM0, isL, dAppend, dInsert, dPop, dPopAt, dRevL, dStr, dFmt, dJs, dMax2, dMin2, dSorted, dNewK, dctOf, dGetK, dHasK, DL.keyOf, dPutK, dDelK, dSortedD, dSet, dLstF, dRevF, dSlF, dListF, dSortedF, dSortedDF, dMaxF, dMinF, dInS, dLtA, dNewT, dGetT, dHasT, dctT, tkOf, keysOf, dTupP, dPutT, dPutP, putTk, pkOf, dSortedTF, dGet1, dGet2, dGet2T, dDisp1, dRep, dInt, dBits, dExtend, dReverse, dMaxDf, dCat, dCatF, dExtL, dDcT, Option.isSome_some, List.getElem?_cons_zero, List.getElem?_cons_succ, List.set_cons_zero, List.set_cons_succ, atI_0, atI_1, atI_2, atI_3, atI_4, atI_5, ixN_0, ixN_1, ixN_2, ixN_3, ixN_4, ixN_5, up_same, List.length_cons, List.length_nil, Bool.not_true, Bool.not_false, Bool.false_eq_true, if_true, if_false, reduceIte, List.map_nil]
        refine ⟨True.intro, by rw [sizeLine_eq]; decide, ?_⟩
        rw [up_up]
        exact hM _ _ ⟨rfl, _, _, _, rfl⟩
      · have hpos : (((J' ++ [z]).length : Nat) : Int) > 0 := by rw [List.length_append]; show ((J'.length + 1 : Nat) : Int) > 0; omega
        rw [if_pos (by simpa using hpos)]
        have hlast : atI ((J' ++ [z]).map sgD) (-1) = some (sgD z) := by rw [List.map_append]; exact atI_end
        have ez : sgD z = .tup [pR z.1, pR z.2.1, .int z.2.2] := rfl
        have hst : stepJ (J' ++ [z]) s = if z.2.1 = s.1 ∧ z.2.2 = s.2.2 then (J' ++ [z]).set ((J' ++ [z]).length - 1) (z.1, s.2.1, s.2.2) else (J' ++ [z]) ++ [s] := by unfold stepJ; rw [last_at]
        rw [hst] at hM
        have hsl2 : ((J' ++ [z]).map sgD).length ≤ 2000 := by rw [List.length_map]; exact hjl
        simp only [dIfS, dAndT, dOrT, dNotT, dTest, dTruth, dTru, dAndV, dOrV, dNotV, dIf, dOp, dUn, dVar, dC, dI, dIc, dAdd, dSub, dMul, dFd, dMod, dPow, dNeg, dLt, dLe, dGt, dGe, dIsN, dNotN, DL.isNon, ix_pR0, ix_pR1, ix_tup, ix_lst, ix_ref, dSl, dPart, dNoPart, dCB, len_tup, len_lst, len_ref, dAbs, dList, dTuple, dBls, dSum, dIsi, dIsi2, dtOf, isC, seqOf, lstOf, dCons, dNil, dTup, dLst, dRet, dRetN, dNext, dDrop, dAsg, gN, gsNil, gsCons, gT, gSubD, dSetL, dPar, dAug, dIpAdd, dIpSub, dCall, eq_int, eq_str, eq_bl, ne_int, ne_str, ne_bl, eq_pR, ne_pR, plus_eq, less_eq, times_eq, over_eq, floor_eq, ceil_eq, part_eq, below_eq, seq_pR, pick_nil, pick_p, pick_k, pick_d, dBreak, dCont, dLM, dLM0, isL, dAppend, dInsert, dPop, dPopAt, dRevL, dStr, dFmt, dJs, dMax2, dMin2, dSorted, dNewK, dctOf, dGetK, dHasK, DL.keyOf, dPutK, dDelK, dSortedD, dSet, dLstF, dRevF, dSlF, dListF, dSortedF, dSortedDF, dMaxF, dMinF, dInS, dLtA, dNewT, dGetT, dHasT, dctT, tkOf, keysOf, dTupP, dPutT, dPutP, putTk, pkOf, dSortedTF, dGet1, dGet2, dGet2T, dDisp1, dRep, dInt, dBits, dExtend, dReverse, dMaxDf, dCat, dCatF, dExtL, dDcT, Option.isSome_some, List.getElem?_cons_zero, List.getElem?_cons_succ, List.set_cons_zero, List.set_cons_succ, atI_0, atI_1, atI_2, atI_3, atI_4, atI_5, ixN_0, ixN_1, ixN_2, ixN_3, ixN_4, ixN_5, up_same, List.length_cons, List.length_nil, Bool.not_true, Bool.not_false, Bool.false_eq_true, if_true, if_false, reduceIte, hlast, ez]
        by_cases c1 : z.2.1 = s.1
        · by_cases c2 : z.2.2 = s.2.2
          · rw [if_pos ⟨c1, c2⟩] at hM
            have hix : ixN ((J' ++ [z]).map sgD).length (-1) = some ((J' ++ [z]).length - 1) := by rw [List.length_map]; exact ixN_end (by rw [List.length_append]; show 0 < J'.length + 1; omega)
            simp only [c1, c2, decide_true, if_true]
            simp only [dIfS, dAndT, dOrT, dNotT, dTest, dTruth, dTru, dAndV, dOrV, dNotV, dIf, dOp, dUn, dVar, dC, dI, dIc, dAdd, dSub, dMul, dFd, dMod, dPow, dNeg, dLt, dLe, dGt, dGe, dIsN, dNotN, DL.isNon, ix_pR0, ix_pR1, ix_tup, ix_lst, ix_ref, dSl, dPart, dNoPart, dCB, len_tup, len_lst, len_ref, dAbs, dList, dTuple, dBls, dSum, dIsi, dIsi2, dtOf, isC, seqOf, lstOf, dCons, dNil, dTup, dLst, dRet, dRetN, dNext, dDrop, dAsg, gN, gsNil, gsCons, gT, gSubD, dSetL, dPar, dAug, dIpAdd, dIpSub, dCall, eq_int, eq_str, eq_bl, ne_int, ne_str, ne_bl, eq_pR, ne_pR, plus_eq, less_eq, times_eq, over_eq, floor_eq, ceil_eq, part_eq, below_eq, seq_pR, pick_nil, pick_p, pick_k, pick_d, dBreak, dCont, dLM, dLM0, isL, dAppend, dInsert, dPop, dPopAt, dRevL, dStr, dFmt, dJs, dMax2, dMin2, dSorted, dNewK, dctOf, dGetK, dHasK, DL.keyOf, dPutK, dDelK, dSortedD, dSet, dLstF, dRevF, dSlF, dListF, dSortedF, dSortedDF, dMaxF, dMinF, dInS, dLtA, dNewT, dGetT, dHasT, dctT, tkOf, keysOf, dTupP, dPutT, dPutP, putTk, pkOf, dSortedTF, dGet1, dGet2, dGet2T, dDisp1, dRep, dInt, dBits, dExtend, dReverse, dMaxDf, dCat, dCatF, dExtL, dDcT, Option.isSome_some, List.getElem?_cons_zero, List.getElem?_cons_succ, List.set_cons_zero, List.set_cons_succ, atI_0, atI_1, atI_2, atI_3, atI_4, atI_5, ixN_0, ixN_1, ixN_2, ixN_3, ixN_4, ixN_5, up_same, List.length_cons, List.length_nil, Bool.not_true, Bool.not_false, Bool.false_eq_true, if_true, if_false, reduceIte, hix, hlast, ez]
            rw [up_up]
            exact hM _ _ ⟨by rw [List.map_set]; rfl, _, _, _, rfl⟩
          · rw [if_neg (fun h => c2 h.2)] at hM
            simp only [c1, c2, decide_true, decide_false, if_true, Bool.false_eq_true, if_false]
            refine ⟨True.intro, by rw [sizeLine_eq]; omega, ?_⟩
            rw [up_up]
            exact hM _ _ ⟨by rw [List.map_append (l₁ := J' ++ [z])]; rfl, _, _, _, rfl⟩
        · rw [if_neg (fun h => c1 h.1)] at hM
          simp only [c1, decide_false, Bool.false_eq_true, if_false]
          refine ⟨True.intro, by rw [sizeLine_eq]; omega, ?_⟩
          rw [up_up]
          exact hM _ _ ⟨by rw [List.map_append (l₁ := J' ++ [z])]; rfl, _, _, _, rfl⟩
    · rintro _ _ ⟨rfl, y3, y4, y7, rfl⟩
      exact hN _ _ ⟨rfl, _, _, _, rfl⟩
  rintro _ _ ⟨rfl, y3, y4, y7, rfl⟩
  simp only [dIfS, dAndT, dOrT, dNotT, dTest, dTruth, dTru, dAndV, dOrV, dNotV, dIf, dOp, dUn, dVar, dC, dI, dIc, dAdd, dSub, dMul, dFd, dMod, dPow, dNeg, dLt, dLe, dGt, dGe, dIsN, dNotN, DL.isNon, ix_pR0, ix_pR1, ix_tup, ix_lst, ix_ref, dSl, dPart, dNoPart, dCB, len_tup, len_lst, len_ref, dAbs, dList, dTuple, dBls, dSum, dIsi, dIsi2, dtOf, isC, seqOf, lstOf, dCons, dNil, dTup, dLst, dRet, dRetN, dNext, dDrop, dAsg, gN, gsNil, gsCons, gT, gSubD, dSetL, dPar, dAug, dIpAdd, dIpSub, dCall, eq_int, eq_str, eq_bl, ne_int, ne_str, ne_bl, eq_pR, ne_pR, plus_eq, less_eq, times_eq, over_eq, floor_eq, ceil_eq, part_eq, below_eq, seq_pR, pick_nil, pick_p, pick_k, pick_d, dBreak, dCont, dLM, dLM0, isL, dAppend, dInsert, dPop, dPopAt, dRevL, dStr, dFmt, dJs, dMax2, dMin2, dSorted, dNewK, dctOf, dGetK, dHasK, DL.keyOf, dPutK, dDelK, dSortedD, dSet, dLstF, dRevF, dSlF, dListF, dSortedF, dSortedDF, dMaxF, dMinF, dInS, dLtA, dNewT, dGetT, dHasT, dctT, tkOf, keysOf, dTupP, dPutT, dPutP, putTk, pkOf, dSortedTF, dGet1, dGet2, dGet2T, dDisp1, dRep, dInt, dBits, dExtend, dReverse, dMaxDf, dCat, dCatF, dExtL, dDcT, Option.isSome_some, List.getElem?_cons_zero, List.getElem?_cons_succ, List.set_cons_zero, List.set_cons_succ, atI_0, atI_1, atI_2, atI_3, atI_4, atI_5, ixN_0, ixN_1, ixN_2, ixN_3, ixN_4, ixN_5, up_same, List.length_cons, List.length_nil, Bool.not_true, Bool.not_false, Bool.false_eq_true, if_true, if_false, reduceIte]
  refine ⟨DL.up O q (.lst ((joinS S).map sgD)), fun a o ea => ?_, k q hq0⟩
  by_cases ha : a = q
  · subst ha; rw [up_same] at ea ⊢; exact ea
  · rw [up_ne ha] at ea ⊢
    exact Sb.new hp a o ea
/-! ### the law's own edges -/
def insE (E : List Rat) (p : Rat) : List Rat := if (E.drop (E.filter fun q => decide (q < p)).length).take 1 = [p] then E else E.take (E.filter fun q => decide (q < p)).length ++ [p] ++ E.drop (E.filter fun q => decide (q < p)).length
theorem insE_nil (p : Rat) : insE [] p = [p] := by unfold insE; simp
theorem insE_lt {e p : Rat} {E : List Rat} (h : e < p) : insE (e :: E) p = e :: insE E p := by
  unfold insE
  rw [List.filter_cons_of_pos (by simpa using h), List.length_cons, List.drop_succ_cons, List.take_succ_cons]
  split <;> rfl
theorem insE_ge {e p : Rat} {E : List Rat} (hs : (e :: E).Pairwise (· < ·)) (h : ¬ e < p) : insE (e :: E) p = if e = p then e :: E else p :: e :: E := by
  rw [List.pairwise_cons] at hs
  have hf : (e :: E).filter (fun q => decide (q < p)) = [] := by
    rw [List.filter_eq_nil_iff]
    intro q hq
    rcases List.mem_cons.mp hq with rfl | hq
    · simpa using h
    · have := hs.1 q hq
      simp only [decide_eq_true_eq]
      grind
  unfold insE
  rw [hf]
  by_cases h2 : e = p
  · simp [h2]
  · rw [if_neg (by simpa using h2), if_neg h2]
    rfl
theorem insE_ok : ∀ {E : List Rat} (p : Rat), E.Pairwise (· < ·) → (insE E p).Pairwise (· < ·) ∧ ∀ z, z ∈ insE E p ↔ z = p ∨ z ∈ E
  | [], p, _ => by rw [insE_nil]; exact ⟨by simp, fun z => by simp⟩
  | e :: E, p, hs => by
    by_cases h : e < p
    · rw [insE_lt h]
      have h2 := hs
      rw [List.pairwise_cons] at h2
      obtain ⟨i1, i2⟩ := insE_ok p h2.2
      refine ⟨?_, fun z => ?_⟩
      · rw [List.pairwise_cons]
        refine ⟨fun z hz => ?_, i1⟩
        rcases (i2 z).mp hz with rfl | hz
        · exact h
        · exact h2.1 z hz
      · rw [List.mem_cons, i2 z, List.mem_cons]
        constructor
        · rintro (h | h | h)
          · exact .inr (.inl h)
          · exact .inl h
          · exact .inr (.inr h)
        · rintro (h | h | h)
          · exact .inr (.inl h)
          · exact .inl h
          · exact .inr (.inr h)
    · rw [insE_ge hs h]
      split
      · rename_i e1
        subst e1
        exact ⟨hs, fun z => by simp⟩
      · rename_i ne
        refine ⟨?_, fun z => by simp [List.mem_cons]⟩
        rw [List.pairwise_cons]
        have h2 := hs
        rw [List.pairwise_cons] at h2
        refine ⟨fun z hz => ?_, hs⟩
        rcases List.mem_cons.mp hz with rfl | hz
        · grind
        · have := h2.1 z hz
          grind
def insAll (ps : List Rat) : List Rat := ps.foldl insE []
theorem insAll_snoc (ps : List Rat) (p : Rat) : insAll (ps ++ [p]) = insE (insAll ps) p := by unfold insAll; rw [List.foldl_append]; rfl
theorem insAll_ok (ps : List Rat) : (insAll ps).Pairwise (· < ·) ∧ ∀ z, z ∈ insAll ps ↔ z ∈ ps := snoc_ind (P := fun ps => (insAll ps).Pairwise (· < ·) ∧ ∀ z, z ∈ insAll ps ↔ z ∈ ps) ⟨List.Pairwise.nil, fun z => Iff.rfl⟩ (fun ps p ih => by
  rw [insAll_snoc]
  obtain ⟨h1, h2⟩ := insE_ok p ih.1
  refine ⟨h1, fun z => ?_⟩
  rw [h2 z, ih.2 z, List.mem_append, List.mem_singleton]
  exact ⟨fun h => h.symm, fun h => h.symm⟩) ps
theorem insAll_srt (ps : List Rat) : insAll ps = srt ps := sorted_uniq (insAll_ok ps).1 (srt_lt ps) fun z => by rw [(insAll_ok ps).2 z, srt_mem]
theorem insE_len (E : List Rat) (p : Rat) : (insE E p).length ≤ E.length + 1 := by
  unfold insE
  split
  · omega
  · rw [List.length_append, List.length_append, List.length_take, List.length_drop]
    show _ + 1 + _ ≤ _
    have := List.length_filter_le (fun q => decide (q < p)) E
    omega
theorem insAll_len (ps : List Rat) : (insAll ps).length ≤ ps.length := snoc_ind (P := fun ps => (insAll ps).length ≤ ps.length) (Nat.le_refl _) (fun ps p ih => by
  rw [insAll_snoc, List.length_append]
  have := insE_len (insAll ps) p
  show _ ≤ ps.length + 1
  omega) ps
/-- things that begin with two parts -/
abbrev Bw := Rat × Rat × List D
def bgD (z : Bw) : D := .tup (pR z.1 :: pR z.2.1 :: z.2.2)
def edgB (zs : List Bw) : List Rat := zs.flatMap fun z => [z.1, z.2.1]
theorem edgB_snoc (zs : List Bw) (z : Bw) : edgB (zs ++ [z]) = edgB zs ++ [z.1] ++ [z.2.1] := by unfold edgB; rw [List.flatMap_append]; simp
theorem edgB_len (zs : List Bw) : (edgB zs).length = 2 * zs.length := by
  unfold edgB
  induction zs with
  | nil => rfl
  | cons b bs ih => rw [List.flatMap_cons, List.length_append, ih, List.length_cons, List.length_cons, List.length_cons, List.length_nil]; omega
theorem less_of {x y : Rat} {O : Om} {R : D → Om → Prop} {Z : XD} (hx : SmP (ptR x)) (hy : SmP (ptR y)) (h : R (.bl (decide (x < y))) O) : sp_law_less [pR x, pR y] O R Z :=
  ⟨ptR x, ptR y, rfl, hx, hy, by rw [lt_rat]; exact h⟩
def t_law_edges : DS :=
  (dSeq (dSet 1 (dLst dNil))
  (dSeq (dFor (dSeqI (dVar 0)) (gN 2) (dFor (dSeqI (dSlF (dVar 2) dNoPart (dPart (dC (.int 2))))) (gN 3) (dSeq (dSet 4 (dCB dLen (dCons (dLcF (dSeqI (dVar 1)) (gN 5) (dTest (dCall sp_law_less [.p 0, .p 1] [] (dCons (dVar 5) (dCons (dVar 3) dNil)) dNil)) (dVar 5) [5]) dNil)))
  (dIfS (dTest (dOp dNe (dSlF (dVar 1) (dPart (dVar 4)) (dPart (dOp dAdd (dVar 4) (dC (.int 1))))) (dLstF (dCons (dVar 3) dNil)))) (dDrop (dLM dInsert (dVar 1) (dCons (dVar 4) (dCons (dVar 3) dNil)))) dNext))))
  (dRet (dFz (dVar 1)))))
def n_law_edges : List Str := ["_law_piles", "_law_found", "_law_some", "_law_p", "_law_at", "_law_q"]
def sp_law_edges : DSp := fun xs O R _ => ∃ (zs : List Bw) (m : Nat), xs = [.lst (zs.map bgD)] ∧ (∀ q ∈ edgB zs, Bz m q) ∧ 0 < m ∧ m ≤ 1000 ∧ zs.length ≤ 1000 ∧ R (.lst ((srt (edgB zs)).map pR)) O
def pP (x : Rat) : PyData := .tuple [.int x.num, .int x.den]
theorem pP_eqv (x y : Rat) : PyData.eqv (.list [pP x]) (.list [pP y]) = decide (x = y) := by
  have e : PyData.eqv (.list [pP x]) (.list [pP y]) = ((pP x).eqv (pP y) && true) := rfl
  rw [e, Bool.and_true]
  exact eqv_pR
theorem ne_one {O : Om} {R : D → Om → Prop} (zs : List Rat) (hz : zs.length ≤ 1) (p : Rat) (r : R (.bl (!decide (zs = [p]))) O) : dNe (.lst (zs.map pR)) (.lst [pR p]) O R := by
  match zs, hz with
  | [], _ =>
    refine Seen.eqv (d := .list []) (e := .list [pP p]) (n := 2) (m := 2) (SeenAll.lst (n := 1) .nil) (SeenAll.lst (.cons Seen.pR .nil)) (by decide) (by decide) ?_
    have e : PyData.eqv (.list []) (.list [pP p]) = false := rfl
    rw [e]
    simpa using r
  | [z], _ =>
    refine Seen.eqv (d := .list [pP z]) (e := .list [pP p]) (n := 2) (m := 2) (SeenAll.lst (.cons Seen.pR .nil)) (SeenAll.lst (.cons Seen.pR .nil)) (by decide) (by decide) ?_
    rw [pP_eqv]
    have e : decide ([z] = [p]) = decide (z = p) := by simp
    rw [e] at r
    cases h : decide (z = p) <;> rw [h] at r <;> exact r
theorem cut_one {xs : List D} {a : Nat} (h : a ≤ xs.length) : DL.cutD xs (some (a : Int)) (some ((a : Int) + 1)) = (xs.drop a).take 1 := by
  unfold DL.cutD
  have e : ((a : Int) + 1) = ((a + 1 : Nat) : Int) := by omega
  rw [e, HT.sIx_nat, HT.sIx_nat, Nat.min_eq_left h]
  by_cases h2 : a + 1 ≤ xs.length
  · rw [Nat.min_eq_left h2]; congr 1; omega
  · have : a = xs.length := by omega
    rw [this, List.drop_length]; simp
theorem edge_run {F : DEnds} {p : Addr} {P0 some0 : D} {E : List Rat} {q : Rat} {O : Om} {m : Nat} {x4 x5 : Option D} (hE : ∀ z ∈ E, Bz m z) (hq : Bz m q) (m0 : 0 < m) (m1 : m ≤ 1000) (hl : E.length ≤ 3000)
    (hM : ∀ y4, F.nx [some P0, some (.ref p), some some0, some (pR q), y4, x5] (DL.up O p (.lst ((insE E q).map pR)))) :
    dSeq (dSet 4 (dCB dLen (dCons (dLcF (dSeqI (dVar 1)) (gN 5) (dTest (dCall sp_law_less [.p 0, .p 1] [] (dCons (dVar 5) (dCons (dVar 3) dNil)) dNil)) (dVar 5) [5]) dNil)))
      (dIfS (dTest (dOp dNe (dSlF (dVar 1) (dPart (dVar 4)) (dPart (dOp dAdd (dVar 4) (dC (.int 1))))) (dLstF (dCons (dVar 3) dNil)))) (dDrop (dLM dInsert (dVar 1) (dCons (dVar 4) (dCons (dVar 3) dNil)))) dNext) F [some P0, some (.ref p), some some0, some (pR q), x4, x5] (DL.up O p (.lst (E.map pR))) := by
  refine seq1 fun N hN => ?_; simp only [dIfS, dAndT, dOrT, dNotT, dTest, dTruth, dTru, dAndV, dOrV, dNotV, dIf, dOp, dUn, dVar, dC, dI, dIc, dAdd, dSub, dMul, dFd, dMod, dPow, dNeg, dLt, dLe, dGt, dGe, dIsN, dNotN, DL.isNon, ix_pR0, ix_pR1, ix_tup, ix_lst, ix_ref, dSl, dPart, dNoPart, dCB, len_tup, len_lst, len_ref, dAbs, dList, dTuple, dBls, dSum, dIsi, dIsi2, dtOf, isC, seqOf, lstOf, dCons, dNil, dTup, dLst, dRet, dRetN, dNext, dDrop, dAsg, gN, gsNil, gsCons, gT, gSubD, dSetL, dPar, dAug, dIpAdd, dIpSub, dCall, eq_int, eq_str, eq_bl, ne_int, ne_str, ne_bl, eq_pR, ne_pR, plus_eq, less_eq, times_eq, over_eq, floor_eq, ceil_eq, part_eq, below_eq, seq_pR, pick_nil, pick_p, pick_k, pick_d, dBreak, dCont, dLM, dLM0, isL, dAppend, dInsert, dPop, dPopAt, dRevL, dStr, dFmt, dJs, dMax2, dMin2, dSorted, dNewK, dctOf, dGetK, dHasK, DL.keyOf, dPutK, dDelK, dSortedD, dSet, dLstF, dRevF, dSlF, dListF, dSortedF, dSortedDF, dMaxF, dMinF, dInS, dLtA, dNewT, dGetT, dHasT, dctT, tkOf, keysOf, dTupP, dPutT, dPutP, putTk, pkOf, dSortedTF, dGet1, dGet2, dGet2T, dDisp1, dRep, dInt, dBits, dExtend, dReverse, dMaxDf, dCat, dCatF, dExtL, dDcT, Option.isSome_some, List.getElem?_cons_zero, List.getElem?_cons_succ, List.set_cons_zero, List.set_cons_succ, atI_0, atI_1, atI_2, atI_3, atI_4, atI_5, ixN_0, ixN_1, ixN_2, ixN_3, ixN_4, ixN_5, up_same, List.length_cons, List.length_nil, Bool.not_true, Bool.not_false, Bool.false_eq_true, if_true, if_false, reduceIte, dLcF]
  refine seqI_at (i := 1) rfl (seq_ref up_same) fun ok hok => ?_
  refine comp_typed (f := pR) (fun z => decide (z < q)) pR (hok _ (seq_ref up_same)) (by omega) (fun z hz N2 acc hacc y1 y2 => ?_) ?_
  · simp only [gN, wipeD, List.set_cons_succ, List.set_cons_zero]
    simp only [dIfS, dAndT, dOrT, dNotT, dTest, dTruth, dTru, dAndV, dOrV, dNotV, dIf, dOp, dUn, dVar, dC, dI, dIc, dAdd, dSub, dMul, dFd, dMod, dPow, dNeg, dLt, dLe, dGt, dGe, dIsN, dNotN, DL.isNon, ix_pR0, ix_pR1, ix_tup, ix_lst, ix_ref, dSl, dPart, dNoPart, dCB, len_tup, len_lst, len_ref, dAbs, dList, dTuple, dBls, dSum, dIsi, dIsi2, dtOf, isC, seqOf, lstOf, dCons, dNil, dTup, dLst, dRet, dRetN, dNext, dDrop, dAsg, gN, gsNil, gsCons, gT, gSubD, dSetL, dPar, dAug, dIpAdd, dIpSub, dCall, eq_int, eq_str, eq_bl, ne_int, ne_str, ne_bl, eq_pR, ne_pR, plus_eq, less_eq, times_eq, over_eq, floor_eq, ceil_eq, part_eq, below_eq, seq_pR, pick_nil, pick_p, pick_k, pick_d, dBreak, dCont, dLM, dLM0, isL, dAppend, dInsert, dPop, dPopAt, dRevL, dStr, dFmt, dJs, dMax2, dMin2, dSorted, dNewK, dctOf, dGetK, dHasK, DL.keyOf, dPutK, dDelK, dSortedD, dSet, dLstF, dRevF, dSlF, dListF, dSortedF, dSortedDF, dMaxF, dMinF, dInS, dLtA, dNewT, dGetT, dHasT, dctT, tkOf, keysOf, dTupP, dPutT, dPutP, putTk, pkOf, dSortedTF, dGet1, dGet2, dGet2T, dDisp1, dRep, dInt, dBits, dExtend, dReverse, dMaxDf, dCat, dCatF, dExtL, dDcT, Option.isSome_some, List.getElem?_cons_zero, List.getElem?_cons_succ, List.set_cons_zero, List.set_cons_succ, atI_0, atI_1, atI_2, atI_3, atI_4, atI_5, ixN_0, ixN_1, ixN_2, ixN_3, ixN_4, ixN_5, up_same, List.length_cons, List.length_nil, Bool.not_true, Bool.not_false, Bool.false_eq_true, if_true, if_false, reduceIte]
    refine less_of ((hE z hz).sm m0 (by omega)) (hq.sm m0 (by omega)) ?_
    cases em : decide (z < q) with
    | true => simp only [dIfS, dAndT, dOrT, dNotT, dTest, dTruth, dTru, dAndV, dOrV, dNotV, dIf, dOp, dUn, dVar, dC, dI, dIc, dAdd, dSub, dMul, dFd, dMod, dPow, dNeg, dLt, dLe, dGt, dGe, dIsN, dNotN, DL.isNon, ix_pR0, ix_pR1, ix_tup, ix_lst, ix_ref, dSl, dPart, dNoPart, dCB, len_tup, len_lst, len_ref, dAbs, dList, dTuple, dBls, dSum, dIsi, dIsi2, dtOf, isC, seqOf, lstOf, dCons, dNil, dTup, dLst, dRet, dRetN, dNext, dDrop, dAsg, gN, gsNil, gsCons, gT, gSubD, dSetL, dPar, dAug, dIpAdd, dIpSub, dCall, eq_int, eq_str, eq_bl, ne_int, ne_str, ne_bl, eq_pR, ne_pR, plus_eq, less_eq, times_eq, over_eq, floor_eq, ceil_eq, part_eq, below_eq, seq_pR, pick_nil, pick_p, pick_k, pick_d, dBreak, dCont, dLM, dLM0, isL, dAppend, dInsert, dPop, dPopAt, dRevL, dStr, dFmt, dJs, dMax2, dMin2, dSorted, dNewK, dctOf, dGetK, dHasK, DL.keyOf, dPutK, dDelK, dSortedD, dSet, dLstF, dRevF, dSlF, dListF, dSortedF, dSortedDF, dMaxF, dMinF, dInS, dLtA, dNewT, dGetT, dHasT, dctT, tkOf, keysOf, dTupP, dPutT, dPutP, putTk, pkOf, dSortedTF, dGet1, dGet2, dGet2T, dDisp1, dRep, dInt, dBits, dExtend, dReverse, dMaxDf, dCat, dCatF, dExtL, dDcT, Option.isSome_some, List.getElem?_cons_zero, List.getElem?_cons_succ, List.set_cons_zero, List.set_cons_succ, atI_0, atI_1, atI_2, atI_3, atI_4, atI_5, ixN_0, ixN_1, ixN_2, ixN_3, ixN_4, ixN_5, up_same, List.length_cons, List.length_nil, Bool.not_true, Bool.not_false, Bool.false_eq_true, if_true, if_false, reduceIte]; exact ⟨hacc, y1 em⟩
    | false => simp only [dIfS, dAndT, dOrT, dNotT, dTest, dTruth, dTru, dAndV, dOrV, dNotV, dIf, dOp, dUn, dVar, dC, dI, dIc, dAdd, dSub, dMul, dFd, dMod, dPow, dNeg, dLt, dLe, dGt, dGe, dIsN, dNotN, DL.isNon, ix_pR0, ix_pR1, ix_tup, ix_lst, ix_ref, dSl, dPart, dNoPart, dCB, len_tup, len_lst, len_ref, dAbs, dList, dTuple, dBls, dSum, dIsi, dIsi2, dtOf, isC, seqOf, lstOf, dCons, dNil, dTup, dLst, dRet, dRetN, dNext, dDrop, dAsg, gN, gsNil, gsCons, gT, gSubD, dSetL, dPar, dAug, dIpAdd, dIpSub, dCall, eq_int, eq_str, eq_bl, ne_int, ne_str, ne_bl, eq_pR, ne_pR, plus_eq, less_eq, times_eq, over_eq, floor_eq, ceil_eq, part_eq, below_eq, seq_pR, pick_nil, pick_p, pick_k, pick_d, dBreak, dCont, dLM, dLM0, isL, dAppend, dInsert, dPop, dPopAt, dRevL, dStr, dFmt, dJs, dMax2, dMin2, dSorted, dNewK, dctOf, dGetK, dHasK, DL.keyOf, dPutK, dDelK, dSortedD, dSet, dLstF, dRevF, dSlF, dListF, dSortedF, dSortedDF, dMaxF, dMinF, dInS, dLtA, dNewT, dGetT, dHasT, dctT, tkOf, keysOf, dTupP, dPutT, dPutP, putTk, pkOf, dSortedTF, dGet1, dGet2, dGet2T, dDisp1, dRep, dInt, dBits, dExtend, dReverse, dMaxDf, dCat, dCatF, dExtL, dDcT, Option.isSome_some, List.getElem?_cons_zero, List.getElem?_cons_succ, List.set_cons_zero, List.set_cons_succ, atI_0, atI_1, atI_2, atI_3, atI_4, atI_5, ixN_0, ixN_1, ixN_2, ixN_3, ixN_4, ixN_5, up_same, List.length_cons, List.length_nil, Bool.not_true, Bool.not_false, Bool.false_eq_true, if_true, if_false, reduceIte]; exact y2 em
  · subst hN
    unfold insE at hM
    have hle := List.length_filter_le (fun z => decide (z < q)) E
    simp only [dIfS, dAndT, dOrT, dNotT, dTest, dTruth, dTru, dAndV, dOrV, dNotV, dIf, dOp, dUn, dVar, dC, dI, dIc, dAdd, dSub, dMul, dFd, dMod, dPow, dNeg, dLt, dLe, dGt, dGe, dIsN, dNotN, DL.isNon, ix_pR0, ix_pR1, ix_tup, ix_lst, ix_ref, dSl, dPart, dNoPart, dCB, len_tup, len_lst, len_ref, dAbs, dList, dTuple, dBls, dSum, dIsi, dIsi2, dtOf, isC, seqOf, lstOf, dCons, dNil, dTup, dLst, dRet, dRetN, dNext, dDrop, dAsg, gN, gsNil, gsCons, gT, gSubD, dSetL, dPar, dAug, dIpAdd, dIpSub, dCall, eq_int, eq_str, eq_bl, ne_int, ne_str, ne_bl, eq_pR, ne_pR, plus_eq, less_eq, times_eq, over_eq, floor_eq, ceil_eq, part_eq, below_eq, seq_pR, pick_nil, pick_p, pick_k, pick_d, dBreak, dCont, dLM, dLM0, isL, dAppend, dInsert, dPop, dPopAt, dRevL, dStr, dFmt, dJs, dMax2, dMin2, dSorted, dNewK, dctOf, dGetK, dHasK, DL.keyOf, dPutK, dDelK, dSortedD, dSet, dLstF, dRevF, dSlF, dListF, dSortedF, dSortedDF, dMaxF, dMinF, dInS, dLtA, dNewT, dGetT, dHasT, dctT, tkOf, keysOf, dTupP, dPutT, dPutP, putTk, pkOf, dSortedTF, dGet1, dGet2, dGet2T, dDisp1, dRep, dInt, dBits, dExtend, dReverse, dMaxDf, dCat, dCatF, dExtL, dDcT, Option.isSome_some, List.getElem?_cons_zero, List.getElem?_cons_succ, List.set_cons_zero, List.set_cons_succ, atI_0, atI_1, atI_2, atI_3, atI_4, atI_5, ixN_0, ixN_1, ixN_2, ixN_3, ixN_4, ixN_5, up_same, List.length_cons, List.length_nil, Bool.not_true, Bool.not_false, Bool.false_eq_true, if_true, if_false, reduceIte, List.length_map]
    generalize (E.filter fun z => decide (z < q)).length = a at *
    have hc : DL.cutD (E.map pR) (some (a : Int)) (some ((a : Int) + 1)) = ((E.drop a).take 1).map pR := by
      rw [cut_one (by rw [List.length_map]; exact hle), List.map_take, List.map_drop]
    simp only [dIfS, dAndT, dOrT, dNotT, dTest, dTruth, dTru, dAndV, dOrV, dNotV, dIf, dOp, dUn, dVar, dC, dI, dIc, dAdd, dSub, dMul, dFd, dMod, dPow, dNeg, dLt, dLe, dGt, dGe, dIsN, dNotN, DL.isNon, ix_pR0, ix_pR1, ix_tup, ix_lst, ix_ref, dSl, dPart, dNoPart, dCB, len_tup, len_lst, len_ref, dAbs, dList, dTuple, dBls, dSum, dIsi, dIsi2, dtOf, isC, seqOf, lstOf, dCons, dNil, dTup, dLst, dRet, dRetN, dNext, dDrop, dAsg, gN, gsNil, gsCons, gT, gSubD, dSetL, dPar, dAug, dIpAdd, dIpSub, dCall, eq_int, eq_str, eq_bl, ne_int, ne_str, ne_bl, eq_pR, ne_pR, plus_eq, less_eq, times_eq, over_eq, floor_eq, ceil_eq, part_eq, below_eq, seq_pR, pick_nil, pick_p, pick_k, pick_d, dBreak, dCont, dLM, dLM0, isL, dAppend, dInsert, dPop, dPopAt, dRevL, dStr, dFmt, dJs, dMax2, dMin2, dSorted, dNewK, dctOf, dGetK, dHasK, DL.keyOf, dPutK, dDelK, dSortedD, dSet, dLstF, dRevF, dSlF, dListF, dSortedF, dSortedDF, dMaxF, dMinF, dInS, dLtA, dNewT, dGetT, dHasT, dctT, tkOf, keysOf, dTupP, dPutT, dPutP, putTk, pkOf, dSortedTF, dGet1, dGet2, dGet2T, dDisp1, dRep, dInt, dBits, dExtend, dReverse, dMaxDf, dCat, dCatF, dExtL, dDcT, Option.isSome_some, List.getElem?_cons_zero, List.getElem?_cons_succ, List.set_cons_zero, List.set_cons_succ, atI_0, atI_1, atI_2, atI_3, atI_4, atI_5, ixN_0, ixN_1, ixN_2, ixN_3, ixN_4, ixN_5, up_same, List.length_cons, List.length_nil, Bool.not_true, Bool.not_false, Bool.false_eq_true, if_true, if_false, reduceIte, hc]
    refine ne_one _ (by rw [List.length_take]; omega) q ?_
    by_cases h1 : (E.drop a).take 1 = [q]
    · rw [if_pos h1] at hM
      simp only [h1, decide_true, Bool.not_true, Bool.false_eq_true, if_false]
      exact hM _
    · rw [if_neg h1] at hM
      simp only [h1, decide_false, Bool.not_false, if_true]
      simp only [dIfS, dAndT, dOrT, dNotT, dTest, dTruth, dTru, dAndV, dOrV, dNotV, dIf, dOp, dUn, dVar, dC, dI, dIc, dAdd, dSub, dMul, dFd, dMod, dPow, dNeg, dLt, dLe, dGt, dGe, dIsN, dNotN, DL.isNon, ix_pR0, ix_pR1, ix_tup, ix_lst, ix_ref, dSl, dPart, dNoPart, dCB, len_tup, len_lst, len_ref, dAbs, dList, dTuple, dBls, dSum, dIsi, dIsi2, dtOf, isC, seqOf, lstOf, dCons, dNil, dTup, dLst, dRet, dRetN, dNext, dDrop, dAsg, gN, gsNil, gsCons, gT, gSubD, dSetL, dPar, dAug, dIpAdd, dIpSub, dCall, eq_int, eq_str, eq_bl, ne_int, ne_str, ne_bl, eq_pR, ne_pR, plus_eq, less_eq, times_eq, over_eq, floor_eq, ceil_eq, part_eq, below_eq, seq_pR, pick_nil, pick_p, pick_k, pick_d, dBreak, dCont, dLM, dLM0, isL, dAppend, dInsert, dPop, dPopAt, dRevL, dStr, dFmt, dJs, dMax2, dMin2, dSorted, dNewK, dctOf, dGetK, dHasK, DL.keyOf, dPutK, dDelK, dSortedD, dSet, dLstF, dRevF, dSlF, dListF, dSortedF, dSortedDF, dMaxF, dMinF, dInS, dLtA, dNewT, dGetT, dHasT, dctT, tkOf, keysOf, dTupP, dPutT, dPutP, putTk, pkOf, dSortedTF, dGet1, dGet2, dGet2T, dDisp1, dRep, dInt, dBits, dExtend, dReverse, dMaxDf, dCat, dCatF, dExtL, dDcT, Option.isSome_some, List.getElem?_cons_zero, List.getElem?_cons_succ, List.set_cons_zero, List.set_cons_succ, atI_0, atI_1, atI_2, atI_3, atI_4, atI_5, ixN_0, ixN_1, ixN_2, ixN_3, ixN_4, ixN_5, up_same, List.length_cons, List.length_nil, Bool.not_true, Bool.not_false, Bool.false_eq_true, if_true, if_false, reduceIte]
      refine ⟨True.intro, ⟨by rw [List.length_map, sizeLine_eq]; omega, by omega, by omega⟩, ?_⟩
      rw [up_up]
      have e2 : (E.map pR).take (a : Int).toNat ++ [pR q] ++ (E.map pR).drop (a : Int).toNat = (E.take a ++ [q] ++ E.drop a).map pR := by
        rw [List.map_append, List.map_append, List.map_take, List.map_drop]; rfl
      rw [e2]
      exact hM _
theorem d_law_edges : ∀ xs O R Z, sp_law_edges xs O R Z → t_law_edges (ends R) (startD n_law_edges xs) O := by
  rintro _ O R Z ⟨zs, m, rfl, hq, m0, m1, hl, k⟩
  show t_law_edges (ends R) [some (.lst (zs.map bgD)), none, none, none, none, none] O
  unfold t_law_edges
  refine seq1 fun N hN => ?_; simp only [dIfS, dAndT, dOrT, dNotT, dTest, dTruth, dTru, dAndV, dOrV, dNotV, dIf, dOp, dUn, dVar, dC, dI, dIc, dAdd, dSub, dMul, dFd, dMod, dPow, dNeg, dLt, dLe, dGt, dGe, dIsN, dNotN, DL.isNon, ix_pR0, ix_pR1, ix_tup, ix_lst, ix_ref, dSl, dPart, dNoPart, dCB, len_tup, len_lst, len_ref, dAbs, dList, dTuple, dBls, dSum, dIsi, dIsi2, dtOf, isC, seqOf, lstOf, dCons, dNil, dTup, dLst, dRet, dRetN, dNext, dDrop, dAsg, gN, gsNil, gsCons, gT, gSubD, dSetL, dPar, dAug, dIpAdd, dIpSub, dCall, eq_int, eq_str, eq_bl, ne_int, ne_str, ne_bl, eq_pR, ne_pR, plus_eq, less_eq, times_eq, over_eq, floor_eq, ceil_eq, part_eq, below_eq, seq_pR, pick_nil, pick_p, pick_k, pick_d, dBreak, dCont, dLM, dLM0, isL, dAppend, dInsert, dPop, dPopAt, dRevL, dStr, dFmt, dJs, dMax2, dMin2, dSorted, dNewK, dctOf, dGetK, dHasK, DL.keyOf, dPutK, dDelK, dSortedD, dSet, dLstF, dRevF, dSlF, dListF, dSortedF, dSortedDF, dMaxF, dMinF, dInS, dLtA, dNewT, dGetT, dHasT, dctT, tkOf, keysOf, dTupP, dPutT, dPutP, putTk, pkOf, dSortedTF, dGet1, dGet2, dGet2T, dDisp1, dRep, dInt, dBits, dExtend, dReverse, dMaxDf, dCat, dCatF, dExtL, dDcT, Option.isSome_some, List.getElem?_cons_zero, List.getElem?_cons_succ, List.set_cons_zero, List.set_cons_succ, atI_0, atI_1, atI_2, atI_3, atI_4, atI_5, ixN_0, ixN_1, ixN_2, ixN_3, ixN_4, ixN_5, up_same, List.length_cons, List.length_nil, Bool.not_true, Bool.not_false, Bool.false_eq_true, if_true, if_false, reduceIte]
  intro p hp
  subst hN
  refine seq_by (fun g O' => O' = DL.up O p (.lst ((insAll (edgB zs)).map pR)) ∧ ∃ x2 x3 x4 x5, g = [some (.lst (zs.map bgD)), some (.ref p), x2, x3, x4, x5]) (fun N hN => ?_) ?_
  · unfold dFor
    refine seqI_lst rfl ?_
    refine loop_map (fun pre g O' => O' = DL.up O p (.lst ((insAll (edgB pre)).map pR)) ∧ ∃ x2 x3 x4 x5, g = [some (.lst (zs.map bgD)), some (.ref p), x2, x3, x4, x5]) ⟨rfl, _, _, _, _, rfl⟩ (fun _ _ _ _ => True.intro) ?_ ?_
    · rintro pre z post _ _ M e ⟨rfl, x2, x3, x4, x5, rfl⟩ hM
      have hsub : ∀ w ∈ edgB (pre ++ [z]), Bz m w := fun w hw => hq w (by
        rw [e]
        unfold edgB at *
        obtain ⟨y, hy, hw⟩ := List.mem_flatMap.mp hw
        exact List.mem_flatMap.mpr ⟨y, by rcases List.mem_append.mp hy with h | h; · simp [h]
                                          · simp [List.mem_singleton.mp h], hw⟩)
      rw [edgB_snoc] at hM hsub
      have hel : (edgB pre).length ≤ 2000 := by
        rw [edgB_len]
        have : pre.length ≤ zs.length := by rw [e]; simp
        omega
      generalize edgB pre = E at *
      have hx : ∀ w ∈ insAll E, Bz m w := fun w hw => hsub w (by simp [((insAll_ok E).2 w).mp hw])
      have h1 : Bz m z.1 := hsub _ (by simp)
      have h2 : Bz m z.2.1 := hsub _ (by simp)
      have hil := insAll_len E
      have hil2 := insE_len (insAll E) z.1
      have ez : bgD z = .tup (pR z.1 :: pR z.2.1 :: z.2.2) := rfl
      have ec : DL.cutD (pR z.1 :: pR z.2.1 :: z.2.2) none (some 2) = [pR z.1, pR z.2.1] := by rw [cut_to (by decide)]; rfl
      simp only [gN, List.set_cons_succ, List.set_cons_zero]
      simp only [dIfS, dAndT, dOrT, dNotT, dTest, dTruth, dTru, dAndV, dOrV, dNotV, dIf, dOp, dUn, dVar, dC, dI, dIc, dAdd, dSub, dMul, dFd, dMod, dPow, dNeg, dLt, dLe, dGt, dGe, dIsN, dNotN, DL.isNon, ix_pR0, ix_pR1, ix_tup, ix_lst, ix_ref, dSl, dPart, dNoPart, dCB, len_tup, len_lst, len_ref, dAbs, dList, dTuple, dBls, dSum, dIsi, dIsi2, dtOf, isC, seqOf, lstOf, dCons, dNil, dTup, dLst, dRet, dRetN, dNext, dDrop, dAsg, gN, gsNil, gsCons, gT, gSubD, dSetL, dPar, dAug, dIpAdd, dIpSub, dCall, eq_int, eq_str, eq_bl, ne_int, ne_str, ne_bl, eq_pR, ne_pR, plus_eq, less_eq, times_eq, over_eq, floor_eq, ceil_eq, part_eq, below_eq, seq_pR, pick_nil, pick_p, pick_k, pick_d, dBreak, dCont, dLM, dLM0, isL, dAppend, dInsert, dPop, dPopAt, dRevL, dStr, dFmt, dJs, dMax2, dMin2, dSorted, dNewK, dctOf, dGetK, dHasK, DL.keyOf, dPutK, dDelK, dSortedD, dSet, dLstF, dRevF, dSlF, dListF, dSortedF, dSortedDF, dMaxF, dMinF, dInS, dLtA, dNewT, dGetT, dHasT, dctT, tkOf, keysOf, dTupP, dPutT, dPutP, putTk, pkOf, dSortedTF, dGet1, dGet2, dGet2T, dDisp1, dRep, dInt, dBits, dExtend, dReverse, dMaxDf, dCat, dCatF, dExtL, dDcT, Option.isSome_some, List.getElem?_cons_zero, List.getElem?_cons_succ, List.set_cons_zero, List.set_cons_succ, atI_0, atI_1, atI_2, atI_3, atI_4, atI_5, ixN_0, ixN_1, ixN_2, ixN_3, ixN_4, ixN_5, up_same, List.length_cons, List.length_nil, Bool.not_true, Bool.not_false, Bool.false_eq_true, if_true, if_false, reduceIte, dFor, dRng1, dRng2, dRng3, dSeqI, dEnum, dEnumA, dZip, dLc, dLcF, wipeD, ez, ec]
      simp only [dLoop, gN, List.set_cons_succ, List.set_cons_zero]
      refine ⟨True.intro, ?_⟩
      refine edge_run hx h1 m0 m1 (by omega) fun y4 => ?_
      refine ⟨True.intro, ?_⟩
      refine edge_run (fun w hw => ?_) h2 m0 m1 (by omega) fun y5 => ?_
      · rcases ((insE_ok z.1 (insAll_ok E).1).2 w).mp hw with rfl | hw
        · exact h1
        · exact hx w hw
      · refine ⟨True.intro, ?_⟩
        refine hM _ _ ⟨by rw [insAll_snoc, insAll_snoc], _, _, _, _, rfl⟩
    · rintro _ _ ⟨rfl, x2, x3, x4, x5, rfl⟩
      exact hN _ _ ⟨rfl, _, _, _, _, rfl⟩
  · rintro _ _ ⟨rfl, x2, x3, x4, x5, rfl⟩
    simp only [dIfS, dAndT, dOrT, dNotT, dTest, dTruth, dTru, dAndV, dOrV, dNotV, dIf, dOp, dUn, dVar, dC, dI, dIc, dAdd, dSub, dMul, dFd, dMod, dPow, dNeg, dLt, dLe, dGt, dGe, dIsN, dNotN, DL.isNon, ix_pR0, ix_pR1, ix_tup, ix_lst, ix_ref, dSl, dPart, dNoPart, dCB, len_tup, len_lst, len_ref, dAbs, dList, dTuple, dBls, dSum, dIsi, dIsi2, dtOf, isC, seqOf, lstOf, dCons, dNil, dTup, dLst, dRet, dRetN, dNext, dDrop, dAsg, gN, gsNil, gsCons, gT, gSubD, dSetL, dPar, dAug, dIpAdd, dIpSub, dCall, eq_int, eq_str, eq_bl, ne_int, ne_str, ne_bl, eq_pR, ne_pR, plus_eq, less_eq, times_eq, over_eq, floor_eq, ceil_eq, part_eq, below_eq, seq_pR, pick_nil, pick_p, pick_k, pick_d, dBreak, dCont, dLM, dLM0, isL, dAppend, dInsert, dPop, dPopAt, dRevL, dStr, dFmt, dJs, dMax2, dMin2, dSorted, dNewK, dctOf, dGetK, dHasK, DL.keyOf, dPutK, dDelK, dSortedD, dSet, dLstF, dRevF, dSlF, dListF, dSortedF, dSortedDF, dMaxF, dMinF, dInS, dLtA, dNewT, dGetT, dHasT, dctT, tkOf, keysOf, dTupP, dPutT, dPutP, putTk, pkOf, dSortedTF, dGet1, dGet2, dGet2T, dDisp1, dRep, dInt, dBits, dExtend, dReverse, dMaxDf, dCat, dCatF, dExtL, dDcT, Option.isSome_some, List.getElem?_cons_zero, List.getElem?_cons_succ, List.set_cons_zero, List.set_cons_succ, atI_0, atI_1, atI_2, atI_3, atI_4, atI_5, ixN_0, ixN_1, ixN_2, ixN_3, ixN_4, ixN_5, up_same, List.length_cons, List.length_nil, Bool.not_true, Bool.not_false, Bool.false_eq_true, if_true, if_false, reduceIte, dFz]
    refine fz_ref up_same ?_
    rw [del_up hp, insAll_srt]
    exact Fin.here k
def t_law_outline : DS :=
  (dSeq (dSet 1 (dLst dNil))
  (dSeq (dSet 2 (dCall sp_law_edges [.p 0] [] (dCons (dVar 0) dNil) dNil))
  (dSeq (dFor (dRng1 (dCons (dOp dSub (dCB dLen (dCons (dVar 2) dNil)) (dC (.int 1))) dNil)) (gN 3) (dSeq (dSet 4 (dTup (dCons (dOp dIx (dVar 2) (dVar 3)) (dCons (dOp dIx (dVar 2) (dOp dAdd (dVar 3) (dC (.int 1)))) dNil))))
  (dSeq (dSet 5 (dLcF (dSeqI (dVar 0)) (gN 6) (dTest (dCall sp_law_meet [.p 0, .p 1] [] (dCons (dVar 4) (dCons (dVar 6) dNil)) dNil)) (dOp dIx (dVar 6) (dC (.int 3))) [6]))
  (dSeq (dIfS (dTest (dOp dEq (dVar 5) (dLstF dNil))) dCont dNext)
  (dIfS (dAndT (dTest (dOp dNe (dVar 1) (dLstF dNil))) (dAndT (dTest (dOp dEq (dOp dIx (dOp dIx (dVar 1) (dUn dNeg (dC (.int 1)))) (dC (.int 1))) (dOp dIx (dVar 2) (dVar 3)))) (dTest (dOp dEq (dOp dIx (dOp dIx (dVar 1) (dUn dNeg (dC (.int 1)))) (dC (.int 2))) (dCB dMaxF (dCons (dVar 5) dNil)))))) (dAsg (dTup (dCons (dOp dIx (dOp dIx (dVar 1) (dUn dNeg (dC (.int 1)))) (dC (.int 0))) (dCons (dOp dIx (dVar 2) (dOp dAdd (dVar 3) (dC (.int 1)))) (dCons (dCB dMaxF (dCons (dVar 5) dNil)) dNil)))) (gSubD (dVar 1) (dUn dNeg (dC (.int 1))) dSetL)) (dDrop (dLM dAppend (dVar 1) (dCons (dOp dAdd (dVar 4) (dTup (dCons (dCB dMaxF (dCons (dVar 5) dNil)) dNil))) dNil))))))))
  (dRet (dFz (dVar 1))))))
def n_law_outline : List Str := ["_law_piles", "_law_found", "_law_edges_here", "_law_k", "_law_gap_of", "_law_tops", "_law_some"]
theorem bgD_bx (bs : List Bx) : bs.map bxR = (bs.map fun b => ((b.l, b.r, [.int b.lo, .int b.hi]) : Bw)).map bgD := by rw [List.map_map]; rfl
theorem edgB_bx (bs : List Bx) : edgB (bs.map fun b => ((b.l, b.r, [.int b.lo, .int b.hi]) : Bw)) = edgs bs := by unfold edgB edgs; rw [List.flatMap_map]
def sp_law_outline : DSp := fun xs O R _ => ∃ (bs : List Bx), xs = [.lst (bs.map bxR)] ∧ (∀ b ∈ bs, GE b) ∧ bs.length ≤ 1000 ∧ R (.lst ((outl bs).map sgD)) O
theorem sgP_seen {O : Om} {ss : List Sg} : SeenAll O 2 (ss.map sgD) (ss.map fun s => PyData.tuple [pP s.1, pP s.2.1, .int s.2.2]) := SeenAll.map fun s _ => SeenAll.tup (.cons Seen.pR (.cons Seen.pR (.cons .int .nil)))
theorem eqN {O : Om} {R : D → Om → Prop} {ns : List Int} (r : R (.bl (decide (ns = []))) O) : dEq (.lst (ns.map D.int)) (.lst []) O R := by
  refine Seen.eqv (b := false) (n := 1) (m := 1) (d := .list (ns.map PyData.int)) (e := .list []) (SeenAll.lst (n := 0) (SeenAll.map fun _ _ => Seen.int)) (SeenAll.lst (n := 0) .nil) (by decide) (by decide) ?_
  cases ns with
  | nil => exact r
  | cons n ns => exact r
theorem prs_get (E : List Rat) {i : Nat} (h : i + 1 < E.length) : (prs E)[i]? = some (E.getD i 0, E.getD (i + 1) 0) := by
  unfold prs
  rw [List.getElem?_zip_eq_some]
  rw [List.getD_eq_getElem?_getD, List.getD_eq_getElem?_getD, List.getElem?_drop, List.getElem?_eq_getElem (by omega : i < E.length), Nat.add_comm 1 i, List.getElem?_eq_getElem h]
  exact ⟨rfl, rfl⟩
theorem prs_len' (E : List Rat) : (prs E).length = E.length - 1 := by unfold prs; rw [List.length_zip, List.length_drop]; omega
theorem d_law_outline : ∀ xs O R Z, sp_law_outline xs O R Z → t_law_outline (ends R) (startD n_law_outline xs) O := by
  rintro _ O R Z ⟨bs, rfl, hb, hl, k⟩
  show t_law_outline (ends R) [some (.lst (bs.map bxR)), none, none, none, none, none, none] O
  unfold t_law_outline
  refine seq1 fun N hN => ?_; simp only [dIfS, dAndT, dOrT, dNotT, dTest, dTruth, dTru, dAndV, dOrV, dNotV, dIf, dOp, dUn, dVar, dC, dI, dIc, dAdd, dSub, dMul, dFd, dMod, dPow, dNeg, dLt, dLe, dGt, dGe, dIsN, dNotN, DL.isNon, ix_pR0, ix_pR1, ix_tup, ix_lst, ix_ref, dSl, dPart, dNoPart, dCB, len_tup, len_lst, len_ref, dAbs, dList, dTuple, dBls, dSum, dIsi, dIsi2, dtOf, isC, seqOf, lstOf, dCons, dNil, dTup, dLst, dRet, dRetN, dNext, dDrop, dAsg, gN, gsNil, gsCons, gT, gSubD, dSetL, dPar, dAug, dIpAdd, dIpSub, dCall, eq_int, eq_str, eq_bl, ne_int, ne_str, ne_bl, eq_pR, ne_pR, plus_eq, less_eq, times_eq, over_eq, floor_eq, ceil_eq, part_eq, below_eq, seq_pR, pick_nil, pick_p, pick_k, pick_d, dBreak, dCont, dLM, dLM0, isL, dAppend, dInsert, dPop, dPopAt, dRevL, dStr, dFmt, dJs, dMax2, dMin2, dSorted, dNewK, dctOf, dGetK, dHasK, DL.keyOf, dPutK, dDelK, dSortedD, dSet, dLstF, dRevF, dSlF, dListF, dSortedF, dSortedDF, dMaxF, dMinF, dInS, dLtA, dNewT, dGetT, dHasT, dctT, tkOf, keysOf, dTupP, dPutT, dPutP, putTk, pkOf, dSortedTF, dGet1, dGet2, dGet2T, dDisp1, dRep, dInt, dBits, dExtend, dReverse, dMaxDf, dCat, dCatF, dExtL, dDcT, Option.isSome_some, List.getElem?_cons_zero, List.getElem?_cons_succ, List.set_cons_zero, List.set_cons_succ, atI_0, atI_1, atI_2, atI_3, atI_4, atI_5, ixN_0, ixN_1, ixN_2, ixN_3, ixN_4, ixN_5, up_same, List.length_cons, List.length_nil, Bool.not_true, Bool.not_false, Bool.false_eq_true, if_true, if_false, reduceIte]
  intro p hp
  subst hN
  refine seq1 fun N hN => ?_; simp only [dIfS, dAndT, dOrT, dNotT, dTest, dTruth, dTru, dAndV, dOrV, dNotV, dIf, dOp, dUn, dVar, dC, dI, dIc, dAdd, dSub, dMul, dFd, dMod, dPow, dNeg, dLt, dLe, dGt, dGe, dIsN, dNotN, DL.isNon, ix_pR0, ix_pR1, ix_tup, ix_lst, ix_ref, dSl, dPart, dNoPart, dCB, len_tup, len_lst, len_ref, dAbs, dList, dTuple, dBls, dSum, dIsi, dIsi2, dtOf, isC, seqOf, lstOf, dCons, dNil, dTup, dLst, dRet, dRetN, dNext, dDrop, dAsg, gN, gsNil, gsCons, gT, gSubD, dSetL, dPar, dAug, dIpAdd, dIpSub, dCall, eq_int, eq_str, eq_bl, ne_int, ne_str, ne_bl, eq_pR, ne_pR, plus_eq, less_eq, times_eq, over_eq, floor_eq, ceil_eq, part_eq, below_eq, seq_pR, pick_nil, pick_p, pick_k, pick_d, dBreak, dCont, dLM, dLM0, isL, dAppend, dInsert, dPop, dPopAt, dRevL, dStr, dFmt, dJs, dMax2, dMin2, dSorted, dNewK, dctOf, dGetK, dHasK, DL.keyOf, dPutK, dDelK, dSortedD, dSet, dLstF, dRevF, dSlF, dListF, dSortedF, dSortedDF, dMaxF, dMinF, dInS, dLtA, dNewT, dGetT, dHasT, dctT, tkOf, keysOf, dTupP, dPutT, dPutP, putTk, pkOf, dSortedTF, dGet1, dGet2, dGet2T, dDisp1, dRep, dInt, dBits, dExtend, dReverse, dMaxDf, dCat, dCatF, dExtL, dDcT, Option.isSome_some, List.getElem?_cons_zero, List.getElem?_cons_succ, List.set_cons_zero, List.set_cons_succ, atI_0, atI_1, atI_2, atI_3, atI_4, atI_5, ixN_0, ixN_1, ixN_2, ixN_3, ixN_4, ixN_5, up_same, List.length_cons, List.length_nil, Bool.not_true, Bool.not_false, Bool.false_eq_true, if_true, if_false, reduceIte]
  refine ⟨bs.map fun b => (b.l, b.r, [.int b.lo, .int b.hi]), 30, by rw [← bgD_bx], by rw [edgB_bx]; exact edgs_bz hb, by decide, by decide, by rw [List.length_map]; exact hl, ?_⟩
  rw [edgB_bx]
  subst hN
  have hE : ∀ q ∈ srt (edgs bs), Bz 30 q := fun q hq => edgs_bz hb q ((srt_mem _ _).mp hq)
  have hEl : (srt (edgs bs)).length ≤ 2000 := by
    have := srt_len (edgs bs)
    rw [edgs_len] at this
    omega
  have eo : outl bs = joinS (segs bs (prs (srt (edgs bs)))) := rfl
  rw [eo] at k
  generalize srt (edgs bs) = E at *
  have hsl : ∀ ps : List (Rat × Rat), (segs bs ps).length ≤ ps.length := fun ps => List.length_filterMap_le _ _
  refine seq_by (fun g O' => O' = DL.up O p (.lst ((joinS (segs bs (prs E))).map sgD)) ∧ ∃ x3 x4 x5 x6, g = [some (.lst (bs.map bxR)), some (.ref p), some (.lst (E.map pR)), x3, x4, x5, x6]) (fun N hN => ?_) ?_
  · refine for1 (j := (E.length : Int) - 1) (fun R r => by simp only [dIfS, dAndT, dOrT, dNotT, dTest, dTruth, dTru, dAndV, dOrV, dNotV, dIf, dOp, dUn, dVar, dC, dI, dIc, dAdd, dSub, dMul, dFd, dMod, dPow, dNeg, dLt, dLe, dGt, dGe, dIsN, dNotN, DL.isNon, ix_pR0, ix_pR1, ix_tup, ix_lst, ix_ref, dSl, dPart, dNoPart, dCB, len_tup, len_lst, len_ref, dAbs, dList, dTuple, dBls, dSum, dIsi, dIsi2, dtOf, isC, seqOf, lstOf, dCons, dNil, dTup, dLst, dRet, dRetN, dNext, dDrop, dAsg, gN, gsNil, gsCons, gT, gSubD, dSetL, dPar, dAug, dIpAdd, dIpSub, dCall, eq_int, eq_str, eq_bl, ne_int, ne_str, ne_bl, eq_pR, ne_pR, plus_eq, less_eq, times_eq, over_eq, floor_eq, ceil_eq, part_eq, below_eq, seq_pR, pick_nil, pick_p, pick_k, pick_d, dBreak, dCont, dLM, dLM0, isL, dAppend, dInsert, dPop, dPopAt, dRevL, dStr, dFmt, dJs, dMax2, dMin2, dSorted, dNewK, dctOf, dGetK, dHasK, DL.keyOf, dPutK, dDelK, dSortedD, dSet, dLstF, dRevF, dSlF, dListF, dSortedF, dSortedDF, dMaxF, dMinF, dInS, dLtA, dNewT, dGetT, dHasT, dctT, tkOf, keysOf, dTupP, dPutT, dPutP, putTk, pkOf, dSortedTF, dGet1, dGet2, dGet2T, dDisp1, dRep, dInt, dBits, dExtend, dReverse, dMaxDf, dCat, dCatF, dExtL, dDcT, Option.isSome_some, List.getElem?_cons_zero, List.getElem?_cons_succ, List.set_cons_zero, List.set_cons_succ, atI_0, atI_1, atI_2, atI_3, atI_4, atI_5, ixN_0, ixN_1, ixN_2, ixN_3, ixN_4, ixN_5, up_same, List.length_cons, List.length_nil, Bool.not_true, Bool.not_false, Bool.false_eq_true, if_true, if_false, reduceIte, List.length_map]; exact r) (by omega) (by omega) ?_
    have hn : ((E.length : Int) - 1).toNat = (prs E).length := by rw [prs_len']; omega
    rw [hn]
    refine loop_ix (fun i g O' => i ≤ (prs E).length ∧ O' = DL.up O p (.lst ((joinS (segs bs ((prs E).take i))).map sgD)) ∧ ∃ x3 x4 x5 x6, g = [some (.lst (bs.map bxR)), some (.ref p), some (.lst (E.map pR)), x3, x4, x5, x6]) ⟨by omega, rfl, _, _, _, _, rfl⟩ (fun _ _ _ _ => True.intro) ?_ ?_
    · rintro i x _ _ M hx ⟨hi, rfl, x3, x4, x5, x6, rfl⟩ hM
      obtain ⟨hi2, rfl⟩ := rgD_get' hx
      have hi3 : i + 1 < E.length := by rw [prs_len'] at hi2; omega
      have hg := prs_get E hi3
      have a1 : atI (E.map pR) (i : Int) = some (pR (E.getD i 0)) := atI_map (by omega)
      have a2 : atI (E.map pR) ((i : Int) + 1) = some (pR (E.getD (i + 1) 0)) := by
        have : ((i : Int) + 1) = ((i + 1 : Nat) : Int) := by omega
        rw [this]; exact atI_map hi3
      have b1 := hE _ (getD_mem (xs := E) (i := i) (d := 0) (by omega))
      have b2 := hE _ (getD_mem (xs := E) (i := i + 1) (d := 0) hi3)
      have ht : (prs E).take (i + 1) = (prs E).take i ++ [(E.getD i 0, E.getD (i + 1) 0)] := by rw [List.take_add_one, hg]; rfl
      rw [ht] at hM
      have esn : segs bs ((prs E).take i ++ [(E.getD i 0, E.getD (i + 1) 0)]) = segs bs ((prs E).take i) ++ (seg1 bs (E.getD i 0, E.getD (i + 1) 0)).toList := by unfold segs; rw [List.filterMap_append, List.filterMap_cons]; cases seg1 bs (E.getD i 0, E.getD (i + 1) 0) <;> rfl
      rw [esn] at hM
      have hjl : (joinS (segs bs ((prs E).take i))).length ≤ 2000 := by
        have h1 := joinS_len (segs bs ((prs E).take i))
        have h2 := hsl ((prs E).take i)
        have h3 := prs_len E
        rw [List.length_take] at h2
        omega
      generalize joinS_eq : joinS (segs bs ((prs E).take i)) = J at *
      generalize E.getD i 0 = ea at *
      generalize E.getD (i + 1) 0 = eb at *
      simp only [gN, List.set_cons_succ, List.set_cons_zero]
      refine seq1 fun N hN => ?_; simp only [dIfS, dAndT, dOrT, dNotT, dTest, dTruth, dTru, dAndV, dOrV, dNotV, dIf, dOp, dUn, dVar, dC, dI, dIc, dAdd, dSub, dMul, dFd, dMod, dPow, dNeg, dLt, dLe, dGt, dGe, dIsN, dNotN, DL.isNon, ix_pR0, ix_pR1, ix_tup, ix_lst, ix_ref, dSl, dPart, dNoPart, dCB, len_tup, len_lst, len_ref, dAbs, dList, dTuple, dBls, dSum, dIsi, dIsi2, dtOf, isC, seqOf, lstOf, dCons, dNil, dTup, dLst, dRet, dRetN, dNext, dDrop, dAsg, gN, gsNil, gsCons, gT, gSubD, dSetL, dPar, dAug, dIpAdd, dIpSub, dCall, eq_int, eq_str, eq_bl, ne_int, ne_str, ne_bl, eq_pR, ne_pR, plus_eq, less_eq, times_eq, over_eq, floor_eq, ceil_eq, part_eq, below_eq, seq_pR, pick_nil, pick_p, pick_k, pick_d, dBreak, dCont, dLM, dLM0, isL, dAppend, dInsert, dPop, dPopAt, dRevL, dStr, dFmt, dJs, dMax2, dMin2, dSorted, dNewK, dctOf, dGetK, dHasK, DL.keyOf, dPutK, dDelK, dSortedD, dSet, dLstF, dRevF, dSlF, dListF, dSortedF, dSortedDF, dMaxF, dMinF, dInS, dLtA, dNewT, dGetT, dHasT, dctT, tkOf, keysOf, dTupP, dPutT, dPutP, putTk, pkOf, dSortedTF, dGet1, dGet2, dGet2T, dDisp1, dRep, dInt, dBits, dExtend, dReverse, dMaxDf, dCat, dCatF, dExtL, dDcT, Option.isSome_some, List.getElem?_cons_zero, List.getElem?_cons_succ, List.set_cons_zero, List.set_cons_succ, atI_0, atI_1, atI_2, atI_3, atI_4, atI_5, ixN_0, ixN_1, ixN_2, ixN_3, ixN_4, ixN_5, up_same, List.length_cons, List.length_nil, Bool.not_true, Bool.not_false, Bool.false_eq_true, if_true, if_false, reduceIte, a1, a2]
      subst hN
      refine seq1 fun N hN => ?_; simp only [dIfS, dAndT, dOrT, dNotT, dTest, dTruth, dTru, dAndV, dOrV, dNotV, dIf, dOp, dUn, dVar, dC, dI, dIc, dAdd, dSub, dMul, dFd, dMod, dPow, dNeg, dLt, dLe, dGt, dGe, dIsN, dNotN, DL.isNon, ix_pR0, ix_pR1, ix_tup, ix_lst, ix_ref, dSl, dPart, dNoPart, dCB, len_tup, len_lst, len_ref, dAbs, dList, dTuple, dBls, dSum, dIsi, dIsi2, dtOf, isC, seqOf, lstOf, dCons, dNil, dTup, dLst, dRet, dRetN, dNext, dDrop, dAsg, gN, gsNil, gsCons, gT, gSubD, dSetL, dPar, dAug, dIpAdd, dIpSub, dCall, eq_int, eq_str, eq_bl, ne_int, ne_str, ne_bl, eq_pR, ne_pR, plus_eq, less_eq, times_eq, over_eq, floor_eq, ceil_eq, part_eq, below_eq, seq_pR, pick_nil, pick_p, pick_k, pick_d, dBreak, dCont, dLM, dLM0, isL, dAppend, dInsert, dPop, dPopAt, dRevL, dStr, dFmt, dJs, dMax2, dMin2, dSorted, dNewK, dctOf, dGetK, dHasK, DL.keyOf, dPutK, dDelK, dSortedD, dSet, dLstF, dRevF, dSlF, dListF, dSortedF, dSortedDF, dMaxF, dMinF, dInS, dLtA, dNewT, dGetT, dHasT, dctT, tkOf, keysOf, dTupP, dPutT, dPutP, putTk, pkOf, dSortedTF, dGet1, dGet2, dGet2T, dDisp1, dRep, dInt, dBits, dExtend, dReverse, dMaxDf, dCat, dCatF, dExtL, dDcT, Option.isSome_some, List.getElem?_cons_zero, List.getElem?_cons_succ, List.set_cons_zero, List.set_cons_succ, atI_0, atI_1, atI_2, atI_3, atI_4, atI_5, ixN_0, ixN_1, ixN_2, ixN_3, ixN_4, ixN_5, up_same, List.length_cons, List.length_nil, Bool.not_true, Bool.not_false, Bool.false_eq_true, if_true, if_false, reduceIte, dFor, dRng1, dRng2, dRng3, dSeqI, dEnum, dEnumA, dZip, dLc, dLcF, wipeD]
      refine comp_typed (f := bxR) (fun x => mt ⟨ea, eb, 0, 0⟩ x) (fun x => .int x.hi) True.intro (by omega) (fun x hx N2 acc hacc y1 y2 => ?_) ?_
      · simp only [dIfS, dAndT, dOrT, dNotT, dTest, dTruth, dTru, dAndV, dOrV, dNotV, dIf, dOp, dUn, dVar, dC, dI, dIc, dAdd, dSub, dMul, dFd, dMod, dPow, dNeg, dLt, dLe, dGt, dGe, dIsN, dNotN, DL.isNon, ix_pR0, ix_pR1, ix_tup, ix_lst, ix_ref, dSl, dPart, dNoPart, dCB, len_tup, len_lst, len_ref, dAbs, dList, dTuple, dBls, dSum, dIsi, dIsi2, dtOf, isC, seqOf, lstOf, dCons, dNil, dTup, dLst, dRet, dRetN, dNext, dDrop, dAsg, gN, gsNil, gsCons, gT, gSubD, dSetL, dPar, dAug, dIpAdd, dIpSub, dCall, eq_int, eq_str, eq_bl, ne_int, ne_str, ne_bl, eq_pR, ne_pR, plus_eq, less_eq, times_eq, over_eq, floor_eq, ceil_eq, part_eq, below_eq, seq_pR, pick_nil, pick_p, pick_k, pick_d, dBreak, dCont, dLM, dLM0, isL, dAppend, dInsert, dPop, dPopAt, dRevL, dStr, dFmt, dJs, dMax2, dMin2, dSorted, dNewK, dctOf, dGetK, dHasK, DL.keyOf, dPutK, dDelK, dSortedD, dSet, dLstF, dRevF, dSlF, dListF, dSortedF, dSortedDF, dMaxF, dMinF, dInS, dLtA, dNewT, dGetT, dHasT, dctT, tkOf, keysOf, dTupP, dPutT, dPutP, putTk, pkOf, dSortedTF, dGet1, dGet2, dGet2T, dDisp1, dRep, dInt, dBits, dExtend, dReverse, dMaxDf, dCat, dCatF, dExtL, dDcT, Option.isSome_some, List.getElem?_cons_zero, List.getElem?_cons_succ, List.set_cons_zero, List.set_cons_succ, atI_0, atI_1, atI_2, atI_3, atI_4, atI_5, ixN_0, ixN_1, ixN_2, ixN_3, ixN_4, ixN_5, up_same, List.length_cons, List.length_nil, Bool.not_true, Bool.not_false, Bool.false_eq_true, if_true, if_false, reduceIte]
        refine meetR' (ea, eb) x b1 b2 (by decide) (by decide) (hb x hx) ?_
        cases em : mt ⟨ea, eb, 0, 0⟩ x with
        | true =>
          simp only [dIfS, dAndT, dOrT, dNotT, dTest, dTruth, dTru, dAndV, dOrV, dNotV, dIf, dOp, dUn, dVar, dC, dI, dIc, dAdd, dSub, dMul, dFd, dMod, dPow, dNeg, dLt, dLe, dGt, dGe, dIsN, dNotN, DL.isNon, ix_pR0, ix_pR1, ix_tup, ix_lst, ix_ref, dSl, dPart, dNoPart, dCB, len_tup, len_lst, len_ref, dAbs, dList, dTuple, dBls, dSum, dIsi, dIsi2, dtOf, isC, seqOf, lstOf, dCons, dNil, dTup, dLst, dRet, dRetN, dNext, dDrop, dAsg, gN, gsNil, gsCons, gT, gSubD, dSetL, dPar, dAug, dIpAdd, dIpSub, dCall, eq_int, eq_str, eq_bl, ne_int, ne_str, ne_bl, eq_pR, ne_pR, plus_eq, less_eq, times_eq, over_eq, floor_eq, ceil_eq, part_eq, below_eq, seq_pR, pick_nil, pick_p, pick_k, pick_d, dBreak, dCont, dLM, dLM0, isL, dAppend, dInsert, dPop, dPopAt, dRevL, dStr, dFmt, dJs, dMax2, dMin2, dSorted, dNewK, dctOf, dGetK, dHasK, DL.keyOf, dPutK, dDelK, dSortedD, dSet, dLstF, dRevF, dSlF, dListF, dSortedF, dSortedDF, dMaxF, dMinF, dInS, dLtA, dNewT, dGetT, dHasT, dctT, tkOf, keysOf, dTupP, dPutT, dPutP, putTk, pkOf, dSortedTF, dGet1, dGet2, dGet2T, dDisp1, dRep, dInt, dBits, dExtend, dReverse, dMaxDf, dCat, dCatF, dExtL, dDcT, Option.isSome_some, List.getElem?_cons_zero, List.getElem?_cons_succ, List.set_cons_zero, List.set_cons_succ, atI_0, atI_1, atI_2, atI_3, atI_4, atI_5, ixN_0, ixN_1, ixN_2, ixN_3, ixN_4, ixN_5, up_same, List.length_cons, List.length_nil, Bool.not_true, Bool.not_false, Bool.false_eq_true, if_true, if_false, reduceIte, ix_bx3]
          exact ⟨hacc, y1 em⟩
        | false =>
          simp only [dIfS, dAndT, dOrT, dNotT, dTest, dTruth, dTru, dAndV, dOrV, dNotV, dIf, dOp, dUn, dVar, dC, dI, dIc, dAdd, dSub, dMul, dFd, dMod, dPow, dNeg, dLt, dLe, dGt, dGe, dIsN, dNotN, DL.isNon, ix_pR0, ix_pR1, ix_tup, ix_lst, ix_ref, dSl, dPart, dNoPart, dCB, len_tup, len_lst, len_ref, dAbs, dList, dTuple, dBls, dSum, dIsi, dIsi2, dtOf, isC, seqOf, lstOf, dCons, dNil, dTup, dLst, dRet, dRetN, dNext, dDrop, dAsg, gN, gsNil, gsCons, gT, gSubD, dSetL, dPar, dAug, dIpAdd, dIpSub, dCall, eq_int, eq_str, eq_bl, ne_int, ne_str, ne_bl, eq_pR, ne_pR, plus_eq, less_eq, times_eq, over_eq, floor_eq, ceil_eq, part_eq, below_eq, seq_pR, pick_nil, pick_p, pick_k, pick_d, dBreak, dCont, dLM, dLM0, isL, dAppend, dInsert, dPop, dPopAt, dRevL, dStr, dFmt, dJs, dMax2, dMin2, dSorted, dNewK, dctOf, dGetK, dHasK, DL.keyOf, dPutK, dDelK, dSortedD, dSet, dLstF, dRevF, dSlF, dListF, dSortedF, dSortedDF, dMaxF, dMinF, dInS, dLtA, dNewT, dGetT, dHasT, dctT, tkOf, keysOf, dTupP, dPutT, dPutP, putTk, pkOf, dSortedTF, dGet1, dGet2, dGet2T, dDisp1, dRep, dInt, dBits, dExtend, dReverse, dMaxDf, dCat, dCatF, dExtL, dDcT, Option.isSome_some, List.getElem?_cons_zero, List.getElem?_cons_succ, List.set_cons_zero, List.set_cons_succ, atI_0, atI_1, atI_2, atI_3, atI_4, atI_5, ixN_0, ixN_1, ixN_2, ixN_3, ixN_4, ixN_5, up_same, List.length_cons, List.length_nil, Bool.not_true, Bool.not_false, Bool.false_eq_true, if_true, if_false, reduceIte]
          exact y2 em
      · have et : (bs.filter fun x => mt ⟨ea, eb, 0, 0⟩ x).map (fun x => D.int x.hi) = (tops bs (ea, eb)).map D.int := by unfold tops; rw [List.map_map]; rfl
        rw [et]
        subst hN
        have e0 : ((ea, eb) : Rat × Rat).1 = ea := rfl
        refine seq_by (fun g O' => tops bs (ea, eb) ≠ [] ∧ O' = DL.up O p (.lst (J.map sgD)) ∧ g = [some (.lst (bs.map bxR)), some (.ref p), some (.lst (E.map pR)), some (.int (i : Nat)), some (.tup [pR ea, pR eb]), some (.lst ((tops bs (ea, eb)).map D.int)), x6]) (fun N hN => ?_) ?_
        · simp only [dIfS, dAndT, dOrT, dNotT, dTest, dTruth, dTru, dAndV, dOrV, dNotV, dIf, dOp, dUn, dVar, dC, dI, dIc, dAdd, dSub, dMul, dFd, dMod, dPow, dNeg, dLt, dLe, dGt, dGe, dIsN, dNotN, DL.isNon, ix_pR0, ix_pR1, ix_tup, ix_lst, ix_ref, dSl, dPart, dNoPart, dCB, len_tup, len_lst, len_ref, dAbs, dList, dTuple, dBls, dSum, dIsi, dIsi2, dtOf, isC, seqOf, lstOf, dCons, dNil, dTup, dLst, dRet, dRetN, dNext, dDrop, dAsg, gN, gsNil, gsCons, gT, gSubD, dSetL, dPar, dAug, dIpAdd, dIpSub, dCall, eq_int, eq_str, eq_bl, ne_int, ne_str, ne_bl, eq_pR, ne_pR, plus_eq, less_eq, times_eq, over_eq, floor_eq, ceil_eq, part_eq, below_eq, seq_pR, pick_nil, pick_p, pick_k, pick_d, dBreak, dCont, dLM, dLM0, isL, dAppend, dInsert, dPop, dPopAt, dRevL, dStr, dFmt, dJs, dMax2, dMin2, dSorted, dNewK, dctOf, dGetK, dHasK, DL.keyOf, dPutK, dDelK, dSortedD, dSet, dLstF, dRevF, dSlF, dListF, dSortedF, dSortedDF, dMaxF, dMinF, dInS, dLtA, dNewT, dGetT, dHasT, dctT, tkOf, keysOf, dTupP, dPutT, dPutP, putTk, pkOf, dSortedTF, dGet1, dGet2, dGet2T, dDisp1, dRep, dInt, dBits, dExtend, dReverse, dMaxDf, dCat, dCatF, dExtL, dDcT, Option.isSome_some, List.getElem?_cons_zero, List.getElem?_cons_succ, List.set_cons_zero, List.set_cons_succ, atI_0, atI_1, atI_2, atI_3, atI_4, atI_5, ixN_0, ixN_1, ixN_2, ixN_3, ixN_4, ixN_5, up_same, List.length_cons, List.length_nil, Bool.not_true, Bool.not_false, Bool.false_eq_true, if_true, if_false, reduceIte]
          refine eqN ?_
          by_cases h0 : tops bs (ea, eb) = []
          · have e1 : seg1 bs (ea, eb) = none := by unfold seg1; rw [if_pos h0]
            rw [e1] at hM
            simp only [h0, decide_true, if_true]
            exact hM _ _ ⟨by omega, by rw [Option.toList_none, List.append_nil, joinS_eq], _, _, _, _, rfl⟩
          · simp only [h0, decide_false, Bool.false_eq_true, if_false]
            exact hN _ _ ⟨h0, rfl, rfl⟩
        · rintro _ _ ⟨h0, rfl, rfl⟩
          have e1 : seg1 bs (ea, eb) = some (ea, eb, mxI (tops bs (ea, eb))) := by unfold seg1; rw [if_neg h0]
          rw [e1, Option.toList_some, joinS_snoc, joinS_eq] at hM
          simp only [dIfS, dAndT, dOrT, dNotT, dTest, dTruth, dTru, dAndV, dOrV, dNotV, dIf, dOp, dUn, dVar, dC, dI, dIc, dAdd, dSub, dMul, dFd, dMod, dPow, dNeg, dLt, dLe, dGt, dGe, dIsN, dNotN, DL.isNon, ix_pR0, ix_pR1, ix_tup, ix_lst, ix_ref, dSl, dPart, dNoPart, dCB, len_tup, len_lst, len_ref, dAbs, dList, dTuple, dBls, dSum, dIsi, dIsi2, dtOf, isC, seqOf, lstOf, dCons, dNil, dTup, dLst, dRet, dRetN, dNext, dDrop, dAsg, gN, gsNil, gsCons, gT, gSubD, dSetL, dPar, dAug, dIpAdd, dIpSub, dCall, eq_int, eq_str, eq_bl, ne_int, ne_str, ne_bl, eq_pR, ne_pR, plus_eq, less_eq, times_eq, over_eq, floor_eq, ceil_eq, part_eq, below_eq, seq_pR, pick_nil, pick_p, pick_k, pick_d, dBreak, dCont, dLM, dLM0, isL, dAppend, dInsert, dPop, dPopAt, dRevL, dStr, dFmt, dJs, dMax2, dMin2, dSorted, dNewK, dctOf, dGetK, dHasK, DL.keyOf, dPutK, dDelK, dSortedD, dSet, dLstF, dRevF, dSlF, dListF, dSortedF, dSortedDF, dMaxF, dMinF, dInS, dLtA, dNewT, dGetT, dHasT, dctT, tkOf, keysOf, dTupP, dPutT, dPutP, putTk, pkOf, dSortedTF, dGet1, dGet2, dGet2T, dDisp1, dRep, dInt, dBits, dExtend, dReverse, dMaxDf, dCat, dCatF, dExtL, dDcT, Option.isSome_some, List.getElem?_cons_zero, List.getElem?_cons_succ, List.set_cons_zero, List.set_cons_succ, atI_0, atI_1, atI_2, atI_3, atI_4, atI_5, ixN_0, ixN_1, ixN_2, ixN_3, ixN_4, ixN_5, up_same, List.length_cons, List.length_nil, Bool.not_true, Bool.not_false, Bool.false_eq_true, if_true, if_false, reduceIte]
          refine ne_refnil (n := 2) up_same sgP_seen (by decide) ?_
          rcases nil_or_snoc J with rfl | ⟨J', z, rfl⟩
          · simp only [dIfS, dAndT, dOrT, dNotT, dTest, dTruth, dTru, dAndV, dOrV, dNotV, dIf, dOp, dUn, dVar, dC, dI, dIc, dAdd, dSub, dMul, dFd, dMod, dPow, dNeg, dLt, dLe, dGt, dGe, dIsN, dNotN, DL.isNon, ix_pR0, ix_pR1, ix_tup, ix_lst, ix_ref, dSl, dPart, dNoPart, dCB, len_tup, len_lst, len_ref, dAbs, dList, dTuple, dBls, dSum, dIsi, dIsi2, dtOf, isC, seqOf, lstOf, dCons, dNil, dTup, dLst, dRet, dRetN, dNext, dDrop, dAsg, gN, gsNil, gsCons, gT, gSubD, dSetL, dPar, dAug, dIpAdd, dIpSub, dCall, eq_int, eq_str, eq_bl, ne_int, ne_str, ne_bl, eq_pR, ne_pR, plus_eq, less_eq, times_eq, over_eq, floor_eq, ceil_eq, part_eq, below_eq, seq_pR, pick_nil, pick_p, pick_k, pick_d, dBreak, dCont, dLM, dLM0, isL, dAppend, dInsert, dPop, dPopAt, dRevL, dStr, dFmt, dJs, dMax2, dMin2, dSorted, dNewK, dctOf, dGetK, dHasK, DL.keyOf, dPutK, dDelK, dSortedD, dSet, dLstF, dRevF, dSlF, dListF, dSortedF, dSortedDF, dMaxF, dMinF, dInS, dLtA, dNewT, dGetT, dHasT, dctT, tkOf, keysOf, dTupP, dPutT, dPutP, putTk, pkOf, dSortedTF, dGet1, dGet2, dGet2T, dDisp1, dRep, dInt, dBits, dExtend, dReverse, dMaxDf, dCat, dCatF, dExtL, dDcT, Option.isSome_some, List.getElem?_cons_zero, List.getElem?_cons_succ, List.set_cons_zero, List.set_cons_succ, atI_0, atI_1, atI_2, atI_3, atI_4, atI_5, ixN_0, ixN_1, ixN_2, ixN_3, ixN_4, ixN_5, up_same, List.length_cons, List.length_nil, Bool.not_true, Bool.not_false, Bool.false_eq_true, if_true, if_false, reduceIte, List.map_nil, List.isEmpty_nil, a1, a2, intsOf_map]
            refine ⟨True.intro, h0, by rw [sizeLine_eq]; decide, by rw [sizeLine_eq]; decide, ?_⟩
            rw [up_up]
            exact hM _ _ ⟨by omega, rfl, _, _, _, _, rfl⟩
          · have hemp : ((J' ++ [z]).map sgD).isEmpty = false := by rw [List.map_append]; simp
            have hlast : atI ((J' ++ [z]).map sgD) (-1) = some (sgD z) := by rw [List.map_append]; exact atI_end
            have ez : sgD z = .tup [pR z.1, pR z.2.1, .int z.2.2] := rfl
            have hst : ∀ mx, stepJ (J' ++ [z]) (ea, eb, mx) = if z.2.1 = ea ∧ z.2.2 = mx then (J' ++ [z]).set ((J' ++ [z]).length - 1) (z.1, eb, mx) else (J' ++ [z]) ++ [(ea, eb, mx)] := fun mx => by unfold stepJ; rw [last_at]
            rw [hst] at hM
            have hsl2 : ((J' ++ [z]).map sgD).length ≤ 2000 := by rw [List.length_map]; exact hjl
            simp only [dIfS, dAndT, dOrT, dNotT, dTest, dTruth, dTru, dAndV, dOrV, dNotV, dIf, dOp, dUn, dVar, dC, dI, dIc, dAdd, dSub, dMul, dFd, dMod, dPow, dNeg, dLt, dLe, dGt, dGe, dIsN, dNotN, DL.isNon, ix_pR0, ix_pR1, ix_tup, ix_lst, ix_ref, dSl, dPart, dNoPart, dCB, len_tup, len_lst, len_ref, dAbs, dList, dTuple, dBls, dSum, dIsi, dIsi2, dtOf, isC, seqOf, lstOf, dCons, dNil, dTup, dLst, dRet, dRetN, dNext, dDrop, dAsg, gN, gsNil, gsCons, gT, gSubD, dSetL, dPar, dAug, dIpAdd, dIpSub, dCall, eq_int, eq_str, eq_bl, ne_int, ne_str, ne_bl, eq_pR, ne_pR, plus_eq, less_eq, times_eq, over_eq, floor_eq, ceil_eq, part_eq, below_eq, seq_pR, pick_nil, pick_p, pick_k, pick_d, dBreak, dCont, dLM, dLM0, isL, dAppend, dInsert, dPop, dPopAt, dRevL, dStr, dFmt, dJs, dMax2, dMin2, dSorted, dNewK, dctOf, dGetK, dHasK, DL.keyOf, dPutK, dDelK, dSortedD, dSet, dLstF, dRevF, dSlF, dListF, dSortedF, dSortedDF, dMaxF, dMinF, dInS, dLtA, dNewT, dGetT, dHasT, dctT, tkOf, keysOf, dTupP, dPutT, dPutP, putTk, pkOf, dSortedTF, dGet1, dGet2, dGet2T, dDisp1, dRep, dInt, dBits, dExtend, dReverse, dMaxDf, dCat, dCatF, dExtL, dDcT, Option.isSome_some, List.getElem?_cons_zero, List.getElem?_cons_succ, List.set_cons_zero, List.set_cons_succ, atI_0, atI_1, atI_2, atI_3, atI_4, atI_5, ixN_0, ixN_1, ixN_2, ixN_3, ixN_4, ixN_5, up_same, List.length_cons, List.length_nil, Bool.not_true, Bool.not_false, Bool.false_eq_true, if_true, if_false, reduceIte, hemp, hlast, ez, a1, a2, intsOf_map]
            generalize mxI (tops bs (ea, eb)) = mx at *
            by_cases c1 : z.2.1 = ea
            · simp only [c1, decide_true, if_true]
              refine ⟨h0, ?_⟩
              by_cases c2 : z.2.2 = mx
              · rw [if_pos ⟨c1, c2⟩] at hM
                have hix : ixN ((J' ++ [z]).map sgD).length (-1) = some ((J' ++ [z]).length - 1) := by rw [List.length_map]; exact ixN_end (by rw [List.length_append]; show 0 < J'.length + 1; omega)
                simp only [c2, decide_true, if_true, hix]
                refine ⟨h0, ?_⟩
                rw [up_up]
                exact hM _ _ ⟨by omega, by rw [List.map_set]; rfl, _, _, _, _, rfl⟩
              · rw [if_neg (fun h => c2 h.2)] at hM
                simp only [c2, decide_false, Bool.false_eq_true, if_false]
                refine ⟨True.intro, h0, by rw [sizeLine_eq]; decide, by rw [sizeLine_eq]; omega, ?_⟩
                rw [up_up]
                exact hM _ _ ⟨by omega, by rw [List.map_append (l₁ := J' ++ [z])]; rfl, _, _, _, _, rfl⟩
            · rw [if_neg (fun h => c1 h.1)] at hM
              simp only [c1, decide_false, Bool.false_eq_true, if_false]
              refine ⟨True.intro, h0, by rw [sizeLine_eq]; decide, by rw [sizeLine_eq]; omega, ?_⟩
              rw [up_up]
              exact hM _ _ ⟨by omega, by rw [List.map_append (l₁ := J' ++ [z])]; rfl, _, _, _, _, rfl⟩
    · rintro _ _ ⟨_, rfl, x3, x4, x5, x6, rfl⟩
      rw [rgD_len, List.take_length] at *
      exact hN _ _ ⟨rfl, _, _, _, _, rfl⟩
  · rintro _ _ ⟨rfl, x3, x4, x5, x6, rfl⟩
    simp only [dIfS, dAndT, dOrT, dNotT, dTest, dTruth, dTru, dAndV, dOrV, dNotV, dIf, dOp, dUn, dVar, dC, dI, dIc, dAdd, dSub, dMul, dFd, dMod, dPow, dNeg, dLt, dLe, dGt, dGe, dIsN, dNotN, DL.isNon, ix_pR0, ix_pR1, ix_tup, ix_lst, ix_ref, dSl, dPart, dNoPart, dCB, len_tup, len_lst, len_ref, dAbs, dList, dTuple, dBls, dSum, dIsi, dIsi2, dtOf, isC, seqOf, lstOf, dCons, dNil, dTup, dLst, dRet, dRetN, dNext, dDrop, dAsg, gN, gsNil, gsCons, gT, gSubD, dSetL, dPar, dAug, dIpAdd, dIpSub, dCall, eq_int, eq_str, eq_bl, ne_int, ne_str, ne_bl, eq_pR, ne_pR, plus_eq, less_eq, times_eq, over_eq, floor_eq, ceil_eq, part_eq, below_eq, seq_pR, pick_nil, pick_p, pick_k, pick_d, dBreak, dCont, dLM, dLM0, isL, dAppend, dInsert, dPop, dPopAt, dRevL, dStr, dFmt, dJs, dMax2, dMin2, dSorted, dNewK, dctOf, dGetK, dHasK, DL.keyOf, dPutK, dDelK, dSortedD, dSet, dLstF, dRevF, dSlF, dListF, dSortedF, dSortedDF, dMaxF, dMinF, dInS, dLtA, dNewT, dGetT, dHasT, dctT, tkOf, keysOf, dTupP, dPutT, dPutP, putTk, pkOf, dSortedTF, dGet1, dGet2, dGet2T, dDisp1, dRep, dInt, dBits, dExtend, dReverse, dMaxDf, dCat, dCatF, dExtL, dDcT, Option.isSome_some, List.getElem?_cons_zero, List.getElem?_cons_succ, List.set_cons_zero, List.set_cons_succ, atI_0, atI_1, atI_2, atI_3, atI_4, atI_5, ixN_0, ixN_1, ixN_2, ixN_3, ixN_4, ixN_5, up_same, List.length_cons, List.length_nil, Bool.not_true, Bool.not_false, Bool.false_eq_true, if_true, if_false, reduceIte, dFz]
    refine fz_ref up_same ?_
    rw [del_up hp]
    exact Fin.here k
end Lw
set_option linter.all false
set_option maxRecDepth 100000
set_option maxHeartbeats 1000000
namespace Lw
open PySem PySem.Spec PyProof.Rows L2 DL
open Evl (Ex)
theorem edgs_rev_mem (bs : List Bx) (z : Rat) : z ∈ edgs bs.reverse ↔ z ∈ edgs bs := by unfold edgs; simp [List.mem_flatMap]
theorem srt_congr {xs ys : List Rat} (h : ∀ z, z ∈ xs ↔ z ∈ ys) : srt xs = srt ys := sorted_uniq (srt_lt xs) (srt_lt ys) fun z => by rw [srt_mem, srt_mem]; exact h z
theorem mxI_congr {ns ms : List Int} (h : ∀ z, z ∈ ns ↔ z ∈ ms) (h0 : ns ≠ []) : mxI ns = mxI ms := (mxI_uniq (ns := ms) ((h _).mp (mxI_mem h0)) fun y hy => le_mxI ((h y).mpr hy)).symm
theorem tops_rev (bs : List Bx) (p : Rat × Rat) (z : Int) : z ∈ tops bs.reverse p ↔ z ∈ tops bs p := by unfold tops; simp [List.mem_map, List.mem_filter]
theorem seg1_rev (bs : List Bx) : seg1 bs.reverse = seg1 bs := by
  funext p
  unfold seg1
  have e : tops bs.reverse p = [] ↔ tops bs p = [] := by
    constructor
    · intro h
      refine List.eq_nil_iff_forall_not_mem.mpr fun z hz => ?_
      have := (tops_rev bs p z).mpr hz
      rw [h] at this; cases this
    · intro h
      refine List.eq_nil_iff_forall_not_mem.mpr fun z hz => ?_
      have := (tops_rev bs p z).mp hz
      rw [h] at this; cases this
  by_cases h : tops bs p = []
  · rw [if_pos h, if_pos (e.mpr h)]
  · rw [if_neg h, if_neg (fun z => h (e.mp z)), mxI_congr (tops_rev bs p) (fun z => h (e.mp z))]
theorem outl_rev (bs : List Bx) : outl bs.reverse = outl bs := by
  unfold outl segs
  rw [seg1_rev, srt_congr (edgs_rev_mem bs)]
theorem Sm.sg {O : Om} {n : Nat} {s : Sg} : Sm O (n + 2) (sgD s) (sgD s) := SmAll.tup (.cons Sm.pt (.cons Sm.pt (.cons (Sm.sc rfl) .nil))) (by simp)
theorem outl_len (bs : List Bx) : (outl bs).length ≤ 2 * bs.length := by
  unfold outl
  have h1 := joinS_len (segs bs (prs (srt (edgs bs))))
  have h2 : (segs bs (prs (srt (edgs bs)))).length ≤ (prs (srt (edgs bs))).length := List.length_filterMap_le _ _
  have h3 := prs_len (srt (edgs bs))
  have h4 := srt_len (edgs bs)
  rw [edgs_len] at h4
  omega
def t_law_v38 (tb : Tb) : DS :=
  (dSeq (dSet 1 (dCall sp_law_bag [.p 0] [] (dCons (dVar 0) dNil) dNil))
  (dSeq (dFor (dRng1 (dCons (dC (.int 6)) dNil)) (gN 2) (dSeq (dSet 3 (dCall sp_law_boxes [.p 0, .p 1] [] (dCons (dVar 1) (dCons (dC (.int 8)) dNil)) dNil))
  (dSeq (dSet 4 (dCB dListF (dCons (dVar 3) dNil)))
  (dSeq (dSet 5 (dCall sp_law_outline [.p 0] [] (dCons (dVar 3) dNil) dNil))
  (dSeq (dFor (dRng1 (dCons (dC (.int 2)) dNil)) (gN 6) (dSeq (dSet 7 (dCall (sp_outline tb) [.p 0] [] (dCons (dVar 4) dNil) dNil))
  (dSeq (dIfS (dOrT (dNotT (dTest (dCall sp_law_same [.p 0, .p 1] [] (dCons (dVar 7) (dCons (dVar 5) dNil)) dNil))) (dTest (dOp dNe (dVar 4) (dVar 3)))) (dRet (dC (.bl false))) dNext)
  (dSeq (dDrop (dLM dAppend (dVar 7) (dCons (dC (.int 0)) dNil)))
  (dDrop (dLM0 dReverse (dVar 7)))))))
  (dIfS (dNotT (dTest (dCall sp_law_same [.p 0, .p 1] [] (dCons (dFz (dCall (sp_outline tb) [.k 0] [] dNil (dCons (dRevF (dVar 3)) dNil))) (dCons (dVar 5) dNil)) dNil))) (dRet (dC (.bl false))) dNext))))))
  (dRet (dCall sp_law_same [.p 0, .p 1] [] (dCons (dFz (dCall (sp_outline tb) [.p 0] [] (dCons (dLstF dNil) dNil) dNil)) (dCons (dLstF dNil) dNil)) dNil))))
def n_law_v38 : List Str := ["_law_script", "_law_bag_here", "_law_turn", "_law_piles", "_law_handed", "_law_due", "_law_again", "_law_found"]
def sp_law_v38 (tb : Tb) : DSp := fun xs O R _ => ∃ ns : List Int, xs = [.lst (ns.map D.int)] ∧ ns.length ≤ 63 ∧ O tb.rising = some (.tab qRise) ∧ ∀ O', R (.bl true) O'
theorem end_law_v38 (tb : Tb) : ∀ (ns : List Int) (O : Om) (R : D → Om → Prop) (Z : XD), ns.length ≤ 63 → O tb.rising = some (.tab qRise) → (∀ O', R (.bl true) O') → sp_law_v38 tb [.lst (ns.map D.int)] O R Z := fun ns O R Z hl ht h => ⟨ns, rfl, hl, ht, h⟩
theorem d_law_v38 (tb : Tb) : ∀ xs O R Z, sp_law_v38 tb xs O R Z → t_law_v38 tb (ends R) (startD n_law_v38 xs) O := by
  rintro _ O R Z ⟨ns, rfl, hl, ht, k⟩
  show t_law_v38 tb (ends R) [some (.lst (ns.map D.int)), none, none, none, none, none, none, none] O
  unfold t_law_v38
  refine seq1 fun N hN => ?_; simp only [dIfS, dAndT, dOrT, dNotT, dTest, dTruth, dTru, dAndV, dOrV, dNotV, dIf, dOp, dUn, dVar, dC, dI, dIc, dAdd, dSub, dMul, dFd, dMod, dPow, dNeg, dLt, dLe, dGt, dGe, dEq, dNe, dIsN, dNotN, DL.isNon, dIx, dSl, dPart, dNoPart, dCB, dLen, dAbs, dList, dTuple, dBls, dSum, dIsi, dIsi2, dtOf, isC, seqOf, lstOf, dCons, dNil, dTup, dLst, dRet, dRetN, dNext, dDrop, dAsg, gN, gsNil, gsCons, gT, gSubD, dSetL, dPar, dAug, dIpAdd, dIpSub, dCall, pick_nil, pick_p, pick_k, pick_d, dBreak, dCont, dLM, dLM0, isL, dAppend, dInsert, dPop, dPopAt, dRevL, dStr, dFmt, dJs, dMax2, dMin2, dSorted, dNewK, dctOf, dGetK, dHasK, DL.keyOf, dPutK, dDelK, dSortedD, dSet, dLstF, dRevF, dSlF, dListF, dSortedF, dSortedDF, dMaxF, dMinF, dInS, dLtA, dNewT, dGetT, dHasT, dctT, tkOf, keysOf, dTupP, dPutT, dPutP, putTk, pkOf, dSortedTF, dGet1, dGet2, dGet2T, dDisp1, dRep, dInt, dBits, dExtend, dReverse, dMaxDf, dCat, dCatF, dExtL, dDcT, Option.isSome_some, List.getElem?_cons_zero, List.getElem?_cons_succ, List.set_cons_zero, List.set_cons_succ, atI_0, atI_1, atI_2, atI_3, atI_4, atI_5, ixN_0, ixN_1, ixN_2, ixN_3, ixN_4, ixN_5, up_same, List.length_cons, List.length_nil, Bool.not_true, Bool.not_false, Bool.false_eq_true, if_true, if_false, reduceIte]
  refine ⟨ns, rfl, hl, fun b O1 hb bag s1 => ?_⟩
  subst hN
  have ht1 := s1 _ _ ht
  have hnb : tb.rising ≠ b := fun z => by rw [z, hb] at ht; cases ht
  refine seq_by (fun g O => O tb.rising = some (.tab qRise)) (fun N hN => ?_) ?_
  · refine forC (by decide) (by decide) ?_
    refine loop_all (fun g O => Bag O b ∧ O tb.rising = some (.tab qRise) ∧ ∃ x2 x3 x4 x5 x6 x7, g = [some (.lst (ns.map D.int)), some (.ref b), x2, x3, x4, x5, x6, x7]) ⟨bag, ht1, _, _, _, _, _, _, rfl⟩ (fun _ _ _ => True.intro) ?_ ?_
    · rintro t _ O2 M hx ⟨bag2, ht2, x2, x3, x4, x5, x6, x7, rfl⟩ hM
      simp only [gN, List.set_cons_succ, List.set_cons_zero]
      refine seq1 fun N hN => ?_; simp only [dIfS, dAndT, dOrT, dNotT, dTest, dTruth, dTru, dAndV, dOrV, dNotV, dIf, dOp, dUn, dVar, dC, dI, dIc, dAdd, dSub, dMul, dFd, dMod, dPow, dNeg, dLt, dLe, dGt, dGe, dIsN, dNotN, DL.isNon, ix_pR0, ix_pR1, ix_tup, ix_lst, ix_ref, dSl, dPart, dNoPart, dCB, len_tup, len_lst, len_ref, dAbs, dList, dTuple, dBls, dSum, dIsi, dIsi2, dtOf, isC, seqOf, lstOf, dCons, dNil, dTup, dLst, dRet, dRetN, dNext, dDrop, dAsg, gN, gsNil, gsCons, gT, gSubD, dSetL, dPar, dAug, dIpAdd, dIpSub, dCall, eq_int, eq_str, eq_bl, ne_int, ne_str, ne_bl, eq_pR, ne_pR, plus_eq, less_eq, times_eq, over_eq, floor_eq, ceil_eq, part_eq, below_eq, seq_pR, pick_nil, pick_p, pick_k, pick_d, dBreak, dCont, dLM, dLM0, isL, dAppend, dInsert, dPop, dPopAt, dRevL, dStr, dFmt, dJs, dMax2, dMin2, dSorted, dNewK, dctOf, dGetK, dHasK, DL.keyOf, dPutK, dDelK, dSortedD, dSet, dLstF, dRevF, dSlF, dListF, dSortedF, dSortedDF, dMaxF, dMinF, dInS, dLtA, dNewT, dGetT, dHasT, dctT, tkOf, keysOf, dTupP, dPutT, dPutP, putTk, pkOf, dSortedTF, dGet1, dGet2, dGet2T, dDisp1, dRep, dInt, dBits, dExtend, dReverse, dMaxDf, dCat, dCatF, dExtL, dDcT, Option.isSome_some, List.getElem?_cons_zero, List.getElem?_cons_succ, List.set_cons_zero, List.set_cons_succ, atI_0, atI_1, atI_2, atI_3, atI_4, atI_5, ixN_0, ixN_1, ixN_2, ixN_3, ixN_4, ixN_5, up_same, List.length_cons, List.length_nil, Bool.not_true, Bool.not_false, Bool.false_eq_true, if_true, if_false, reduceIte]
      refine ⟨b, 8, rfl, by decide, by decide, bag2, fun bs O3 hbs lbs s3 => ?_⟩
      have ht3 := s3.2 _ _ hnb ht2
      have bag3 := s3.1
      subst hN
      refine seq1 fun N hN => ?_; simp only [dIfS, dAndT, dOrT, dNotT, dTest, dTruth, dTru, dAndV, dOrV, dNotV, dIf, dOp, dUn, dVar, dC, dI, dIc, dAdd, dSub, dMul, dFd, dMod, dPow, dNeg, dLt, dLe, dGt, dGe, dIsN, dNotN, DL.isNon, ix_pR0, ix_pR1, ix_tup, ix_lst, ix_ref, dSl, dPart, dNoPart, dCB, len_tup, len_lst, len_ref, dAbs, dList, dTuple, dBls, dSum, dIsi, dIsi2, dtOf, isC, seqOf, lstOf, dCons, dNil, dTup, dLst, dRet, dRetN, dNext, dDrop, dAsg, gN, gsNil, gsCons, gT, gSubD, dSetL, dPar, dAug, dIpAdd, dIpSub, dCall, eq_int, eq_str, eq_bl, ne_int, ne_str, ne_bl, eq_pR, ne_pR, plus_eq, less_eq, times_eq, over_eq, floor_eq, ceil_eq, part_eq, below_eq, seq_pR, pick_nil, pick_p, pick_k, pick_d, dBreak, dCont, dLM, dLM0, isL, dAppend, dInsert, dPop, dPopAt, dRevL, dStr, dFmt, dJs, dMax2, dMin2, dSorted, dNewK, dctOf, dGetK, dHasK, DL.keyOf, dPutK, dDelK, dSortedD, dSet, dLstF, dRevF, dSlF, dListF, dSortedF, dSortedDF, dMaxF, dMinF, dInS, dLtA, dNewT, dGetT, dHasT, dctT, tkOf, keysOf, dTupP, dPutT, dPutP, putTk, pkOf, dSortedTF, dGet1, dGet2, dGet2T, dDisp1, dRep, dInt, dBits, dExtend, dReverse, dMaxDf, dCat, dCatF, dExtL, dDcT, Option.isSome_some, List.getElem?_cons_zero, List.getElem?_cons_succ, List.set_cons_zero, List.set_cons_succ, atI_0, atI_1, atI_2, atI_3, atI_4, atI_5, ixN_0, ixN_1, ixN_2, ixN_3, ixN_4, ixN_5, up_same, List.length_cons, List.length_nil, Bool.not_true, Bool.not_false, Bool.false_eq_true, if_true, if_false, reduceIte]
      subst hN
      refine seq1 fun N hN => ?_; simp only [dIfS, dAndT, dOrT, dNotT, dTest, dTruth, dTru, dAndV, dOrV, dNotV, dIf, dOp, dUn, dVar, dC, dI, dIc, dAdd, dSub, dMul, dFd, dMod, dPow, dNeg, dLt, dLe, dGt, dGe, dIsN, dNotN, DL.isNon, ix_pR0, ix_pR1, ix_tup, ix_lst, ix_ref, dSl, dPart, dNoPart, dCB, len_tup, len_lst, len_ref, dAbs, dList, dTuple, dBls, dSum, dIsi, dIsi2, dtOf, isC, seqOf, lstOf, dCons, dNil, dTup, dLst, dRet, dRetN, dNext, dDrop, dAsg, gN, gsNil, gsCons, gT, gSubD, dSetL, dPar, dAug, dIpAdd, dIpSub, dCall, eq_int, eq_str, eq_bl, ne_int, ne_str, ne_bl, eq_pR, ne_pR, plus_eq, less_eq, times_eq, over_eq, floor_eq, ceil_eq, part_eq, below_eq, seq_pR, pick_nil, pick_p, pick_k, pick_d, dBreak, dCont, dLM, dLM0, isL, dAppend, dInsert, dPop, dPopAt, dRevL, dStr, dFmt, dJs, dMax2, dMin2, dSorted, dNewK, dctOf, dGetK, dHasK, DL.keyOf, dPutK, dDelK, dSortedD, dSet, dLstF, dRevF, dSlF, dListF, dSortedF, dSortedDF, dMaxF, dMinF, dInS, dLtA, dNewT, dGetT, dHasT, dctT, tkOf, keysOf, dTupP, dPutT, dPutP, putTk, pkOf, dSortedTF, dGet1, dGet2, dGet2T, dDisp1, dRep, dInt, dBits, dExtend, dReverse, dMaxDf, dCat, dCatF, dExtL, dDcT, Option.isSome_some, List.getElem?_cons_zero, List.getElem?_cons_succ, List.set_cons_zero, List.set_cons_succ, atI_0, atI_1, atI_2, atI_3, atI_4, atI_5, ixN_0, ixN_1, ixN_2, ixN_3, ixN_4, ixN_5, up_same, List.length_cons, List.length_nil, Bool.not_true, Bool.not_false, Bool.false_eq_true, if_true, if_false, reduceIte]
      refine ⟨bs, rfl, fun x hx => (hbs x hx).ge, by omega, ?_⟩
      subst hN
      have hol := outl_len bs
      have hor := outl_rev bs
      refine seq_by (fun g O' => O' tb.rising = some (.tab qRise) ∧ Bag O' b ∧ ∃ x6 x7, g = [some (.lst (ns.map D.int)), some (.ref b), some t, some (.lst (bs.map bxR)), some (.lst (bs.map bxR)), some (.lst ((outl bs).map sgD)), x6, x7]) (fun N hN => ?_) ?_
      · refine forC (by decide) (by decide) ?_
        refine loop_all (fun g O' => O' tb.rising = some (.tab qRise) ∧ Bag O' b ∧ ∃ x6 x7, g = [some (.lst (ns.map D.int)), some (.ref b), some t, some (.lst (bs.map bxR)), some (.lst (bs.map bxR)), some (.lst ((outl bs).map sgD)), x6, x7]) ⟨ht3, bag3, _, _, rfl⟩ (fun _ _ _ => True.intro) ?_ ?_
        · rintro a _ O4 M2 hx2 ⟨ht4, bag4, x6, x7, rfl⟩ hM2
          simp only [gN, List.set_cons_succ, List.set_cons_zero]
          refine seq1 fun N hN => ?_; simp only [dIfS, dAndT, dOrT, dNotT, dTest, dTruth, dTru, dAndV, dOrV, dNotV, dIf, dOp, dUn, dVar, dC, dI, dIc, dAdd, dSub, dMul, dFd, dMod, dPow, dNeg, dLt, dLe, dGt, dGe, dIsN, dNotN, DL.isNon, ix_pR0, ix_pR1, ix_tup, ix_lst, ix_ref, dSl, dPart, dNoPart, dCB, len_tup, len_lst, len_ref, dAbs, dList, dTuple, dBls, dSum, dIsi, dIsi2, dtOf, isC, seqOf, lstOf, dCons, dNil, dTup, dLst, dRet, dRetN, dNext, dDrop, dAsg, gN, gsNil, gsCons, gT, gSubD, dSetL, dPar, dAug, dIpAdd, dIpSub, dCall, eq_int, eq_str, eq_bl, ne_int, ne_str, ne_bl, eq_pR, ne_pR, plus_eq, less_eq, times_eq, over_eq, floor_eq, ceil_eq, part_eq, below_eq, seq_pR, pick_nil, pick_p, pick_k, pick_d, dBreak, dCont, dLM, dLM0, isL, dAppend, dInsert, dPop, dPopAt, dRevL, dStr, dFmt, dJs, dMax2, dMin2, dSorted, dNewK, dctOf, dGetK, dHasK, DL.keyOf, dPutK, dDelK, dSortedD, dSet, dLstF, dRevF, dSlF, dListF, dSortedF, dSortedDF, dMaxF, dMinF, dInS, dLtA, dNewT, dGetT, dHasT, dctT, tkOf, keysOf, dTupP, dPutT, dPutP, putTk, pkOf, dSortedTF, dGet1, dGet2, dGet2T, dDisp1, dRep, dInt, dBits, dExtend, dReverse, dMaxDf, dCat, dCatF, dExtL, dDcT, Option.isSome_some, List.getElem?_cons_zero, List.getElem?_cons_succ, List.set_cons_zero, List.set_cons_succ, atI_0, atI_1, atI_2, atI_3, atI_4, atI_5, ixN_0, ixN_1, ixN_2, ixN_3, ixN_4, ixN_5, up_same, List.length_cons, List.length_nil, Bool.not_true, Bool.not_false, Bool.false_eq_true, if_true, if_false, reduceIte]
          refine ⟨bs, rfl, fun x hx => (hbs x hx).ge, by omega, ht4, fun q hq => ?_⟩
          subst hN
          have hqr : tb.rising ≠ q := fun z => by rw [z, hq] at ht4; cases ht4
          refine seq_by (fun g O' => O' = DL.up O4 q (.lst ((outl bs).map sgD)) ∧ g = [some (.lst (ns.map D.int)), some (.ref b), some t, some (.lst (bs.map bxR)), some (.lst (bs.map bxR)), some (.lst ((outl bs).map sgD)), some a, some (.ref q)]) (fun N hN => ?_) ?_
          · simp only [dIfS, dAndT, dOrT, dNotT, dTest, dTruth, dTru, dAndV, dOrV, dNotV, dIf, dOp, dUn, dVar, dC, dI, dIc, dAdd, dSub, dMul, dFd, dMod, dPow, dNeg, dLt, dLe, dGt, dGe, dIsN, dNotN, DL.isNon, ix_pR0, ix_pR1, ix_tup, ix_lst, ix_ref, dSl, dPart, dNoPart, dCB, len_tup, len_lst, len_ref, dAbs, dList, dTuple, dBls, dSum, dIsi, dIsi2, dtOf, isC, seqOf, lstOf, dCons, dNil, dTup, dLst, dRet, dRetN, dNext, dDrop, dAsg, gN, gsNil, gsCons, gT, gSubD, dSetL, dPar, dAug, dIpAdd, dIpSub, dCall, eq_int, eq_str, eq_bl, ne_int, ne_str, ne_bl, eq_pR, ne_pR, plus_eq, less_eq, times_eq, over_eq, floor_eq, ceil_eq, part_eq, below_eq, seq_pR, pick_nil, pick_p, pick_k, pick_d, dBreak, dCont, dLM, dLM0, isL, dAppend, dInsert, dPop, dPopAt, dRevL, dStr, dFmt, dJs, dMax2, dMin2, dSorted, dNewK, dctOf, dGetK, dHasK, DL.keyOf, dPutK, dDelK, dSortedD, dSet, dLstF, dRevF, dSlF, dListF, dSortedF, dSortedDF, dMaxF, dMinF, dInS, dLtA, dNewT, dGetT, dHasT, dctT, tkOf, keysOf, dTupP, dPutT, dPutP, putTk, pkOf, dSortedTF, dGet1, dGet2, dGet2T, dDisp1, dRep, dInt, dBits, dExtend, dReverse, dMaxDf, dCat, dCatF, dExtL, dDcT, Option.isSome_some, List.getElem?_cons_zero, List.getElem?_cons_succ, List.set_cons_zero, List.set_cons_succ, atI_0, atI_1, atI_2, atI_3, atI_4, atI_5, ixN_0, ixN_1, ixN_2, ixN_3, ixN_4, ixN_5, up_same, List.length_cons, List.length_nil, Bool.not_true, Bool.not_false, Bool.false_eq_true, if_true, if_false, reduceIte]
            refine same_of (.inr (.inl ⟨(outl bs).map sgD, (outl bs).map sgD, lst_ref up_same, rfl, rfl, by rw [List.length_map]; omega, (SmAll.map fun s _ => Sm.sg).get⟩)) ?_
            simp only [dIfS, dAndT, dOrT, dNotT, dTest, dTruth, dTru, dAndV, dOrV, dNotV, dIf, dOp, dUn, dVar, dC, dI, dIc, dAdd, dSub, dMul, dFd, dMod, dPow, dNeg, dLt, dLe, dGt, dGe, dIsN, dNotN, DL.isNon, ix_pR0, ix_pR1, ix_tup, ix_lst, ix_ref, dSl, dPart, dNoPart, dCB, len_tup, len_lst, len_ref, dAbs, dList, dTuple, dBls, dSum, dIsi, dIsi2, dtOf, isC, seqOf, lstOf, dCons, dNil, dTup, dLst, dRet, dRetN, dNext, dDrop, dAsg, gN, gsNil, gsCons, gT, gSubD, dSetL, dPar, dAug, dIpAdd, dIpSub, dCall, eq_int, eq_str, eq_bl, ne_int, ne_str, ne_bl, eq_pR, ne_pR, plus_eq, less_eq, times_eq, over_eq, floor_eq, ceil_eq, part_eq, below_eq, seq_pR, pick_nil, pick_p, pick_k, pick_d, dBreak, dCont, dLM, dLM0, isL, dAppend, dInsert, dPop, dPopAt, dRevL, dStr, dFmt, dJs, dMax2, dMin2, dSorted, dNewK, dctOf, dGetK, dHasK, DL.keyOf, dPutK, dDelK, dSortedD, dSet, dLstF, dRevF, dSlF, dListF, dSortedF, dSortedDF, dMaxF, dMinF, dInS, dLtA, dNewT, dGetT, dHasT, dctT, tkOf, keysOf, dTupP, dPutT, dPutP, putTk, pkOf, dSortedTF, dGet1, dGet2, dGet2T, dDisp1, dRep, dInt, dBits, dExtend, dReverse, dMaxDf, dCat, dCatF, dExtL, dDcT, Option.isSome_some, List.getElem?_cons_zero, List.getElem?_cons_succ, List.set_cons_zero, List.set_cons_succ, atI_0, atI_1, atI_2, atI_3, atI_4, atI_5, ixN_0, ixN_1, ixN_2, ixN_3, ixN_4, ixN_5, up_same, List.length_cons, List.length_nil, Bool.not_true, Bool.not_false, Bool.false_eq_true, if_true, if_false, reduceIte]
            refine Seen.neL (n := 2) (seen_bxs bs) (by decide) ?_
            simp only [dIfS, dAndT, dOrT, dNotT, dTest, dTruth, dTru, dAndV, dOrV, dNotV, dIf, dOp, dUn, dVar, dC, dI, dIc, dAdd, dSub, dMul, dFd, dMod, dPow, dNeg, dLt, dLe, dGt, dGe, dIsN, dNotN, DL.isNon, ix_pR0, ix_pR1, ix_tup, ix_lst, ix_ref, dSl, dPart, dNoPart, dCB, len_tup, len_lst, len_ref, dAbs, dList, dTuple, dBls, dSum, dIsi, dIsi2, dtOf, isC, seqOf, lstOf, dCons, dNil, dTup, dLst, dRet, dRetN, dNext, dDrop, dAsg, gN, gsNil, gsCons, gT, gSubD, dSetL, dPar, dAug, dIpAdd, dIpSub, dCall, eq_int, eq_str, eq_bl, ne_int, ne_str, ne_bl, eq_pR, ne_pR, plus_eq, less_eq, times_eq, over_eq, floor_eq, ceil_eq, part_eq, below_eq, seq_pR, pick_nil, pick_p, pick_k, pick_d, dBreak, dCont, dLM, dLM0, isL, dAppend, dInsert, dPop, dPopAt, dRevL, dStr, dFmt, dJs, dMax2, dMin2, dSorted, dNewK, dctOf, dGetK, dHasK, DL.keyOf, dPutK, dDelK, dSortedD, dSet, dLstF, dRevF, dSlF, dListF, dSortedF, dSortedDF, dMaxF, dMinF, dInS, dLtA, dNewT, dGetT, dHasT, dctT, tkOf, keysOf, dTupP, dPutT, dPutP, putTk, pkOf, dSortedTF, dGet1, dGet2, dGet2T, dDisp1, dRep, dInt, dBits, dExtend, dReverse, dMaxDf, dCat, dCatF, dExtL, dDcT, Option.isSome_some, List.getElem?_cons_zero, List.getElem?_cons_succ, List.set_cons_zero, List.set_cons_succ, atI_0, atI_1, atI_2, atI_3, atI_4, atI_5, ixN_0, ixN_1, ixN_2, ixN_3, ixN_4, ixN_5, up_same, List.length_cons, List.length_nil, Bool.not_true, Bool.not_false, Bool.false_eq_true, if_true, if_false, reduceIte]
            exact hN _ _ ⟨rfl, rfl⟩
          rintro _ _ ⟨rfl, rfl⟩
          refine seq1 fun N hN => ?_; simp only [dIfS, dAndT, dOrT, dNotT, dTest, dTruth, dTru, dAndV, dOrV, dNotV, dIf, dOp, dUn, dVar, dC, dI, dIc, dAdd, dSub, dMul, dFd, dMod, dPow, dNeg, dLt, dLe, dGt, dGe, dIsN, dNotN, DL.isNon, ix_pR0, ix_pR1, ix_tup, ix_lst, ix_ref, dSl, dPart, dNoPart, dCB, len_tup, len_lst, len_ref, dAbs, dList, dTuple, dBls, dSum, dIsi, dIsi2, dtOf, isC, seqOf, lstOf, dCons, dNil, dTup, dLst, dRet, dRetN, dNext, dDrop, dAsg, gN, gsNil, gsCons, gT, gSubD, dSetL, dPar, dAug, dIpAdd, dIpSub, dCall, eq_int, eq_str, eq_bl, ne_int, ne_str, ne_bl, eq_pR, ne_pR, plus_eq, less_eq, times_eq, over_eq, floor_eq, ceil_eq, part_eq, below_eq, seq_pR, pick_nil, pick_p, pick_k, pick_d, dBreak, dCont, dLM, dLM0, isL, dAppend, dInsert, dPop, dPopAt, dRevL, dStr, dFmt, dJs, dMax2, dMin2, dSorted, dNewK, dctOf, dGetK, dHasK, DL.keyOf, dPutK, dDelK, dSortedD, dSet, dLstF, dRevF, dSlF, dListF, dSortedF, dSortedDF, dMaxF, dMinF, dInS, dLtA, dNewT, dGetT, dHasT, dctT, tkOf, keysOf, dTupP, dPutT, dPutP, putTk, pkOf, dSortedTF, dGet1, dGet2, dGet2T, dDisp1, dRep, dInt, dBits, dExtend, dReverse, dMaxDf, dCat, dCatF, dExtL, dDcT, Option.isSome_some, List.getElem?_cons_zero, List.getElem?_cons_succ, List.set_cons_zero, List.set_cons_succ, atI_0, atI_1, atI_2, atI_3, atI_4, atI_5, ixN_0, ixN_1, ixN_2, ixN_3, ixN_4, ixN_5, up_same, List.length_cons, List.length_nil, Bool.not_true, Bool.not_false, Bool.false_eq_true, if_true, if_false, reduceIte]
          refine ⟨True.intro, by rw [List.length_map, sizeLine_eq]; omega, ?_⟩
          subst hN
          simp only [dIfS, dAndT, dOrT, dNotT, dTest, dTruth, dTru, dAndV, dOrV, dNotV, dIf, dOp, dUn, dVar, dC, dI, dIc, dAdd, dSub, dMul, dFd, dMod, dPow, dNeg, dLt, dLe, dGt, dGe, dIsN, dNotN, DL.isNon, ix_pR0, ix_pR1, ix_tup, ix_lst, ix_ref, dSl, dPart, dNoPart, dCB, len_tup, len_lst, len_ref, dAbs, dList, dTuple, dBls, dSum, dIsi, dIsi2, dtOf, isC, seqOf, lstOf, dCons, dNil, dTup, dLst, dRet, dRetN, dNext, dDrop, dAsg, gN, gsNil, gsCons, gT, gSubD, dSetL, dPar, dAug, dIpAdd, dIpSub, dCall, eq_int, eq_str, eq_bl, ne_int, ne_str, ne_bl, eq_pR, ne_pR, plus_eq, less_eq, times_eq, over_eq, floor_eq, ceil_eq, part_eq, below_eq, seq_pR, pick_nil, pick_p, pick_k, pick_d, dBreak, dCont, dLM, dLM0, isL, dAppend, dInsert, dPop, dPopAt, dRevL, dStr, dFmt, dJs, dMax2, dMin2, dSorted, dNewK, dctOf, dGetK, dHasK, DL.keyOf, dPutK, dDelK, dSortedD, dSet, dLstF, dRevF, dSlF, dListF, dSortedF, dSortedDF, dMaxF, dMinF, dInS, dLtA, dNewT, dGetT, dHasT, dctT, tkOf, keysOf, dTupP, dPutT, dPutP, putTk, pkOf, dSortedTF, dGet1, dGet2, dGet2T, dDisp1, dRep, dInt, dBits, dExtend, dReverse, dMaxDf, dCat, dCatF, dExtL, dDcT, Option.isSome_some, List.getElem?_cons_zero, List.getElem?_cons_succ, List.set_cons_zero, List.set_cons_succ, atI_0, atI_1, atI_2, atI_3, atI_4, atI_5, ixN_0, ixN_1, ixN_2, ixN_3, ixN_4, ixN_5, up_same, List.length_cons, List.length_nil, Bool.not_true, Bool.not_false, Bool.false_eq_true, if_true, if_false, reduceIte]
          rw [up_up, up_up]
          refine ⟨True.intro, hM2 _ _ ⟨?_, ?_, _, _, rfl⟩⟩
          · rw [up_ne hqr]; exact ht4
          · exact bag4.up hq
        · rintro _ O4 ⟨ht4, bag4, x6, x7, rfl⟩
          exact hN _ _ ⟨ht4, bag4, _, _, rfl⟩
      rintro _ O4 ⟨ht4, bag4, x6, x7, rfl⟩
      have er : (bs.map bxR).reverse = bs.reverse.map bxR := by rw [List.map_reverse]
      simp only [dIfS, dAndT, dOrT, dNotT, dTest, dTruth, dTru, dAndV, dOrV, dNotV, dIf, dOp, dUn, dVar, dC, dI, dIc, dAdd, dSub, dMul, dFd, dMod, dPow, dNeg, dLt, dLe, dGt, dGe, dIsN, dNotN, DL.isNon, ix_pR0, ix_pR1, ix_tup, ix_lst, ix_ref, dSl, dPart, dNoPart, dCB, len_tup, len_lst, len_ref, dAbs, dList, dTuple, dBls, dSum, dIsi, dIsi2, dtOf, isC, seqOf, lstOf, dCons, dNil, dTup, dLst, dRet, dRetN, dNext, dDrop, dAsg, gN, gsNil, gsCons, gT, gSubD, dSetL, dPar, dAug, dIpAdd, dIpSub, dCall, eq_int, eq_str, eq_bl, ne_int, ne_str, ne_bl, eq_pR, ne_pR, plus_eq, less_eq, times_eq, over_eq, floor_eq, ceil_eq, part_eq, below_eq, seq_pR, pick_nil, pick_p, pick_k, pick_d, dBreak, dCont, dLM, dLM0, isL, dAppend, dInsert, dPop, dPopAt, dRevL, dStr, dFmt, dJs, dMax2, dMin2, dSorted, dNewK, dctOf, dGetK, dHasK, DL.keyOf, dPutK, dDelK, dSortedD, dSet, dLstF, dRevF, dSlF, dListF, dSortedF, dSortedDF, dMaxF, dMinF, dInS, dLtA, dNewT, dGetT, dHasT, dctT, tkOf, keysOf, dTupP, dPutT, dPutP, putTk, pkOf, dSortedTF, dGet1, dGet2, dGet2T, dDisp1, dRep, dInt, dBits, dExtend, dReverse, dMaxDf, dCat, dCatF, dExtL, dDcT, Option.isSome_some, List.getElem?_cons_zero, List.getElem?_cons_succ, List.set_cons_zero, List.set_cons_succ, atI_0, atI_1, atI_2, atI_3, atI_4, atI_5, ixN_0, ixN_1, ixN_2, ixN_3, ixN_4, ixN_5, up_same, List.length_cons, List.length_nil, Bool.not_true, Bool.not_false, Bool.false_eq_true, if_true, if_false, reduceIte, dFz, er]
      refine ⟨bs.reverse, rfl, fun x hx => (hbs x (List.mem_reverse.mp hx)).ge, by rw [List.length_reverse]; omega, ht4, fun q hq => ?_⟩
      rw [hor]
      refine fz_ref up_same ?_
      rw [del_up hq]
      refine same_of (.inr (.inl ⟨(outl bs).map sgD, (outl bs).map sgD, rfl, rfl, rfl, by rw [List.length_map]; omega, (SmAll.map fun s _ => Sm.sg).get⟩)) ?_
      simp only [dIfS, dAndT, dOrT, dNotT, dTest, dTruth, dTru, dAndV, dOrV, dNotV, dIf, dOp, dUn, dVar, dC, dI, dIc, dAdd, dSub, dMul, dFd, dMod, dPow, dNeg, dLt, dLe, dGt, dGe, dIsN, dNotN, DL.isNon, ix_pR0, ix_pR1, ix_tup, ix_lst, ix_ref, dSl, dPart, dNoPart, dCB, len_tup, len_lst, len_ref, dAbs, dList, dTuple, dBls, dSum, dIsi, dIsi2, dtOf, isC, seqOf, lstOf, dCons, dNil, dTup, dLst, dRet, dRetN, dNext, dDrop, dAsg, gN, gsNil, gsCons, gT, gSubD, dSetL, dPar, dAug, dIpAdd, dIpSub, dCall, eq_int, eq_str, eq_bl, ne_int, ne_str, ne_bl, eq_pR, ne_pR, plus_eq, less_eq, times_eq, over_eq, floor_eq, ceil_eq, part_eq, below_eq, seq_pR, pick_nil, pick_p, pick_k, pick_d, dBreak, dCont, dLM, dLM0, isL, dAppend, dInsert, dPop, dPopAt, dRevL, dStr, dFmt, dJs, dMax2, dMin2, dSorted, dNewK, dctOf, dGetK, dHasK, DL.keyOf, dPutK, dDelK, dSortedD, dSet, dLstF, dRevF, dSlF, dListF, dSortedF, dSortedDF, dMaxF, dMinF, dInS, dLtA, dNewT, dGetT, dHasT, dctT, tkOf, keysOf, dTupP, dPutT, dPutP, putTk, pkOf, dSortedTF, dGet1, dGet2, dGet2T, dDisp1, dRep, dInt, dBits, dExtend, dReverse, dMaxDf, dCat, dCatF, dExtL, dDcT, Option.isSome_some, List.getElem?_cons_zero, List.getElem?_cons_succ, List.set_cons_zero, List.set_cons_succ, atI_0, atI_1, atI_2, atI_3, atI_4, atI_5, ixN_0, ixN_1, ixN_2, ixN_3, ixN_4, ixN_5, up_same, List.length_cons, List.length_nil, Bool.not_true, Bool.not_false, Bool.false_eq_true, if_true, if_false, reduceIte]
      exact hM _ _ ⟨bag4, ht4, _, _, _, _, _, _, rfl⟩
    · rintro _ O2 ⟨bag2, ht2, x2, x3, x4, x5, x6, x7, rfl⟩
      exact hN _ _ ht2
  · rintro g O2 ht2
    simp only [dIfS, dAndT, dOrT, dNotT, dTest, dTruth, dTru, dAndV, dOrV, dNotV, dIf, dOp, dUn, dVar, dC, dI, dIc, dAdd, dSub, dMul, dFd, dMod, dPow, dNeg, dLt, dLe, dGt, dGe, dIsN, dNotN, DL.isNon, ix_pR0, ix_pR1, ix_tup, ix_lst, ix_ref, dSl, dPart, dNoPart, dCB, len_tup, len_lst, len_ref, dAbs, dList, dTuple, dBls, dSum, dIsi, dIsi2, dtOf, isC, seqOf, lstOf, dCons, dNil, dTup, dLst, dRet, dRetN, dNext, dDrop, dAsg, gN, gsNil, gsCons, gT, gSubD, dSetL, dPar, dAug, dIpAdd, dIpSub, dCall, eq_int, eq_str, eq_bl, ne_int, ne_str, ne_bl, eq_pR, ne_pR, plus_eq, less_eq, times_eq, over_eq, floor_eq, ceil_eq, part_eq, below_eq, seq_pR, pick_nil, pick_p, pick_k, pick_d, dBreak, dCont, dLM, dLM0, isL, dAppend, dInsert, dPop, dPopAt, dRevL, dStr, dFmt, dJs, dMax2, dMin2, dSorted, dNewK, dctOf, dGetK, dHasK, DL.keyOf, dPutK, dDelK, dSortedD, dSet, dLstF, dRevF, dSlF, dListF, dSortedF, dSortedDF, dMaxF, dMinF, dInS, dLtA, dNewT, dGetT, dHasT, dctT, tkOf, keysOf, dTupP, dPutT, dPutP, putTk, pkOf, dSortedTF, dGet1, dGet2, dGet2T, dDisp1, dRep, dInt, dBits, dExtend, dReverse, dMaxDf, dCat, dCatF, dExtL, dDcT, Option.isSome_some, List.getElem?_cons_zero, List.getElem?_cons_succ, List.set_cons_zero, List.set_cons_succ, atI_0, atI_1, atI_2, atI_3, atI_4, atI_5, ixN_0, ixN_1, ixN_2, ixN_3, ixN_4, ixN_5, up_same, List.length_cons, List.length_nil, Bool.not_true, Bool.not_false, Bool.false_eq_true, if_true, if_false, reduceIte, dFz]
    refine ⟨[], rfl, fun x h => by simp at h, by simp, ht2, fun q hq => ?_⟩
    have e0 : outl [] = [] := List.length_eq_zero_iff.mp (Nat.le_zero.mp (outl_len []))
    rw [e0]
    refine fz_ref up_same ?_
    rw [del_up hq]
    exact same_of (.inr (.inl ⟨[], [], rfl, rfl, rfl, by simp, fun i a b h => by simp at h⟩)) (Fin.here (k _))
end Lw
set_option linter.all false
set_option maxRecDepth 100000
set_option maxHeartbeats 1000000
namespace Lw
open PySem PySem.Spec PyProof.Rows L2 DL
open Evl (Ex)
/-! ### neighbours in a rising row -/
theorem prs_cons (a b : Rat) (r : List Rat) : prs (a :: b :: r) = (a, b) :: prs (b :: r) := rfl
theorem prs_ok : ∀ {E : List Rat}, E.Pairwise (· < ·) → (prs E).Pairwise (fun p q => p.2 ≤ q.1) ∧ ∀ p ∈ prs E, p.1 < p.2
  | [], _ => ⟨List.Pairwise.nil, fun p h => by cases h⟩
  | [_], _ => ⟨List.Pairwise.nil, fun p h => by cases h⟩
  | a :: b :: r, h => by
    rw [List.pairwise_cons] at h
    obtain ⟨i1, i2⟩ := prs_ok h.2
    rw [prs_cons]
    refine ⟨?_, fun p hp => ?_⟩
    · rw [List.pairwise_cons]
      refine ⟨fun q hq => ?_, i1⟩
      have hm := (prs_mem hq).1
      rcases List.mem_cons.mp hm with e | e
      · show b ≤ q.1; rw [e]; exact Rat.le_refl
      · rw [List.pairwise_cons] at h
        exact Rat.le_of_lt (h.2.1 _ e)
    · rcases List.mem_cons.mp hp with rfl | hp
      · exact h.1 b (by simp)
      · exact i2 p hp
/-- nothing lies between neighbours -/
theorem prs_gap : ∀ {E : List Rat}, E.Pairwise (· < ·) → ∀ p ∈ prs E, ∀ z ∈ E, z ≤ p.1 ∨ p.2 ≤ z
  | [], _, p, hp, _, _ => by cases hp
  | [_], _, p, hp, _, _ => by cases hp
  | a :: b :: r, h, p, hp, z, hz => by
    have h0 := h
    rw [List.pairwise_cons] at h
    rw [prs_cons] at hp
    rcases List.mem_cons.mp hp with rfl | hp'
    · rcases List.mem_cons.mp hz with rfl | hz
      · exact .inl Rat.le_refl
      · rcases List.mem_cons.mp hz with rfl | hz
        · exact .inr Rat.le_refl
        · rw [List.pairwise_cons] at h
          exact .inr (Rat.le_of_lt (h.2.1 _ hz))
    · rcases List.mem_cons.mp hz with rfl | hz
      · have hm := (prs_mem hp').1
        exact .inl (Rat.le_of_lt (h.1 _ hm))
      · exact prs_gap h.2 p hp' z hz
theorem pw_mem {A : Type} {R : A → A → Prop} {xs : List A} (h : xs.Pairwise R) {a b : A} (ha : a ∈ xs) (hb : b ∈ xs) : a = b ∨ R a b ∨ R b a := by
  induction h with
  | nil => cases ha
  | cons h1 _ ih =>
    rcases List.mem_cons.mp ha with rfl | ha'
    · rcases List.mem_cons.mp hb with rfl | hb'
      · exact .inl rfl
      · exact .inr (.inl (h1 _ hb'))
    · rcases List.mem_cons.mp hb with rfl | hb'
      · exact .inr (.inr (h1 _ ha'))
      · exact ih ha' hb'
theorem filter_single {A : Type} {R : A → A → Prop} {xs : List A} {P : A → Bool} {z : A} (h : xs.Pairwise R) (hR : ∀ a b, R a b → P a = true → P b = true → False) (hz : z ∈ xs) (hp : P z = true) : xs.filter P = [z] := by
  induction h with
  | nil => cases hz
  | @cons a l h1 _ ih =>
    rcases List.mem_cons.mp hz with rfl | hz
    · rw [List.filter_cons_of_pos hp]
      congr 1
      rw [List.filter_eq_nil_iff]
      intro b hb hb2
      exact hR _ _ (h1 b hb) hp hb2
    · rw [List.filter_cons_of_neg (fun ha => hR _ _ (h1 z hz) ha hp)]
      exact ih hz
/-! ### good rows of stretches -/
structure Atoms (S : List Sg) : Prop where
  lt : ∀ s ∈ S, s.1 < s.2.1
  pw : S.Pairwise fun a b => a.2.1 ≤ b.1
structure GoodS (S : List Sg) : Prop extends Atoms S where
  un : ∀ (k : Nat) (a b : Sg), S[k]? = some a → S[k + 1]? = some b → ¬ (b.1 = a.2.1 ∧ b.2.2 = a.2.2)
theorem set_last {A : Type} (xs : List A) (z y : A) : (xs ++ [z]).set ((xs ++ [z]).length - 1) y = xs ++ [y] := by
  rw [List.length_append]
  show (xs ++ [z]).set (xs.length + 1 - 1) y = _
  rw [Nat.add_sub_cancel]
  simp
theorem stepJ_snoc (J : List Sg) (z s : Sg) : stepJ (J ++ [z]) s = if z.2.1 = s.1 ∧ z.2.2 = s.2.2 then J ++ [(z.1, s.2.1, s.2.2)] else (J ++ [z]) ++ [s] := by
  unfold stepJ
  rw [last_at]
  show (if z.2.1 = s.1 ∧ z.2.2 = s.2.2 then (J ++ [z]).set ((J ++ [z]).length - 1) (z.1, s.2.1, s.2.2) else (J ++ [z]) ++ [s]) = _
  rw [set_last]
theorem stepJ_nil (s : Sg) : stepJ [] s = [s] := rfl
theorem Atoms.init {S : List Sg} {s : Sg} (h : Atoms (S ++ [s])) : Atoms S ∧ (∀ z ∈ S, z.2.1 ≤ s.1) ∧ s.1 < s.2.1 := by
  have hp := h.pw
  rw [List.pairwise_append] at hp
  exact ⟨⟨fun z hz => h.lt z (by simp [hz]), hp.1⟩, fun z hz => hp.2.2 z hz s (by simp), h.lt s (by simp)⟩
theorem Atoms.snoc {S : List Sg} {s : Sg} (h : Atoms S) (h1 : ∀ z ∈ S, z.2.1 ≤ s.1) (h2 : s.1 < s.2.1) : Atoms (S ++ [s]) :=
  ⟨fun z hz => by
    rcases List.mem_append.mp hz with hz | hz
    · exact h.lt z hz
    · rw [List.mem_singleton.mp hz]; exact h2, by
    rw [List.pairwise_append]
    exact ⟨h.pw, by simp, fun a ha b hb => by rw [List.mem_singleton.mp hb]; exact h1 a ha⟩⟩
/-- what joining keeps -/
structure Jn (S J : List Sg) : Prop where
  good : GoodS J
  l : ∀ z ∈ J, ∃ s ∈ S, z.1 = s.1
  r : ∀ z ∈ J, ∃ s ∈ S, z.2.1 = s.2.1
  h : ∀ z ∈ J, ∃ s ∈ S, z.2.2 = s.2.2
theorem get_snoc {A : Type} {J : List A} {z x : A} {k : Nat} (h : (J ++ [z])[k]? = some x) : J[k]? = some x ∧ k < J.length ∨ k = J.length ∧ x = z := by
  by_cases hk : k < J.length
  · rw [List.getElem?_append_left hk] at h; exact .inl ⟨h, hk⟩
  · have hk2 : k < (J ++ [z]).length := (List.getElem?_eq_some_iff.mp h).1
    rw [List.length_append] at hk2
    have hk2 : k < J.length + 1 := hk2
    have e : k = J.length := by omega
    subst e
    rw [List.getElem?_concat_length] at h
    exact .inr ⟨rfl, (Option.some.inj h).symm⟩
theorem join_ok (S : List Sg) : Atoms S → Jn S (joinS S) := snoc_ind (P := fun S => Atoms S → Jn S (joinS S)) (fun _ => ⟨⟨⟨fun s h => (by cases h), List.Pairwise.nil⟩, fun k a b h => (by cases h)⟩, fun z h => (by cases h), fun z h => (by cases h), fun z h => (by cases h)⟩) (fun S s ih h => by
  obtain ⟨hS, h1, h2⟩ := h.init
  have j := ih hS
  rw [joinS_snoc]
  have up : ∀ {f : Sg → Rat} {z : Sg}, (∃ s ∈ S, f z = f s) → ∃ t ∈ S ++ [s], f z = f t := fun {f z} ⟨t, ht, e⟩ => ⟨t, by simp [ht], e⟩
  have uph : ∀ {z : Sg}, (∃ s ∈ S, z.2.2 = s.2.2) → ∃ t ∈ S ++ [s], z.2.2 = t.2.2 := fun {z} ⟨t, ht, e⟩ => ⟨t, by simp [ht], e⟩
  generalize joinS S = J at *
  have hJ : ∀ z ∈ J, z.2.1 ≤ s.1 := fun z hz => by
    obtain ⟨t, ht, e⟩ := j.r z hz
    rw [e]; exact h1 t ht
  rcases nil_or_snoc J with rfl | ⟨J, z, rfl⟩
  · rw [stepJ_nil]
    refine ⟨⟨⟨fun t ht => ?_, by simp⟩, fun k a b ha hb => ?_⟩, fun t ht => ⟨s, by simp, ?_⟩, fun t ht => ⟨s, by simp, ?_⟩, fun t ht => ⟨s, by simp, ?_⟩⟩
    · rw [List.mem_singleton.mp ht]; exact h2
    · have := (List.getElem?_eq_some_iff.mp hb).1
      simp at this
    · rw [List.mem_singleton.mp ht]
    · rw [List.mem_singleton.mp ht]
    · rw [List.mem_singleton.mp ht]
  · rw [stepJ_snoc]
    obtain ⟨hJ', q1, q2⟩ := j.good.toAtoms.init
    by_cases c : z.2.1 = s.1 ∧ z.2.2 = s.2.2
    · rw [if_pos c]
      have lt : z.1 < s.2.1 := by
        have : z.2.1 ≤ s.1 := hJ z (by simp)
        grind
      have hs : ∀ {P : Sg → Prop}, (∀ t ∈ J, P t) → P (z.1, s.2.1, s.2.2) → ∀ t ∈ J ++ [(z.1, s.2.1, s.2.2)], P t := fun h1 h2 t ht => by
        rcases List.mem_append.mp ht with ht | ht
        · exact h1 t ht
        · rw [List.mem_singleton.mp ht]; exact h2
      refine ⟨⟨hJ'.snoc q1 lt, fun k a b ha hb => ?_⟩, hs (fun t ht => up (f := fun t => t.1) (j.l t (by simp [ht]))) (up (f := fun t => t.1) (z := z) (j.l z (by simp))), hs (fun t ht => up (f := fun t => t.2.1) (j.r t (by simp [ht]))) ⟨s, by simp, rfl⟩, hs (fun t ht => uph (j.h t (by simp [ht]))) ⟨s, by simp, rfl⟩⟩
      rcases get_snoc ha with ⟨ha1, ha2⟩ | ⟨ha1, ha2⟩
      · rcases get_snoc hb with ⟨hb1, hb2⟩ | ⟨hb1, hb2⟩
        · exact j.good.un k a b (by rw [List.getElem?_append_left ha2]; exact ha1) (by rw [List.getElem?_append_left hb2]; exact hb1)
        · have := j.good.un k a z (by rw [List.getElem?_append_left ha2]; exact ha1) (by rw [hb1, List.getElem?_concat_length])
          rw [hb2]
          intro hh
          exact this ⟨hh.1, c.2.trans hh.2⟩
      · have := (List.getElem?_eq_some_iff.mp hb).1
        rw [List.length_append] at this
        have : k + 1 < J.length + 1 := this
        omega
    · rw [if_neg c]
      have hs : ∀ {P : Sg → Prop}, (∀ t ∈ J ++ [z], P t) → P s → ∀ t ∈ (J ++ [z]) ++ [s], P t := fun h1 h2 t ht => by
        rcases List.mem_append.mp ht with ht | ht
        · exact h1 t ht
        · rw [List.mem_singleton.mp ht]; exact h2
      refine ⟨⟨j.good.toAtoms.snoc hJ h2, fun k a b ha hb => ?_⟩, hs (fun t ht => up (f := fun t => t.1) (j.l t ht)) ⟨s, by simp, rfl⟩, hs (fun t ht => up (f := fun t => t.2.1) (j.r t ht)) ⟨s, by simp, rfl⟩, hs (fun t ht => uph (j.h t ht)) ⟨s, by simp, rfl⟩⟩
      rcases get_snoc ha with ⟨ha1, ha2⟩ | ⟨ha1, ha2⟩
      · rcases get_snoc hb with ⟨hb1, hb2⟩ | ⟨hb1, hb2⟩
        · exact j.good.un k a b ha1 hb1
        · have ez : a = z := by
            have hk : k = J.length := by
              rw [List.length_append] at hb1
              have : k + 1 = J.length + 1 := hb1
              omega
            subst hk
            rw [List.getElem?_concat_length] at ha1
            exact (Option.some.inj ha1).symm
          rw [hb2, ez]
          exact fun hh => c ⟨hh.1.symm, hh.2.symm⟩
      · have := (List.getElem?_eq_some_iff.mp hb).1
        rw [List.length_append] at this
        have : k + 1 < (J ++ [z]).length + 1 := this
        omega) S
def cont (p : Rat × Rat) (z : Sg) : Bool := decide (z.1 ≤ p.1 ∧ p.2 ≤ z.2.1)
def hts (p : Rat × Rat) (S : List Sg) : List Int := (S.filter (cont p)).map fun z => z.2.2
theorem hts_snoc (p : Rat × Rat) (S : List Sg) (s : Sg) : hts p (S ++ [s]) = hts p S ++ if cont p s = true then [s.2.2] else [] := by
  unfold hts
  rw [List.filter_append, List.map_append]
  congr 1
  by_cases h : cont p s = true
  · rw [if_pos h, List.filter_cons_of_pos h]; rfl
  · rw [if_neg h, List.filter_cons_of_neg h]; rfl
/-- what lies over a gap between neighbours is the same, joined or not -/
theorem hts_join {p : Rat × Rat} (hp : p.1 < p.2) (S : List Sg) : Atoms S → (∀ s ∈ S, (s.1 = p.1 ∧ s.2.1 = p.2) ∨ s.2.1 ≤ p.1 ∨ p.2 ≤ s.1) → hts p (joinS S) = hts p S := snoc_ind (P := fun S => Atoms S → (∀ s ∈ S, (s.1 = p.1 ∧ s.2.1 = p.2) ∨ s.2.1 ≤ p.1 ∨ p.2 ≤ s.1) → hts p (joinS S) = hts p S) (fun _ _ => rfl) (fun S s ih h H => by
  obtain ⟨hS, h1, h2⟩ := h.init
  have i := ih hS fun t ht => H t (by simp [ht])
  have j := join_ok S hS
  rw [joinS_snoc, hts_snoc, ← i]
  have hs := H s (by simp)
  generalize joinS S = J at *
  rcases nil_or_snoc J with rfl | ⟨J, z, rfl⟩
  · rw [stepJ_nil]
    exact hts_snoc p [] s
  · rw [stepJ_snoc]
    by_cases c : z.2.1 = s.1 ∧ z.2.2 = s.2.2
    · rw [if_pos c, hts_snoc, hts_snoc]
      have zl := j.good.lt z (by simp)
      rw [List.append_assoc]
      congr 1
      unfold cont
      simp only [decide_eq_true_eq, c.2]
      have c1 := c.1
      clear H ih i j h1 h hS c
      generalize z.1 = z1 at *
      generalize z.2.1 = z2 at *
      generalize s.1 = s1 at *
      generalize s.2.1 = s2 at *
      generalize p.1 = p1 at *
      generalize p.2 = p2 at *
      subst c1
      by_cases a1 : z2 ≤ p1 ∧ p2 ≤ s2
      · rw [if_pos a1, if_pos (show z1 ≤ p1 ∧ p2 ≤ s2 by grind), if_neg (show ¬ (z1 ≤ p1 ∧ p2 ≤ z2) by grind)]; rfl
      · rw [if_neg a1, List.append_nil]
        by_cases a2 : z1 ≤ p1 ∧ p2 ≤ z2
        · rw [if_pos a2, if_pos (show z1 ≤ p1 ∧ p2 ≤ s2 by grind)]
        · rw [if_neg a2, if_neg (show ¬ (z1 ≤ p1 ∧ p2 ≤ s2) by grind)]
    · rw [if_neg c, hts_snoc]) S
/-! ### the atoms of boxes -/
theorem seg1_eq {bs : List Bx} {p : Rat × Rat} {s : Sg} (h : seg1 bs p = some s) : s.1 = p.1 ∧ s.2.1 = p.2 ∧ tops bs p ≠ [] ∧ s.2.2 = mxI (tops bs p) := by
  unfold seg1 at h
  split at h
  · cases h
  · rename_i h0
    cases h
    exact ⟨rfl, rfl, h0, rfl⟩
theorem segs_mem {bs : List Bx} {ps : List (Rat × Rat)} {s : Sg} (h : s ∈ segs bs ps) : (s.1, s.2.1) ∈ ps ∧ tops bs (s.1, s.2.1) ≠ [] ∧ s.2.2 = mxI (tops bs (s.1, s.2.1)) := by
  obtain ⟨p, hp, e⟩ := List.mem_filterMap.mp h
  obtain ⟨e1, e2, e3, e4⟩ := seg1_eq e
  have : (s.1, s.2.1) = p := Prod.ext e1 e2
  rw [this]
  exact ⟨hp, e3, e4⟩
theorem segs_atoms {bs : List Bx} {E : List Rat} (hE : E.Pairwise (· < ·)) : Atoms (segs bs (prs E)) := by
  obtain ⟨h1, h2⟩ := prs_ok hE
  refine ⟨fun s hs => h2 _ (segs_mem hs).1, ?_⟩
  unfold segs
  refine List.Pairwise.filterMap (seg1 bs) (S := fun a b => a.2.1 ≤ b.1) (fun p q hpq s hs t ht => ?_) h1
  rw [(seg1_eq hs).2.1, (seg1_eq ht).1]
  exact hpq
theorem hts_segs (bs : List Bx) (p : Rat × Rat) (ps : List (Rat × Rat)) : hts p (segs bs ps) = ((ps.filter fun q => decide (q.1 ≤ p.1 ∧ p.2 ≤ q.2)).filterMap (seg1 bs)).map fun z => z.2.2 := by
  unfold hts segs
  congr 1
  induction ps with
  | nil => rfl
  | cons q ps ih =>
    rw [List.filterMap_cons]
    cases e : seg1 bs q with
    | none =>
      show (List.filterMap (seg1 bs) ps).filter (cont p) = _
      rw [ih, List.filter_cons]
      split
      · rw [List.filterMap_cons, e]
      · rfl
    | some s =>
      obtain ⟨e1, e2, _⟩ := seg1_eq e
      show (s :: List.filterMap (seg1 bs) ps).filter (cont p) = _
      have ec : cont p s = decide (q.1 ≤ p.1 ∧ p.2 ≤ q.2) := by unfold cont; rw [e1, e2]
      rw [List.filter_cons, List.filter_cons, ec, ih]
      split
      · rw [List.filterMap_cons, e]
      · rfl
/-- over a gap between neighbours lies the highest of the boxes there -/
theorem hts_outl (bs : List Bx) {p : Rat × Rat} (hp : p ∈ prs (srt (edgs bs))) : hts p (outl bs) = if tops bs p = [] then [] else [mxI (tops bs p)] := by
  have hE := srt_lt (edgs bs)
  obtain ⟨h1, h2⟩ := prs_ok hE
  unfold outl
  rw [hts_join (h2 p hp) _ (segs_atoms hE) fun s hs => ?_, hts_segs]
  · rw [filter_single (z := p) h1 (fun a b hab ha hb => ?_) hp (by simp [Rat.le_refl])]
    · unfold seg1
      split <;> simp_all
    · simp only [decide_eq_true_eq] at ha hb
      have := h2 p hp
      grind
  · obtain ⟨hm, _⟩ := segs_mem hs
    rcases pw_mem h1 hm hp with e | e | e
    · exact .inl ⟨congrArg Prod.fst e, congrArg Prod.snd e⟩
    · exact .inr (.inl e)
    · exact .inr (.inr e)
theorem outl_ok (bs : List Bx) : GoodS (outl bs) ∧ (∀ z ∈ outl bs, z.1 ∈ edgs bs ∧ z.2.1 ∈ edgs bs ∧ ∃ b ∈ bs, z.2.2 = b.hi) := by
  have hE := srt_lt (edgs bs)
  have j := join_ok _ (segs_atoms (bs := bs) hE)
  refine ⟨j.good, fun z hz => ⟨?_, ?_, ?_⟩⟩
  · obtain ⟨s, hs, e⟩ := j.l z hz
    rw [e]
    exact (srt_mem _ _).mp (prs_mem (segs_mem hs).1).1
  · obtain ⟨s, hs, e⟩ := j.r z hz
    rw [e]
    exact (srt_mem _ _).mp (prs_mem (segs_mem hs).1).2
  · obtain ⟨s, hs, e⟩ := j.h z hz
    obtain ⟨_, h0, hm⟩ := segs_mem hs
    have := mxI_mem h0
    unfold tops at this
    obtain ⟨b, hb, eb⟩ := List.mem_map.mp this
    exact ⟨b, (List.mem_filter.mp hb).1, by rw [e, hm]; exact eb.symm⟩
end Lw
set_option linter.all false
set_option maxRecDepth 100000
set_option maxHeartbeats 1000000
namespace Lw
open PySem PySem.Spec PyProof.Rows L2 DL
open Evl (Ex)
/-! ### an outline outlined again -/
def eR : Sg → List Sg → List Rat
  | s, [] => [s.2.1]
  | s, t :: r => if t.1 = s.2.1 then t.1 :: eR t r else s.2.1 :: t.1 :: eR t r
def bxS (lo : Int) (z : Sg) : Bx := ⟨z.1, z.2.1, lo, z.2.2⟩
theorem Atoms.tail {s : Sg} {S : List Sg} (h : Atoms (s :: S)) : Atoms S ∧ (∀ z ∈ S, s.2.1 ≤ z.1) ∧ s.1 < s.2.1 := by
  have hp := h.pw
  rw [List.pairwise_cons] at hp
  exact ⟨⟨fun z hz => h.lt z (by simp [hz]), hp.2⟩, hp.1, h.lt s (by simp)⟩
theorem eR_ok : ∀ (S : List Sg) (s : Sg), Atoms (s :: S) → (s.1 :: eR s S).Pairwise (· < ·) ∧ (∀ z ∈ eR s S, s.2.1 ≤ z) ∧ ∀ z, z ∈ s.1 :: eR s S ↔ ∃ t ∈ s :: S, z = t.1 ∨ z = t.2.1
  | [], s, h => by
    obtain ⟨_, _, h3⟩ := h.tail
    refine ⟨by simpa [eR] using h3, fun z hz => ?_, fun z => ?_⟩
    · simp [eR] at hz; rw [hz]; exact Rat.le_refl
    · simp [eR]
  | t :: r, s, h => by
    obtain ⟨h1, h2, h3⟩ := h.tail
    obtain ⟨i1, i2, i3⟩ := eR_ok r t h1
    have hst := h2 t (by simp)
    have ht := h.lt t (by simp)
    unfold eR
    by_cases c : t.1 = s.2.1
    · rw [if_pos c]
      refine ⟨?_, fun z hz => ?_, fun z => ?_⟩
      · rw [List.pairwise_cons]
        refine ⟨fun z hz => ?_, i1⟩
        rcases List.mem_cons.mp hz with rfl | hz
        · rw [c]; exact h3
        · have := i2 z hz
          grind
      · rcases List.mem_cons.mp hz with rfl | hz
        · exact hst
        · have := i2 z hz
          grind
      · rw [List.mem_cons, i3 z]
        constructor
        · rintro (e | ⟨u, hu, e⟩)
          · exact ⟨s, by simp, .inl e⟩
          · exact ⟨u, List.mem_cons_of_mem _ hu, e⟩
        · rintro ⟨u, hu, e⟩
          rcases List.mem_cons.mp hu with rfl | hu
          · rcases e with e | e
            · exact .inl e
            · exact .inr ⟨t, by simp, .inl (by rw [c]; exact e)⟩
          · exact .inr ⟨u, hu, e⟩
    · rw [if_neg c]
      have hlt : s.2.1 < t.1 := by grind
      refine ⟨?_, fun z hz => ?_, fun z => ?_⟩
      · rw [List.pairwise_cons, List.pairwise_cons]
        refine ⟨fun z hz => ?_, fun z hz => ?_, i1⟩
        · rcases List.mem_cons.mp hz with rfl | hz
          · exact h3
          · rcases List.mem_cons.mp hz with rfl | hz
            · grind
            · have := i2 z hz
              grind
        · rcases List.mem_cons.mp hz with rfl | hz
          · exact hlt
          · have := i2 z hz
            grind
      · rcases List.mem_cons.mp hz with rfl | hz
        · exact Rat.le_refl
        · rcases List.mem_cons.mp hz with rfl | hz
          · exact hst
          · have := i2 z hz
            grind
      · rw [List.mem_cons, List.mem_cons, i3 z]
        constructor
        · rintro (e | e | ⟨u, hu, e⟩)
          · exact ⟨s, by simp, .inl e⟩
          · exact ⟨s, by simp, .inr e⟩
          · exact ⟨u, List.mem_cons_of_mem _ hu, e⟩
        · rintro ⟨u, hu, e⟩
          rcases List.mem_cons.mp hu with rfl | hu
          · rcases e with e | e
            · exact .inl e
            · exact .inr (.inl e)
          · exact .inr (.inr ⟨u, hu, e⟩)
theorem tops_none {bs : List Bx} {p : Rat × Rat} (h : ∀ b ∈ bs, b.r ≤ p.1 ∨ p.2 ≤ b.l) : tops bs p = [] := by
  unfold tops
  rw [List.map_eq_nil_iff, List.filter_eq_nil_iff]
  intro b hb hm
  unfold mt at hm
  simp only [Bool.and_eq_true, decide_eq_true_eq] at hm
  rcases h b hb with h | h <;> grind
theorem tops_append (bs cs : List Bx) (p : Rat × Rat) : tops (bs ++ cs) p = tops bs p ++ tops cs p := by unfold tops; rw [List.filter_append, List.map_append]
theorem tops_one {b : Bx} {p : Rat × Rat} (h1 : p.1 < b.r) (h2 : b.l < p.2) : tops [b] p = [b.hi] := by
  unfold tops
  rw [List.filter_cons_of_pos (by unfold mt; simp [h1, h2])]
  rfl
theorem mxI_one (n : Int) : mxI [n] = n := mxI_uniq (by simp) fun y hy => by rw [List.mem_singleton.mp hy]; exact Int.le_refl _
theorem segs_again (lo : Int) : ∀ (S : List Sg) (s : Sg) (pre : List Bx), Atoms (s :: S) → (∀ b ∈ pre, b.r ≤ s.1) → segs (pre ++ (s :: S).map (bxS lo)) (prs (s.1 :: eR s S)) = s :: S
  | [], s, pre, h, hp => by
    obtain ⟨_, _, h3⟩ := h.tail
    have e : tops (pre ++ [s].map (bxS lo)) (s.1, s.2.1) = [s.2.2] := by
      rw [tops_append, tops_none fun b hb => .inl (hp b hb)]
      exact tops_one h3 h3
    show [(s.1, s.2.1)].filterMap (seg1 (pre ++ [s].map (bxS lo))) = _
    rw [List.filterMap_cons]
    unfold seg1
    rw [e, if_neg (by simp), mxI_one]
    rfl
  | t :: r, s, pre, h, hp => by
    obtain ⟨h1, h2, h3⟩ := h.tail
    have hst := h2 t (by simp)
    have ht := h.lt t (by simp)
    have eb : pre ++ (s :: t :: r).map (bxS lo) = (pre ++ [bxS lo s]) ++ (t :: r).map (bxS lo) := by rw [List.append_assoc]; rfl
    have ih := segs_again lo r t (pre ++ [bxS lo s]) h1 fun b hb => by
      rcases List.mem_append.mp hb with hb | hb
      · have := hp b hb; grind
      · rw [List.mem_singleton.mp hb]; exact hst
    rw [← eb] at ih
    have e1 : tops (pre ++ (s :: t :: r).map (bxS lo)) (s.1, s.2.1) = [s.2.2] := by
      rw [tops_append, tops_none fun b hb => .inl (hp b hb)]
      show tops ([bxS lo s] ++ (t :: r).map (bxS lo)) _ = _
      rw [tops_append, tops_none (bs := (t :: r).map (bxS lo)) fun b hb => ?_, List.append_nil]
      · exact tops_one h3 h3
      · obtain ⟨u, hu, rfl⟩ := List.mem_map.mp hb
        exact .inr (h2 u hu)
    have s1 : seg1 (pre ++ (s :: t :: r).map (bxS lo)) (s.1, s.2.1) = some s := by
      unfold seg1
      rw [e1, if_neg (by simp), mxI_one]
    unfold eR
    by_cases c : t.1 = s.2.1
    · rw [if_pos c, prs_cons]
      unfold segs at *
      rw [List.filterMap_cons, c, s1]
      rw [c] at ih
      exact congrArg (s :: ·) ih
    · rw [if_neg c, prs_cons, prs_cons]
      have e2 : tops (pre ++ (s :: t :: r).map (bxS lo)) (s.2.1, t.1) = [] := by
        rw [tops_append, tops_none fun b hb => .inl (Rat.le_trans (hp b hb) (Rat.le_of_lt h3))]
        refine tops_none fun b hb => ?_
        obtain ⟨u, hu, rfl⟩ := List.mem_map.mp hb
        rcases List.mem_cons.mp hu with rfl | hu
        · exact .inl Rat.le_refl
        · refine .inr ?_
          rcases List.mem_cons.mp hu with rfl | hu
          · exact Rat.le_refl
          · have := h1.tail.2.1 u hu
            show t.1 ≤ u.1
            grind
      have s2 : seg1 (pre ++ (s :: t :: r).map (bxS lo)) (s.2.1, t.1) = none := by
        unfold seg1
        rw [e2, if_pos rfl]
      unfold segs at *
      rw [List.filterMap_cons, s1]
      show s :: List.filterMap _ ((s.2.1, t.1) :: prs (t.1 :: eR t r)) = _
      rw [List.filterMap_cons, s2]
      exact congrArg (s :: ·) ih
theorem join_good (S : List Sg) : GoodS S → joinS S = S := snoc_ind (P := fun S => GoodS S → joinS S = S) (fun _ => rfl) (fun S s ih h => by
  have hS : GoodS S := ⟨h.toAtoms.init.1, fun k a b ha hb => h.un k a b (by rw [List.getElem?_append_left (List.getElem?_eq_some_iff.mp ha).1]; exact ha) (by rw [List.getElem?_append_left (List.getElem?_eq_some_iff.mp hb).1]; exact hb)⟩
  rw [joinS_snoc, ih hS]
  rcases nil_or_snoc S with rfl | ⟨S, z, rfl⟩
  · rfl
  · rw [stepJ_snoc, if_neg]
    intro c
    refine h.un S.length z s ?_ ?_ ⟨c.1.symm, c.2.symm⟩
    · rw [List.getElem?_append_left (by rw [List.length_append]; show S.length < S.length + 1; omega), List.getElem?_concat_length]
    · have e : S.length + 1 = (S ++ [z]).length := by rw [List.length_append]; rfl
      rw [e, List.getElem?_concat_length]) S
theorem outl_again {S : List Sg} (lo : Int) (h : GoodS S) : outl (S.map (bxS lo)) = S := by
  unfold outl
  cases S with
  | nil =>
    have : outl [] = [] := List.length_eq_zero_iff.mp (Nat.le_zero.mp (outl_len []))
    exact this
  | cons s S =>
    obtain ⟨i1, i2, i3⟩ := eR_ok S s h.toAtoms
    have e : srt (edgs ((s :: S).map (bxS lo))) = s.1 :: eR s S := sorted_uniq (srt_lt _) i1 fun z => by
      rw [srt_mem, i3 z]
      unfold edgs
      rw [List.mem_flatMap]
      constructor
      · rintro ⟨b, hb, hz⟩
        obtain ⟨t, ht, rfl⟩ := List.mem_map.mp hb
        exact ⟨t, ht, by simpa [bxS] using hz⟩
      · rintro ⟨t, ht, hz⟩
        exact ⟨bxS lo t, List.mem_map_of_mem ht, by simpa [bxS] using hz⟩
    have es := segs_again lo S s [] h.toAtoms fun b hb => by cases hb
    rw [List.nil_append] at es
    rw [e, es]
    exact join_good _ h
/-! ### all lifted -/
def lift7 (b : Bx) : Bx := ⟨b.l, b.r, b.lo + 7, b.hi + 7⟩
def up7 (z : Sg) : Sg := (z.1, z.2.1, z.2.2 + 7)
theorem tops_lift (bs : List Bx) (p : Rat × Rat) : tops (bs.map lift7) p = (tops bs p).map (· + 7) := by
  unfold tops
  rw [List.filter_map, List.map_map, List.map_map]
  rfl
theorem mxI_lift {ns : List Int} (h : ns ≠ []) : mxI (ns.map (· + 7)) = mxI ns + 7 := mxI_uniq (List.mem_map.mpr ⟨_, mxI_mem h, rfl⟩) fun y hy => by
  obtain ⟨n, hn, rfl⟩ := List.mem_map.mp hy
  have := le_mxI hn
  omega
theorem seg1_lift (bs : List Bx) (p : Rat × Rat) : seg1 (bs.map lift7) p = (seg1 bs p).map up7 := by
  unfold seg1
  rw [tops_lift]
  by_cases h : tops bs p = []
  · rw [if_pos h, if_pos (by rw [h]; rfl)]; rfl
  · rw [if_neg h, if_neg (by simpa using h), mxI_lift h]; rfl
theorem segs_lift (bs : List Bx) (ps : List (Rat × Rat)) : segs (bs.map lift7) ps = (segs bs ps).map up7 := by
  unfold segs
  rw [List.map_filterMap]
  congr 1
  funext p
  exact seg1_lift bs p
theorem join_lift (S : List Sg) : joinS (S.map up7) = (joinS S).map up7 := snoc_ind (P := fun S => joinS (S.map up7) = (joinS S).map up7) rfl (fun S s ih => by
  rw [List.map_append, List.map_cons, List.map_nil, joinS_snoc, joinS_snoc, ih]
  generalize joinS S = J
  rcases nil_or_snoc J with rfl | ⟨J, z, rfl⟩
  · rfl
  · rw [List.map_append, List.map_cons, List.map_nil, stepJ_snoc, stepJ_snoc]
    have e : ((up7 z).2.1 = (up7 s).1 ∧ (up7 z).2.2 = (up7 s).2.2) ↔ (z.2.1 = s.1 ∧ z.2.2 = s.2.2) := by
      show (z.2.1 = s.1 ∧ z.2.2 + 7 = s.2.2 + 7) ↔ _
      constructor
      · rintro ⟨a, b⟩; exact ⟨a, by omega⟩
      · rintro ⟨a, b⟩; exact ⟨a, by omega⟩
    by_cases c : z.2.1 = s.1 ∧ z.2.2 = s.2.2
    · rw [if_pos c, if_pos (e.mpr c), List.map_append]; rfl
    · rw [if_neg c, if_neg (fun h => c (e.mp h)), List.map_append, List.map_append]; rfl) S
theorem edgs_lift (bs : List Bx) : edgs (bs.map lift7) = edgs bs := by unfold edgs; rw [List.flatMap_map]; rfl
theorem outl_lift (bs : List Bx) : outl (bs.map lift7) = (outl bs).map up7 := by
  unfold outl
  rw [edgs_lift, segs_lift, join_lift]
/-! ### at the middle of a gap -/
theorem tops_mid {bs : List Bx} {a b m : Rat} (hp : (a, b) ∈ prs (srt (edgs bs))) (h1 : a < m) (h2 : m < b) : tops bs (m, b) = tops bs (a, b) := by
  unfold tops
  congr 1
  refine List.filter_congr fun x hx => ?_
  have hr : x.r ∈ srt (edgs bs) := (srt_mem _ _).mpr (List.mem_flatMap.mpr ⟨x, hx, by simp⟩)
  have := prs_gap (srt_lt _) _ hp _ hr
  unfold mt
  rw [Bool.eq_iff_iff]
  simp only [Bool.and_eq_true, decide_eq_true_eq]
  grind
theorem hts_mid {bs : List Bx} {a b m : Rat} (hp : (a, b) ∈ prs (srt (edgs bs))) (h1 : a < m) (h2 : m < b) : ((outl bs).filter fun z => mt ⟨m, b, 0, 0⟩ ⟨z.1, z.2.1, z.2.2, z.2.2⟩).map (fun z => z.2.2) = hts (a, b) (outl bs) := by
  unfold hts
  congr 1
  refine List.filter_congr fun z hz => ?_
  obtain ⟨e1, e2, _⟩ := (outl_ok bs).2 z hz
  have g1 := prs_gap (srt_lt _) _ hp _ ((srt_mem _ _).mpr e1)
  have g2 := prs_gap (srt_lt _) _ hp _ ((srt_mem _ _).mpr e2)
  unfold mt cont
  rw [Bool.eq_iff_iff]
  simp only [Bool.and_eq_true, decide_eq_true_eq]
  grind
def t_law_v39 (tb : Tb) : DS :=
  (dSeq (dSet 1 (dCall sp_law_bag [.p 0] [] (dCons (dVar 0) dNil) dNil))
  (dSeq (dFor (dRng1 (dCons (dC (.int 5)) dNil)) (gN 2) (dSeq (dSet 3 (dCall sp_law_boxes [.p 0, .p 1] [] (dCons (dVar 1) (dCons (dC (.int 8)) dNil)) dNil))
  (dSeq (dSet 4 (dFz (dCall (sp_outline tb) [.p 0] [] (dCons (dVar 3) dNil) dNil)))
  (dSeq (dFor (dRng1 (dCons (dCB dLen (dCons (dVar 4) dNil)) dNil)) (gN 5) (dSeq (dIfS (dNotT (dTest (dCall sp_law_less [.p 0, .p 1] [] (dCons (dOp dIx (dOp dIx (dVar 4) (dVar 5)) (dC (.int 0))) (dCons (dOp dIx (dOp dIx (dVar 4) (dVar 5)) (dC (.int 1))) dNil)) dNil))) (dRet (dC (.bl false))) dNext)
  (dSeq (dIfS (dAndT (dTest (dOp dGt (dVar 5) (dC (.int 0)))) (dTest (dCall sp_law_less [.p 0, .p 1] [] (dCons (dOp dIx (dOp dIx (dVar 4) (dVar 5)) (dC (.int 0))) (dCons (dOp dIx (dOp dIx (dVar 4) (dOp dSub (dVar 5) (dC (.int 1)))) (dC (.int 1))) dNil)) dNil))) (dRet (dC (.bl false))) dNext)
  (dIfS (dAndT (dTest (dOp dGt (dVar 5) (dC (.int 0)))) (dAndT (dTest (dOp dEq (dOp dIx (dOp dIx (dVar 4) (dVar 5)) (dC (.int 0))) (dOp dIx (dOp dIx (dVar 4) (dOp dSub (dVar 5) (dC (.int 1)))) (dC (.int 1))))) (dTest (dOp dEq (dOp dIx (dOp dIx (dVar 4) (dVar 5)) (dC (.int 2))) (dOp dIx (dOp dIx (dVar 4) (dOp dSub (dVar 5) (dC (.int 1)))) (dC (.int 2))))))) (dRet (dC (.bl false))) dNext))))
  (dSeq (dSet 6 (dCall sp_law_edges [.p 0] [] (dCons (dOp dCatF (dVar 3) (dVar 4)) dNil) dNil))
  (dSeq (dFor (dRng1 (dCons (dOp dSub (dCB dLen (dCons (dVar 6) dNil)) (dC (.int 1))) dNil)) (gN 5) (dSeq (dSet 7 (dCall sp_law_mul [.p 0, .p 1] [] (dCons (dTup (dCons (dC (.int 1)) (dCons (dC (.int 2)) dNil))) (dCons (dCall sp_law_add [.p 0, .p 1] [] (dCons (dOp dIx (dVar 6) (dVar 5)) (dCons (dOp dIx (dVar 6) (dOp dAdd (dVar 5) (dC (.int 1)))) dNil)) dNil) dNil)) dNil))
  (dSeq (dSet 8 (dTup (dCons (dVar 7) (dCons (dOp dIx (dVar 6) (dOp dAdd (dVar 5) (dC (.int 1)))) (dCons (dC (.int 0)) (dCons (dC (.int 1)) dNil))))))
  (dSeq (dSet 9 (dLcF (dSeqI (dVar 3)) (gN 13) (dTest (dCall sp_over_v1 [.p 0, .p 1] [] (dCons (dVar 8) (dCons (dVar 13) dNil)) dNil)) (dOp dIx (dVar 13) (dC (.int 3))) [13]))
  (dSeq (dSet 10 (dIf (dTest (dOp dEq (dVar 9) (dLstF dNil))) (dLstF dNil) (dLstF (dCons (dCB dMaxF (dCons (dVar 9) dNil)) dNil))))
  (dIfS (dTest (dOp dNe (dLcF (dSeqI (dVar 4)) (gT 3 (gsCons (gN 14) (gsCons (gN 15) (gsCons (gN 16) gsNil)))) (dTest (dCall sp_over_v1 [.p 0, .p 1] [] (dCons (dVar 8) (dCons (dTup (dCons (dVar 14) (dCons (dVar 15) (dCons (dVar 16) (dCons (dVar 16) dNil))))) dNil)) dNil)) (dVar 16) [14, 15, 16]) (dVar 10))) (dRet (dC (.bl false))) dNext))))))
  (dSeq (dSet 11 (dLcF (dSeqI (dVar 4)) (gT 3 (gsCons (gN 14) (gsCons (gN 15) (gsCons (gN 16) gsNil)))) dYes (dTup (dCons (dVar 14) (dCons (dVar 15) (dCons (dOp dSub (dC (.int 0)) (dC (.int 50))) (dCons (dVar 16) dNil))))) [14, 15, 16]))
  (dSeq (dIfS (dTest (dOp dNe (dFz (dCall (sp_outline tb) [.p 0] [] (dCons (dVar 11) dNil) dNil)) (dVar 4))) (dRet (dC (.bl false))) dNext)
  (dSeq (dSet 12 (dLcF (dSeqI (dVar 3)) (gT 4 (gsCons (gN 14) (gsCons (gN 15) (gsCons (gN 17) (gsCons (gN 16) gsNil))))) dYes (dTup (dCons (dVar 14) (dCons (dVar 15) (dCons (dOp dAdd (dVar 17) (dC (.int 7))) (dCons (dOp dAdd (dVar 16) (dC (.int 7))) dNil))))) [14, 15, 17, 16]))
  (dIfS (dTest (dOp dNe (dFz (dCall (sp_outline tb) [.p 0] [] (dCons (dVar 12) dNil) dNil)) (dLcF (dSeqI (dVar 4)) (gT 3 (gsCons (gN 14) (gsCons (gN 15) (gsCons (gN 16) gsNil)))) dYes (dTup (dCons (dVar 14) (dCons (dVar 15) (dCons (dOp dAdd (dVar 16) (dC (.int 7))) dNil)))) [14, 15, 16]))) (dRet (dC (.bl false))) dNext))))))))))
  (dRet (dC (.bl true)))))
def n_law_v39 : List Str := ["_law_script", "_law_bag_here", "_law_turn", "_law_piles", "_law_found", "_law_k", "_law_edges_here", "_law_half", "_law_spot", "_law_tops", "_law_due", "_law_again", "_law_higher", "_law_some", "_law_a", "_law_b", "_law_top", "_law_low_here"]
def sp_law_v39 (tb : Tb) : DSp := fun xs O R _ => ∃ ns : List Int, xs = [.lst (ns.map D.int)] ∧ ns.length ≤ 63 ∧ O tb.rising = some (.tab qRise) ∧ ∀ O', R (.bl true) O'
theorem end_law_v39 (tb : Tb) : ∀ (ns : List Int) (O : Om) (R : D → Om → Prop) (Z : XD), ns.length ≤ 63 → O tb.rising = some (.tab qRise) → (∀ O', R (.bl true) O') → sp_law_v39 tb [.lst (ns.map D.int)] O R Z := fun ns O R Z hl ht h => ⟨ns, rfl, hl, ht, h⟩
theorem half_ok (a b : Rat) (h : a < b) : a < mkRat 1 2 * (a + b) ∧ mkRat 1 2 * (a + b) < b := by
  have e : mkRat 1 2 + mkRat 1 2 = 1 := by decide +kernel
  have e2 : mkRat 1 2 * (a + b) + mkRat 1 2 * (a + b) = a + b := by
    rw [← Rat.add_mul, e, Rat.one_mul]
  grind
theorem sgB (S : List Sg) : S.map sgD = (S.map fun z => ((z.1, z.2.1, [.int z.2.2]) : Bw)).map bgD := by rw [List.map_map]; rfl
theorem edges_all (bs : List Bx) : srt (edgB ((bs.map fun b => ((b.l, b.r, [.int b.lo, .int b.hi]) : Bw)) ++ (outl bs).map fun z => ((z.1, z.2.1, [.int z.2.2]) : Bw))) = srt (edgs bs) := srt_congr fun z => by
  have e : edgB ((bs.map fun b => ((b.l, b.r, [.int b.lo, .int b.hi]) : Bw)) ++ (outl bs).map fun z => ((z.1, z.2.1, [.int z.2.2]) : Bw)) = edgs bs ++ edgB ((outl bs).map fun z => ((z.1, z.2.1, [.int z.2.2]) : Bw)) := by
    rw [← edgB_bx]; unfold edgB; rw [List.flatMap_append]
  rw [e, List.mem_append]
  refine ⟨fun h => ?_, .inl⟩
  rcases h with h | h
  · exact h
  · unfold edgB at h
    obtain ⟨w, hw, hz⟩ := List.mem_flatMap.mp h
    obtain ⟨s, hs, rfl⟩ := List.mem_map.mp hw
    obtain ⟨a1, a2, _⟩ := (outl_ok bs).2 s hs
    simp only [List.mem_cons, List.not_mem_nil, or_false] at hz
    rcases hz with rfl | rfl
    · exact a1
    · exact a2
theorem neI {O : Om} {R : D → Om → Prop} {ns : List Int} (r : R (.bl false) O) : dNe (.lst (ns.map D.int)) (.lst (ns.map D.int)) O R := Seen.neL (n := 0) (ds := ns.map PyData.int) (SeenAll.map fun _ _ => Seen.int) (by decide) r
theorem d_law_v39 (tb : Tb) : ∀ xs O R Z, sp_law_v39 tb xs O R Z → t_law_v39 tb (ends R) (startD n_law_v39 xs) O := by
  rintro _ O R Z ⟨ns, rfl, hl, ht, k⟩
  show t_law_v39 tb (ends R) [some (.lst (ns.map D.int)), none, none, none, none, none, none, none, none, none, none, none, none, none, none, none, none, none] O
  unfold t_law_v39
  refine seq1 fun N hN => ?_; simp only [dIfS, dAndT, dOrT, dNotT, dTest, dTruth, dTru, dAndV, dOrV, dNotV, dIf, dOp, dUn, dVar, dC, dI, dIc, dAdd, dSub, dMul, dFd, dMod, dPow, dNeg, dLt, dLe, dGt, dGe, dEq, dNe, dIsN, dNotN, DL.isNon, dIx, dSl, dPart, dNoPart, dCB, dLen, dAbs, dList, dTuple, dBls, dSum, dIsi, dIsi2, dtOf, isC, seqOf, lstOf, dCons, dNil, dTup, dLst, dRet, dRetN, dNext, dDrop, dAsg, gN, gsNil, gsCons, gT, gSubD, dSetL, dPar, dAug, dIpAdd, dIpSub, dCall, pick_nil, pick_p, pick_k, pick_d, dBreak, dCont, dLM, dLM0, isL, dAppend, dInsert, dPop, dPopAt, dRevL, dStr, dFmt, dJs, dMax2, dMin2, dSorted, dNewK, dctOf, dGetK, dHasK, DL.keyOf, dPutK, dDelK, dSortedD, dSet, dLstF, dRevF, dSlF, dListF, dSortedF, dSortedDF, dMaxF, dMinF, dInS, dLtA, dNewT, dGetT, dHasT, dctT, tkOf, keysOf, dTupP, dPutT, dPutP, putTk, pkOf, dSortedTF, dGet1, dGet2, dGet2T, dDisp1, dRep, dInt, dBits, dExtend, dReverse, dMaxDf, dCat, dCatF, dExtL, dDcT, Option.isSome_some, List.getElem?_cons_zero, List.getElem?_cons_succ, List.set_cons_zero, List.set_cons_succ, atI_0, atI_1, atI_2, atI_3, atI_4, atI_5, ixN_0, ixN_1, ixN_2, ixN_3, ixN_4, ixN_5, up_same, List.length_cons, List.length_nil, Bool.not_true, Bool.not_false, Bool.false_eq_true, if_true, if_false, reduceIte]
  refine ⟨ns, rfl, hl, fun b O1 hb bag s1 => ?_⟩
  subst hN
  have ht1 := s1 _ _ ht
  have hnb : tb.rising ≠ b := fun z => by rw [z, hb] at ht; cases ht
  refine seq_by (fun g O => True) (fun N hN => ?_) ?_
  · refine forC (by decide) (by decide) ?_
    refine loop_all (fun g O => Bag O b ∧ O tb.rising = some (.tab qRise) ∧ ∃ x2 x3 x4 x5 x6 x7 x8 x9 x10 x11 x12 x13 x14 x15 x16 x17, g = [some (.lst (ns.map D.int)), some (.ref b), x2, x3, x4, x5, x6, x7, x8, x9, x10, x11, x12, x13, x14, x15, x16, x17]) ⟨bag, ht1, _, _, _, _, _, _, _, _, _, _, _, _, _, _, _, _, rfl⟩ (fun _ _ _ => True.intro) ?_ ?_
    · rintro t _ O2 M hx ⟨bag2, ht2, x2, x3, x4, x5, x6, x7, x8, x9, x10, x11, x12, x13, x14, x15, x16, x17, rfl⟩ hM
      simp only [gN, List.set_cons_succ, List.set_cons_zero]
      refine seq1 fun N hN => ?_; simp only [dIfS, dAndT, dOrT, dNotT, dTest, dTruth, dTru, dAndV, dOrV, dNotV, dIf, dOp, dUn, dVar, dC, dI, dIc, dAdd, dSub, dMul, dFd, dMod, dPow, dNeg, dLt, dLe, dGt, dGe, dIsN, dNotN, DL.isNon, ix_pR0, ix_pR1, ix_tup, ix_lst, ix_ref, dSl, dPart, dNoPart, dCB, len_tup, len_lst, len_ref, dAbs, dList, dTuple, dBls, dSum, dIsi, dIsi2, dtOf, isC, seqOf, lstOf, dCons, dNil, dTup, dLst, dRet, dRetN, dNext, dDrop, dAsg, gN, gsNil, gsCons, gT, gSubD, dSetL, dPar, dAug, dIpAdd, dIpSub, dCall, eq_int, eq_str, eq_bl, ne_int, ne_str, ne_bl, eq_pR, ne_pR, plus_eq, less_eq, times_eq, over_eq, floor_eq, ceil_eq, part_eq, below_eq, seq_pR, pick_nil, pick_p, pick_k, pick_d, dBreak, dCont, dLM, dLM0, isL, dAppend, dInsert, dPop, dPopAt, dRevL, dStr, dFmt, dJs, dMax2, dMin2, dSorted, dNewK, dctOf, dGetK, dHasK, DL.keyOf, dPutK, dDelK, dSortedD, dSet, dLstF, dRevF, dSlF, dListF, dSortedF, dSortedDF, dMaxF, dMinF, dInS, dLtA, dNewT, dGetT, dHasT, dctT, tkOf, keysOf, dTupP, dPutT, dPutP, putTk, pkOf, dSortedTF, dGet1, dGet2, dGet2T, dDisp1, dRep, dInt, dBits, dExtend, dReverse, dMaxDf, dCat, dCatF, dExtL, dDcT, Option.isSome_some, List.getElem?_cons_zero, List.getElem?_cons_succ, List.set_cons_zero, List.set_cons_succ, atI_0, atI_1, atI_2, atI_3, atI_4, atI_5, ixN_0, ixN_1, ixN_2, ixN_3, ixN_4, ixN_5, up_same, List.length_cons, List.length_nil, Bool.not_true, Bool.not_false, Bool.false_eq_true, if_true, if_false, reduceIte]
      refine ⟨b, 8, rfl, by decide, by decide, bag2, fun bs O3 hbs lbs s3 => ?_⟩
      have ht3 := s3.2 _ _ hnb ht2
      have bag3 := s3.1
      subst hN
      have hge : ∀ x ∈ bs, GE x := fun x hx => (hbs x hx).ge
      refine seq1 fun N hN => ?_; simp only [dIfS, dAndT, dOrT, dNotT, dTest, dTruth, dTru, dAndV, dOrV, dNotV, dIf, dOp, dUn, dVar, dC, dI, dIc, dAdd, dSub, dMul, dFd, dMod, dPow, dNeg, dLt, dLe, dGt, dGe, dIsN, dNotN, DL.isNon, ix_pR0, ix_pR1, ix_tup, ix_lst, ix_ref, dSl, dPart, dNoPart, dCB, len_tup, len_lst, len_ref, dAbs, dList, dTuple, dBls, dSum, dIsi, dIsi2, dtOf, isC, seqOf, lstOf, dCons, dNil, dTup, dLst, dRet, dRetN, dNext, dDrop, dAsg, gN, gsNil, gsCons, gT, gSubD, dSetL, dPar, dAug, dIpAdd, dIpSub, dCall, eq_int, eq_str, eq_bl, ne_int, ne_str, ne_bl, eq_pR, ne_pR, plus_eq, less_eq, times_eq, over_eq, floor_eq, ceil_eq, part_eq, below_eq, seq_pR, pick_nil, pick_p, pick_k, pick_d, dBreak, dCont, dLM, dLM0, isL, dAppend, dInsert, dPop, dPopAt, dRevL, dStr, dFmt, dJs, dMax2, dMin2, dSorted, dNewK, dctOf, dGetK, dHasK, DL.keyOf, dPutK, dDelK, dSortedD, dSet, dLstF, dRevF, dSlF, dListF, dSortedF, dSortedDF, dMaxF, dMinF, dInS, dLtA, dNewT, dGetT, dHasT, dctT, tkOf, keysOf, dTupP, dPutT, dPutP, putTk, pkOf, dSortedTF, dGet1, dGet2, dGet2T, dDisp1, dRep, dInt, dBits, dExtend, dReverse, dMaxDf, dCat, dCatF, dExtL, dDcT, Option.isSome_some, List.getElem?_cons_zero, List.getElem?_cons_succ, List.set_cons_zero, List.set_cons_succ, atI_0, atI_1, atI_2, atI_3, atI_4, atI_5, ixN_0, ixN_1, ixN_2, ixN_3, ixN_4, ixN_5, up_same, List.length_cons, List.length_nil, Bool.not_true, Bool.not_false, Bool.false_eq_true, if_true, if_false, reduceIte, dFz]
      refine ⟨bs, rfl, hge, by omega, ht3, fun q hq => fz_ref up_same ?_⟩
      rw [del_up hq]
      subst hN
      have hol := outl_len bs
      obtain ⟨good, hed⟩ := outl_ok bs
      have hbz : ∀ z ∈ outl bs, Bz 30 z.1 ∧ Bz 30 z.2.1 := fun z hz => ⟨edgs_bz hge _ (hed z hz).1, edgs_bz hge _ (hed z hz).2.1⟩
      have hsm : ∀ {x : Rat}, Bz 30 x → SmP (ptR x) := fun h => h.sm (by decide) (by decide)
      refine seq_by (fun g O' => O3 = O' ∧ ∃ x5 x6 x7 x8 x9 x10 x11 x12 x13 x14 x15 x16 x17, g = [some (.lst (ns.map D.int)), some (.ref b), some t, some (.lst (bs.map bxR)), some (.lst ((outl bs).map sgD)), x5, x6, x7, x8, x9, x10, x11, x12, x13, x14, x15, x16, x17]) (fun N hN => ?_) ?_
      · refine for1 (j := ((outl bs).length : Int)) (fun R r => by simp only [dIfS, dAndT, dOrT, dNotT, dTest, dTruth, dTru, dAndV, dOrV, dNotV, dIf, dOp, dUn, dVar, dC, dI, dIc, dAdd, dSub, dMul, dFd, dMod, dPow, dNeg, dLt, dLe, dGt, dGe, dIsN, dNotN, DL.isNon, ix_pR0, ix_pR1, ix_tup, ix_lst, ix_ref, dSl, dPart, dNoPart, dCB, len_tup, len_lst, len_ref, dAbs, dList, dTuple, dBls, dSum, dIsi, dIsi2, dtOf, isC, seqOf, lstOf, dCons, dNil, dTup, dLst, dRet, dRetN, dNext, dDrop, dAsg, gN, gsNil, gsCons, gT, gSubD, dSetL, dPar, dAug, dIpAdd, dIpSub, dCall, eq_int, eq_str, eq_bl, ne_int, ne_str, ne_bl, eq_pR, ne_pR, plus_eq, less_eq, times_eq, over_eq, floor_eq, ceil_eq, part_eq, below_eq, seq_pR, pick_nil, pick_p, pick_k, pick_d, dBreak, dCont, dLM, dLM0, isL, dAppend, dInsert, dPop, dPopAt, dRevL, dStr, dFmt, dJs, dMax2, dMin2, dSorted, dNewK, dctOf, dGetK, dHasK, DL.keyOf, dPutK, dDelK, dSortedD, dSet, dLstF, dRevF, dSlF, dListF, dSortedF, dSortedDF, dMaxF, dMinF, dInS, dLtA, dNewT, dGetT, dHasT, dctT, tkOf, keysOf, dTupP, dPutT, dPutP, putTk, pkOf, dSortedTF, dGet1, dGet2, dGet2T, dDisp1, dRep, dInt, dBits, dExtend, dReverse, dMaxDf, dCat, dCatF, dExtL, dDcT, Option.isSome_some, List.getElem?_cons_zero, List.getElem?_cons_succ, List.set_cons_zero, List.set_cons_succ, atI_0, atI_1, atI_2, atI_3, atI_4, atI_5, ixN_0, ixN_1, ixN_2, ixN_3, ixN_4, ixN_5, up_same, List.length_cons, List.length_nil, Bool.not_true, Bool.not_false, Bool.false_eq_true, if_true, if_false, reduceIte, List.length_map]; exact r) (by omega) (by omega) ?_
        refine loop_ix (fun i g O' => O3 = O' ∧ ∃ x5 x6 x7 x8 x9 x10 x11 x12 x13 x14 x15 x16 x17, g = [some (.lst (ns.map D.int)), some (.ref b), some t, some (.lst (bs.map bxR)), some (.lst ((outl bs).map sgD)), x5, x6, x7, x8, x9, x10, x11, x12, x13, x14, x15, x16, x17]) ⟨rfl, _, _, _, _, _, _, _, _, _, _, _, _, _, rfl⟩ (fun _ _ _ _ => True.intro) ?_ ?_
        · rintro i x _ _ M2 hx2 ⟨rfl, x5, x6, x7, x8, x9, x10, x11, x12, x13, x14, x15, x16, x17, rfl⟩ hM2
          obtain ⟨hi, rfl⟩ := rgD_get' hx2
          have hi : i < (outl bs).length := by omega
          have a1 : atI ((outl bs).map sgD) (i : Int) = some (sgD ((outl bs).getD i (0, 0, 0))) := atI_map hi
          have hm := getD_mem (xs := outl bs) (i := i) (d := (0, 0, 0)) hi
          have ge : (outl bs)[i]? = some ((outl bs).getD i (0, 0, 0)) := by rw [List.getD_eq_getElem?_getD, List.getElem?_eq_getElem hi]; rfl
          generalize (outl bs).getD i (0, 0, 0) = z at *
          have ez : sgD z = .tup [pR z.1, pR z.2.1, .int z.2.2] := rfl
          have zb := hbz z hm
          have zl := good.lt z hm
          simp only [gN, List.set_cons_succ, List.set_cons_zero]
          refine seq1 fun N hN => ?_; simp only [dIfS, dAndT, dOrT, dNotT, dTest, dTruth, dTru, dAndV, dOrV, dNotV, dIf, dOp, dUn, dVar, dC, dI, dIc, dAdd, dSub, dMul, dFd, dMod, dPow, dNeg, dLt, dLe, dGt, dGe, dIsN, dNotN, DL.isNon, ix_pR0, ix_pR1, ix_tup, ix_lst, ix_ref, dSl, dPart, dNoPart, dCB, len_tup, len_lst, len_ref, dAbs, dList, dTuple, dBls, dSum, dIsi, dIsi2, dtOf, isC, seqOf, lstOf, dCons, dNil, dTup, dLst, dRet, dRetN, dNext, dDrop, dAsg, gN, gsNil, gsCons, gT, gSubD, dSetL, dPar, dAug, dIpAdd, dIpSub, dCall, eq_int, eq_str, eq_bl, ne_int, ne_str, ne_bl, eq_pR, ne_pR, plus_eq, less_eq, times_eq, over_eq, floor_eq, ceil_eq, part_eq, below_eq, seq_pR, pick_nil, pick_p, pick_k, pick_d, dBreak, dCont, dLM, dLM0, isL, dAppend, dInsert, dPop, dPopAt, dRevL, dStr, dFmt, dJs, dMax2, dMin2, dSorted, dNewK, dctOf, dGetK, dHasK, DL.keyOf, dPutK, dDelK, dSortedD, dSet, dLstF, dRevF, dSlF, dListF, dSortedF, dSortedDF, dMaxF, dMinF, dInS, dLtA, dNewT, dGetT, dHasT, dctT, tkOf, keysOf, dTupP, dPutT, dPutP, putTk, pkOf, dSortedTF, dGet1, dGet2, dGet2T, dDisp1, dRep, dInt, dBits, dExtend, dReverse, dMaxDf, dCat, dCatF, dExtL, dDcT, Option.isSome_some, List.getElem?_cons_zero, List.getElem?_cons_succ, List.set_cons_zero, List.set_cons_succ, atI_0, atI_1, atI_2, atI_3, atI_4, atI_5, ixN_0, ixN_1, ixN_2, ixN_3, ixN_4, ixN_5, up_same, List.length_cons, List.length_nil, Bool.not_true, Bool.not_false, Bool.false_eq_true, if_true, if_false, reduceIte, a1, ez]
          refine less_of (hsm zb.1) (hsm zb.2) ?_
          simp only [zl, decide_true, Bool.not_true, Bool.false_eq_true, if_false]
          subst hN
          cases i with
          | zero =>
            refine seq1 fun N hN => ?_; simp only [dIfS, dAndT, dOrT, dNotT, dTest, dTruth, dTru, dAndV, dOrV, dNotV, dIf, dOp, dUn, dVar, dC, dI, dIc, dAdd, dSub, dMul, dFd, dMod, dPow, dNeg, dLt, dLe, dGt, dGe, dIsN, dNotN, DL.isNon, ix_pR0, ix_pR1, ix_tup, ix_lst, ix_ref, dSl, dPart, dNoPart, dCB, len_tup, len_lst, len_ref, dAbs, dList, dTuple, dBls, dSum, dIsi, dIsi2, dtOf, isC, seqOf, lstOf, dCons, dNil, dTup, dLst, dRet, dRetN, dNext, dDrop, dAsg, gN, gsNil, gsCons, gT, gSubD, dSetL, dPar, dAug, dIpAdd, dIpSub, dCall, eq_int, eq_str, eq_bl, ne_int, ne_str, ne_bl, eq_pR, ne_pR, plus_eq, less_eq, times_eq, over_eq, floor_eq, ceil_eq, part_eq, below_eq, seq_pR, pick_nil, pick_p, pick_k, pick_d, dBreak, dCont, dLM, dLM0, isL, dAppend, dInsert, dPop, dPopAt, dRevL, dStr, dFmt, dJs, dMax2, dMin2, dSorted, dNewK, dctOf, dGetK, dHasK, DL.keyOf, dPutK, dDelK, dSortedD, dSet, dLstF, dRevF, dSlF, dListF, dSortedF, dSortedDF, dMaxF, dMinF, dInS, dLtA, dNewT, dGetT, dHasT, dctT, tkOf, keysOf, dTupP, dPutT, dPutP, putTk, pkOf, dSortedTF, dGet1, dGet2, dGet2T, dDisp1, dRep, dInt, dBits, dExtend, dReverse, dMaxDf, dCat, dCatF, dExtL, dDcT, Option.isSome_some, List.getElem?_cons_zero, List.getElem?_cons_succ, List.set_cons_zero, List.set_cons_succ, atI_0, atI_1, atI_2, atI_3, atI_4, atI_5, ixN_0, ixN_1, ixN_2, ixN_3, ixN_4, ixN_5, up_same, List.length_cons, List.length_nil, Bool.not_true, Bool.not_false, Bool.false_eq_true, if_true, if_false, reduceIte]
            subst hN
            simp only [dIfS, dAndT, dOrT, dNotT, dTest, dTruth, dTru, dAndV, dOrV, dNotV, dIf, dOp, dUn, dVar, dC, dI, dIc, dAdd, dSub, dMul, dFd, dMod, dPow, dNeg, dLt, dLe, dGt, dGe, dIsN, dNotN, DL.isNon, ix_pR0, ix_pR1, ix_tup, ix_lst, ix_ref, dSl, dPart, dNoPart, dCB, len_tup, len_lst, len_ref, dAbs, dList, dTuple, dBls, dSum, dIsi, dIsi2, dtOf, isC, seqOf, lstOf, dCons, dNil, dTup, dLst, dRet, dRetN, dNext, dDrop, dAsg, gN, gsNil, gsCons, gT, gSubD, dSetL, dPar, dAug, dIpAdd, dIpSub, dCall, eq_int, eq_str, eq_bl, ne_int, ne_str, ne_bl, eq_pR, ne_pR, plus_eq, less_eq, times_eq, over_eq, floor_eq, ceil_eq, part_eq, below_eq, seq_pR, pick_nil, pick_p, pick_k, pick_d, dBreak, dCont, dLM, dLM0, isL, dAppend, dInsert, dPop, dPopAt, dRevL, dStr, dFmt, dJs, dMax2, dMin2, dSorted, dNewK, dctOf, dGetK, dHasK, DL.keyOf, dPutK, dDelK, dSortedD, dSet, dLstF, dRevF, dSlF, dListF, dSortedF, dSortedDF, dMaxF, dMinF, dInS, dLtA, dNewT, dGetT, dHasT, dctT, tkOf, keysOf, dTupP, dPutT, dPutP, putTk, pkOf, dSortedTF, dGet1, dGet2, dGet2T, dDisp1, dRep, dInt, dBits, dExtend, dReverse, dMaxDf, dCat, dCatF, dExtL, dDcT, Option.isSome_some, List.getElem?_cons_zero, List.getElem?_cons_succ, List.set_cons_zero, List.set_cons_succ, atI_0, atI_1, atI_2, atI_3, atI_4, atI_5, ixN_0, ixN_1, ixN_2, ixN_3, ixN_4, ixN_5, up_same, List.length_cons, List.length_nil, Bool.not_true, Bool.not_false, Bool.false_eq_true, if_true, if_false, reduceIte]
            exact hM2 _ _ ⟨rfl, _, _, _, _, _, _, _, _, _, _, _, _, _, rfl⟩
          | succ i =>
            have e1 : (((i + 1 : Nat) : Int) - 1) = (i : Nat) := by omega
            have hpos : ((i + 1 : Nat) : Int) > 0 := by omega
            have a2 : atI ((outl bs).map sgD) ((i : Nat) : Int) = some (sgD ((outl bs).getD i (0, 0, 0))) := atI_map (by omega)
            have hm2 := getD_mem (xs := outl bs) (i := i) (d := (0, 0, 0)) (by omega)
            have ge2 : (outl bs)[i]? = some ((outl bs).getD i (0, 0, 0)) := by rw [List.getD_eq_getElem?_getD, List.getElem?_eq_getElem (by omega)]; rfl
            generalize (outl bs).getD i (0, 0, 0) = y at *
            have ey : sgD y = .tup [pR y.1, pR y.2.1, .int y.2.2] := rfl
            have yb := hbz y hm2
            have hyz : y.2.1 ≤ z.1 := by
              have hp := List.pairwise_iff_getElem.mp good.pw i (i + 1) (by omega) hi (by omega)
              rw [List.getElem?_eq_getElem (by omega)] at ge2
              rw [List.getElem?_eq_getElem hi] at ge
              rw [Option.some.inj ge2, Option.some.inj ge] at hp
              exact hp
            have hun := good.un i y z ge2 ge
            refine seq1 fun N hN => ?_; simp only [dIfS, dAndT, dOrT, dNotT, dTest, dTruth, dTru, dAndV, dOrV, dNotV, dIf, dOp, dUn, dVar, dC, dI, dIc, dAdd, dSub, dMul, dFd, dMod, dPow, dNeg, dLt, dLe, dGt, dGe, dIsN, dNotN, DL.isNon, ix_pR0, ix_pR1, ix_tup, ix_lst, ix_ref, dSl, dPart, dNoPart, dCB, len_tup, len_lst, len_ref, dAbs, dList, dTuple, dBls, dSum, dIsi, dIsi2, dtOf, isC, seqOf, lstOf, dCons, dNil, dTup, dLst, dRet, dRetN, dNext, dDrop, dAsg, gN, gsNil, gsCons, gT, gSubD, dSetL, dPar, dAug, dIpAdd, dIpSub, dCall, eq_int, eq_str, eq_bl, ne_int, ne_str, ne_bl, eq_pR, ne_pR, plus_eq, less_eq, times_eq, over_eq, floor_eq, ceil_eq, part_eq, below_eq, seq_pR, pick_nil, pick_p, pick_k, pick_d, dBreak, dCont, dLM, dLM0, isL, dAppend, dInsert, dPop, dPopAt, dRevL, dStr, dFmt, dJs, dMax2, dMin2, dSorted, dNewK, dctOf, dGetK, dHasK, DL.keyOf, dPutK, dDelK, dSortedD, dSet, dLstF, dRevF, dSlF, dListF, dSortedF, dSortedDF, dMaxF, dMinF, dInS, dLtA, dNewT, dGetT, dHasT, dctT, tkOf, keysOf, dTupP, dPutT, dPutP, putTk, pkOf, dSortedTF, dGet1, dGet2, dGet2T, dDisp1, dRep, dInt, dBits, dExtend, dReverse, dMaxDf, dCat, dCatF, dExtL, dDcT, Option.isSome_some, List.getElem?_cons_zero, List.getElem?_cons_succ, List.set_cons_zero, List.set_cons_succ, atI_0, atI_1, atI_2, atI_3, atI_4, atI_5, ixN_0, ixN_1, ixN_2, ixN_3, ixN_4, ixN_5, up_same, List.length_cons, List.length_nil, Bool.not_true, Bool.not_false, Bool.false_eq_true, if_true, if_false, reduceIte, e1, hpos, decide_true, a1, a2, ez, ey]
            refine less_of (hsm zb.1) (hsm yb.2) ?_
            have hnl : ¬ z.1 < y.2.1 := by grind
            simp only [hnl, decide_false, Bool.false_eq_true, if_false]
            subst hN
            simp only [dIfS, dAndT, dOrT, dNotT, dTest, dTruth, dTru, dAndV, dOrV, dNotV, dIf, dOp, dUn, dVar, dC, dI, dIc, dAdd, dSub, dMul, dFd, dMod, dPow, dNeg, dLt, dLe, dGt, dGe, dIsN, dNotN, DL.isNon, ix_pR0, ix_pR1, ix_tup, ix_lst, ix_ref, dSl, dPart, dNoPart, dCB, len_tup, len_lst, len_ref, dAbs, dList, dTuple, dBls, dSum, dIsi, dIsi2, dtOf, isC, seqOf, lstOf, dCons, dNil, dTup, dLst, dRet, dRetN, dNext, dDrop, dAsg, gN, gsNil, gsCons, gT, gSubD, dSetL, dPar, dAug, dIpAdd, dIpSub, dCall, eq_int, eq_str, eq_bl, ne_int, ne_str, ne_bl, eq_pR, ne_pR, plus_eq, less_eq, times_eq, over_eq, floor_eq, ceil_eq, part_eq, below_eq, seq_pR, pick_nil, pick_p, pick_k, pick_d, dBreak, dCont, dLM, dLM0, isL, dAppend, dInsert, dPop, dPopAt, dRevL, dStr, dFmt, dJs, dMax2, dMin2, dSorted, dNewK, dctOf, dGetK, dHasK, DL.keyOf, dPutK, dDelK, dSortedD, dSet, dLstF, dRevF, dSlF, dListF, dSortedF, dSortedDF, dMaxF, dMinF, dInS, dLtA, dNewT, dGetT, dHasT, dctT, tkOf, keysOf, dTupP, dPutT, dPutP, putTk, pkOf, dSortedTF, dGet1, dGet2, dGet2T, dDisp1, dRep, dInt, dBits, dExtend, dReverse, dMaxDf, dCat, dCatF, dExtL, dDcT, Option.isSome_some, List.getElem?_cons_zero, List.getElem?_cons_succ, List.set_cons_zero, List.set_cons_succ, atI_0, atI_1, atI_2, atI_3, atI_4, atI_5, ixN_0, ixN_1, ixN_2, ixN_3, ixN_4, ixN_5, up_same, List.length_cons, List.length_nil, Bool.not_true, Bool.not_false, Bool.false_eq_true, if_true, if_false, reduceIte, e1, hpos, decide_true, a1, a2, ez, ey]
            by_cases c1 : z.1 = y.2.1
            · have c2 : ¬ z.2.2 = y.2.2 := fun c2 => hun ⟨c1, c2⟩
              simp only [c1, c2, decide_true, decide_false, Bool.false_eq_true, if_true, if_false]
              exact hM2 _ _ ⟨rfl, _, _, _, _, _, _, _, _, _, _, _, _, _, rfl⟩
            · simp only [c1, decide_false, Bool.false_eq_true, if_false]
              exact hM2 _ _ ⟨rfl, _, _, _, _, _, _, _, _, _, _, _, _, _, rfl⟩
        · rintro _ _ ⟨rfl, x5, x6, x7, x8, x9, x10, x11, x12, x13, x14, x15, x16, x17, rfl⟩
          exact hN _ _ ⟨rfl, _, _, _, _, _, _, _, _, _, _, _, _, _, rfl⟩
      rintro _ _ ⟨rfl, x5, x6, x7, x8, x9, x10, x11, x12, x13, x14, x15, x16, x17, rfl⟩
      refine seq1 fun N hN => ?_; simp only [dIfS, dAndT, dOrT, dNotT, dTest, dTruth, dTru, dAndV, dOrV, dNotV, dIf, dOp, dUn, dVar, dC, dI, dIc, dAdd, dSub, dMul, dFd, dMod, dPow, dNeg, dLt, dLe, dGt, dGe, dIsN, dNotN, DL.isNon, ix_pR0, ix_pR1, ix_tup, ix_lst, ix_ref, dSl, dPart, dNoPart, dCB, len_tup, len_lst, len_ref, dAbs, dList, dTuple, dBls, dSum, dIsi, dIsi2, dtOf, isC, seqOf, lstOf, dCons, dNil, dTup, dLst, dRet, dRetN, dNext, dDrop, dAsg, gN, gsNil, gsCons, gT, gSubD, dSetL, dPar, dAug, dIpAdd, dIpSub, dCall, eq_int, eq_str, eq_bl, ne_int, ne_str, ne_bl, eq_pR, ne_pR, plus_eq, less_eq, times_eq, over_eq, floor_eq, ceil_eq, part_eq, below_eq, seq_pR, pick_nil, pick_p, pick_k, pick_d, dBreak, dCont, dLM, dLM0, isL, dAppend, dInsert, dPop, dPopAt, dRevL, dStr, dFmt, dJs, dMax2, dMin2, dSorted, dNewK, dctOf, dGetK, dHasK, DL.keyOf, dPutK, dDelK, dSortedD, dSet, dLstF, dRevF, dSlF, dListF, dSortedF, dSortedDF, dMaxF, dMinF, dInS, dLtA, dNewT, dGetT, dHasT, dctT, tkOf, keysOf, dTupP, dPutT, dPutP, putTk, pkOf, dSortedTF, dGet1, dGet2, dGet2T, dDisp1, dRep, dInt, dBits, dExtend, dReverse, dMaxDf, dCat, dCatF, dExtL, dDcT, Option.isSome_some, List.getElem?_cons_zero, List.getElem?_cons_succ, List.set_cons_zero, List.set_cons_succ, atI_0, atI_1, atI_2, atI_3, atI_4, atI_5, ixN_0, ixN_1, ixN_2, ixN_3, ixN_4, ixN_5, up_same, List.length_cons, List.length_nil, Bool.not_true, Bool.not_false, Bool.false_eq_true, if_true, if_false, reduceIte]
      refine ⟨by rw [List.length_map, List.length_map, sizeLine_eq]; omega, (bs.map fun b => ((b.l, b.r, [.int b.lo, .int b.hi]) : Bw)) ++ (outl bs).map fun z => ((z.1, z.2.1, [.int z.2.2]) : Bw), 30, by rw [List.map_append, ← bgD_bx, ← sgB], fun q hq => ?_, by decide, by decide, by rw [List.length_append, List.length_map, List.length_map]; omega, ?_⟩
      · have h1 := (srt_mem _ q).mpr hq
        rw [edges_all] at h1
        exact edgs_bz hge q ((srt_mem _ q).mp h1)
      rw [edges_all]
      subst hN
      have hE : ∀ q ∈ srt (edgs bs), Bz 30 q := fun q hq => edgs_bz hge q ((srt_mem _ _).mp hq)
      have hEl : (srt (edgs bs)).length ≤ 100 := by
        have := srt_len (edgs bs)
        rw [edgs_len] at this
        omega
      obtain ⟨pw, plt⟩ := prs_ok (srt_lt (edgs bs))
      refine seq_by (fun g O' => O3 = O' ∧ ∃ x5 x7 x8 x9 x10 x11 x12 x13 x14 x15 x16 x17, g = [some (.lst (ns.map D.int)), some (.ref b), some t, some (.lst (bs.map bxR)), some (.lst ((outl bs).map sgD)), x5, some (.lst ((srt (edgs bs)).map pR)), x7, x8, x9, x10, x11, x12, x13, x14, x15, x16, x17]) (fun N hN => ?_) ?_
      · refine for1 (j := ((srt (edgs bs)).length : Int) - 1) (fun R r => by simp only [dIfS, dAndT, dOrT, dNotT, dTest, dTruth, dTru, dAndV, dOrV, dNotV, dIf, dOp, dUn, dVar, dC, dI, dIc, dAdd, dSub, dMul, dFd, dMod, dPow, dNeg, dLt, dLe, dGt, dGe, dIsN, dNotN, DL.isNon, ix_pR0, ix_pR1, ix_tup, ix_lst, ix_ref, dSl, dPart, dNoPart, dCB, len_tup, len_lst, len_ref, dAbs, dList, dTuple, dBls, dSum, dIsi, dIsi2, dtOf, isC, seqOf, lstOf, dCons, dNil, dTup, dLst, dRet, dRetN, dNext, dDrop, dAsg, gN, gsNil, gsCons, gT, gSubD, dSetL, dPar, dAug, dIpAdd, dIpSub, dCall, eq_int, eq_str, eq_bl, ne_int, ne_str, ne_bl, eq_pR, ne_pR, plus_eq, less_eq, times_eq, over_eq, floor_eq, ceil_eq, part_eq, below_eq, seq_pR, pick_nil, pick_p, pick_k, pick_d, dBreak, dCont, dLM, dLM0, isL, dAppend, dInsert, dPop, dPopAt, dRevL, dStr, dFmt, dJs, dMax2, dMin2, dSorted, dNewK, dctOf, dGetK, dHasK, DL.keyOf, dPutK, dDelK, dSortedD, dSet, dLstF, dRevF, dSlF, dListF, dSortedF, dSortedDF, dMaxF, dMinF, dInS, dLtA, dNewT, dGetT, dHasT, dctT, tkOf, keysOf, dTupP, dPutT, dPutP, putTk, pkOf, dSortedTF, dGet1, dGet2, dGet2T, dDisp1, dRep, dInt, dBits, dExtend, dReverse, dMaxDf, dCat, dCatF, dExtL, dDcT, Option.isSome_some, List.getElem?_cons_zero, List.getElem?_cons_succ, List.set_cons_zero, List.set_cons_succ, atI_0, atI_1, atI_2, atI_3, atI_4, atI_5, ixN_0, ixN_1, ixN_2, ixN_3, ixN_4, ixN_5, up_same, List.length_cons, List.length_nil, Bool.not_true, Bool.not_false, Bool.false_eq_true, if_true, if_false, reduceIte, List.length_map]; exact r) (by omega) (by omega) ?_
        have hn : (((srt (edgs bs)).length : Int) - 1).toNat = (prs (srt (edgs bs))).length := by rw [prs_len']; omega
        rw [hn]
        refine loop_ix (fun i g O' => O3 = O' ∧ ∃ x5 x7 x8 x9 x10 x11 x12 x13 x14 x15 x16 x17, g = [some (.lst (ns.map D.int)), some (.ref b), some t, some (.lst (bs.map bxR)), some (.lst ((outl bs).map sgD)), x5, some (.lst ((srt (edgs bs)).map pR)), x7, x8, x9, x10, x11, x12, x13, x14, x15, x16, x17]) ⟨rfl, _, _, _, _, _, _, _, _, _, _, _, _, rfl⟩ (fun _ _ _ _ => True.intro) ?_ ?_
        · rintro i x _ _ M2 hx2 ⟨rfl, x5, x7, x8, x9, x10, x11, x12, x13, x14, x15, x16, x17, rfl⟩ hM2
          obtain ⟨hi2, rfl⟩ := rgD_get' hx2
          have hi3 : i + 1 < (srt (edgs bs)).length := by rw [prs_len'] at hi2; omega
          have hg := List.mem_of_getElem? (prs_get _ hi3)
          have a1 : atI ((srt (edgs bs)).map pR) (i : Int) = some (pR ((srt (edgs bs)).getD i 0)) := atI_map (by omega)
          have a2 : atI ((srt (edgs bs)).map pR) ((i : Int) + 1) = some (pR ((srt (edgs bs)).getD (i + 1) 0)) := by
            have : ((i : Int) + 1) = ((i + 1 : Nat) : Int) := by omega
            rw [this]; exact atI_map hi3
          have b1 := hE _ (getD_mem (xs := srt (edgs bs)) (i := i) (d := 0) (by omega))
          have b2 := hE _ (getD_mem (xs := srt (edgs bs)) (i := i + 1) (d := 0) hi3)
          generalize (srt (edgs bs)).getD i 0 = ea at *
          generalize (srt (edgs bs)).getD (i + 1) 0 = eb at *
          have hlt : ea < eb := plt _ hg
          obtain ⟨m1, m2⟩ := half_ok ea eb hlt
          have e2 : D.tup [.int 1, .int 2] = pR (mkRat 1 2) := rfl
          have hh : Bz 2 (mkRat 1 2) := ⟨by decide, by decide⟩
          have hs := b1.add b2
          have hmz : Bz 70 (mkRat 1 2 * (ea + eb)) := (hh.mul hs).mono (by decide)
          have tm := tops_mid hg m1 m2
          have hm := hts_mid hg m1 m2
          have ho := hts_outl bs hg
          simp only [gN, List.set_cons_succ, List.set_cons_zero]
          refine seq1 fun N hN => ?_; simp only [dIfS, dAndT, dOrT, dNotT, dTest, dTruth, dTru, dAndV, dOrV, dNotV, dIf, dOp, dUn, dVar, dC, dI, dIc, dAdd, dSub, dMul, dFd, dMod, dPow, dNeg, dLt, dLe, dGt, dGe, dIsN, dNotN, DL.isNon, ix_pR0, ix_pR1, ix_tup, ix_lst, ix_ref, dSl, dPart, dNoPart, dCB, len_tup, len_lst, len_ref, dAbs, dList, dTuple, dBls, dSum, dIsi, dIsi2, dtOf, isC, seqOf, lstOf, dCons, dNil, dTup, dLst, dRet, dRetN, dNext, dDrop, dAsg, gN, gsNil, gsCons, gT, gSubD, dSetL, dPar, dAug, dIpAdd, dIpSub, dCall, eq_int, eq_str, eq_bl, ne_int, ne_str, ne_bl, eq_pR, ne_pR, plus_eq, less_eq, times_eq, over_eq, floor_eq, ceil_eq, part_eq, below_eq, seq_pR, pick_nil, pick_p, pick_k, pick_d, dBreak, dCont, dLM, dLM0, isL, dAppend, dInsert, dPop, dPopAt, dRevL, dStr, dFmt, dJs, dMax2, dMin2, dSorted, dNewK, dctOf, dGetK, dHasK, DL.keyOf, dPutK, dDelK, dSortedD, dSet, dLstF, dRevF, dSlF, dListF, dSortedF, dSortedDF, dMaxF, dMinF, dInS, dLtA, dNewT, dGetT, dHasT, dctT, tkOf, keysOf, dTupP, dPutT, dPutP, putTk, pkOf, dSortedTF, dGet1, dGet2, dGet2T, dDisp1, dRep, dInt, dBits, dExtend, dReverse, dMaxDf, dCat, dCatF, dExtL, dDcT, Option.isSome_some, List.getElem?_cons_zero, List.getElem?_cons_succ, List.set_cons_zero, List.set_cons_succ, atI_0, atI_1, atI_2, atI_3, atI_4, atI_5, ixN_0, ixN_1, ixN_2, ixN_3, ixN_4, ixN_5, up_same, List.length_cons, List.length_nil, Bool.not_true, Bool.not_false, Bool.false_eq_true, if_true, if_false, reduceIte, a1, a2, e2, ladd_eq, lmul_eq]
          refine ⟨Two.of b1 b2, Two.of hh hs, ?_⟩
          subst hN
          generalize mkRat 1 2 * (ea + eb) = md at *
          refine seq1 fun N hN => ?_; simp only [dIfS, dAndT, dOrT, dNotT, dTest, dTruth, dTru, dAndV, dOrV, dNotV, dIf, dOp, dUn, dVar, dC, dI, dIc, dAdd, dSub, dMul, dFd, dMod, dPow, dNeg, dLt, dLe, dGt, dGe, dIsN, dNotN, DL.isNon, ix_pR0, ix_pR1, ix_tup, ix_lst, ix_ref, dSl, dPart, dNoPart, dCB, len_tup, len_lst, len_ref, dAbs, dList, dTuple, dBls, dSum, dIsi, dIsi2, dtOf, isC, seqOf, lstOf, dCons, dNil, dTup, dLst, dRet, dRetN, dNext, dDrop, dAsg, gN, gsNil, gsCons, gT, gSubD, dSetL, dPar, dAug, dIpAdd, dIpSub, dCall, eq_int, eq_str, eq_bl, ne_int, ne_str, ne_bl, eq_pR, ne_pR, plus_eq, less_eq, times_eq, over_eq, floor_eq, ceil_eq, part_eq, below_eq, seq_pR, pick_nil, pick_p, pick_k, pick_d, dBreak, dCont, dLM, dLM0, isL, dAppend, dInsert, dPop, dPopAt, dRevL, dStr, dFmt, dJs, dMax2, dMin2, dSorted, dNewK, dctOf, dGetK, dHasK, DL.keyOf, dPutK, dDelK, dSortedD, dSet, dLstF, dRevF, dSlF, dListF, dSortedF, dSortedDF, dMaxF, dMinF, dInS, dLtA, dNewT, dGetT, dHasT, dctT, tkOf, keysOf, dTupP, dPutT, dPutP, putTk, pkOf, dSortedTF, dGet1, dGet2, dGet2T, dDisp1, dRep, dInt, dBits, dExtend, dReverse, dMaxDf, dCat, dCatF, dExtL, dDcT, Option.isSome_some, List.getElem?_cons_zero, List.getElem?_cons_succ, List.set_cons_zero, List.set_cons_succ, atI_0, atI_1, atI_2, atI_3, atI_4, atI_5, ixN_0, ixN_1, ixN_2, ixN_3, ixN_4, ixN_5, up_same, List.length_cons, List.length_nil, Bool.not_true, Bool.not_false, Bool.false_eq_true, if_true, if_false, reduceIte, a1, a2]
          subst hN
          refine seq1 fun N hN => ?_; simp only [dIfS, dAndT, dOrT, dNotT, dTest, dTruth, dTru, dAndV, dOrV, dNotV, dIf, dOp, dUn, dVar, dC, dI, dIc, dAdd, dSub, dMul, dFd, dMod, dPow, dNeg, dLt, dLe, dGt, dGe, dIsN, dNotN, DL.isNon, ix_pR0, ix_pR1, ix_tup, ix_lst, ix_ref, dSl, dPart, dNoPart, dCB, len_tup, len_lst, len_ref, dAbs, dList, dTuple, dBls, dSum, dIsi, dIsi2, dtOf, isC, seqOf, lstOf, dCons, dNil, dTup, dLst, dRet, dRetN, dNext, dDrop, dAsg, gN, gsNil, gsCons, gT, gSubD, dSetL, dPar, dAug, dIpAdd, dIpSub, dCall, eq_int, eq_str, eq_bl, ne_int, ne_str, ne_bl, eq_pR, ne_pR, plus_eq, less_eq, times_eq, over_eq, floor_eq, ceil_eq, part_eq, below_eq, seq_pR, pick_nil, pick_p, pick_k, pick_d, dBreak, dCont, dLM, dLM0, isL, dAppend, dInsert, dPop, dPopAt, dRevL, dStr, dFmt, dJs, dMax2, dMin2, dSorted, dNewK, dctOf, dGetK, dHasK, DL.keyOf, dPutK, dDelK, dSortedD, dSet, dLstF, dRevF, dSlF, dListF, dSortedF, dSortedDF, dMaxF, dMinF, dInS, dLtA, dNewT, dGetT, dHasT, dctT, tkOf, keysOf, dTupP, dPutT, dPutP, putTk, pkOf, dSortedTF, dGet1, dGet2, dGet2T, dDisp1, dRep, dInt, dBits, dExtend, dReverse, dMaxDf, dCat, dCatF, dExtL, dDcT, Option.isSome_some, List.getElem?_cons_zero, List.getElem?_cons_succ, List.set_cons_zero, List.set_cons_succ, atI_0, atI_1, atI_2, atI_3, atI_4, atI_5, ixN_0, ixN_1, ixN_2, ixN_3, ixN_4, ixN_5, up_same, List.length_cons, List.length_nil, Bool.not_true, Bool.not_false, Bool.false_eq_true, if_true, if_false, reduceIte, dFor, dRng1, dRng2, dRng3, dSeqI, dEnum, dEnumA, dZip, dLc, dLcF, wipeD]
          refine comp_typed (f := bxR) (fun x => mt ⟨md, eb, 0, 0⟩ x) (fun x => .int x.hi) True.intro (by omega) (fun x hx N2 acc hacc y1 y2 => ?_) ?_
          · simp only [dIfS, dAndT, dOrT, dNotT, dTest, dTruth, dTru, dAndV, dOrV, dNotV, dIf, dOp, dUn, dVar, dC, dI, dIc, dAdd, dSub, dMul, dFd, dMod, dPow, dNeg, dLt, dLe, dGt, dGe, dIsN, dNotN, DL.isNon, ix_pR0, ix_pR1, ix_tup, ix_lst, ix_ref, dSl, dPart, dNoPart, dCB, len_tup, len_lst, len_ref, dAbs, dList, dTuple, dBls, dSum, dIsi, dIsi2, dtOf, isC, seqOf, lstOf, dCons, dNil, dTup, dLst, dRet, dRetN, dNext, dDrop, dAsg, gN, gsNil, gsCons, gT, gSubD, dSetL, dPar, dAug, dIpAdd, dIpSub, dCall, eq_int, eq_str, eq_bl, ne_int, ne_str, ne_bl, eq_pR, ne_pR, plus_eq, less_eq, times_eq, over_eq, floor_eq, ceil_eq, part_eq, below_eq, seq_pR, pick_nil, pick_p, pick_k, pick_d, dBreak, dCont, dLM, dLM0, isL, dAppend, dInsert, dPop, dPopAt, dRevL, dStr, dFmt, dJs, dMax2, dMin2, dSorted, dNewK, dctOf, dGetK, dHasK, DL.keyOf, dPutK, dDelK, dSortedD, dSet, dLstF, dRevF, dSlF, dListF, dSortedF, dSortedDF, dMaxF, dMinF, dInS, dLtA, dNewT, dGetT, dHasT, dctT, tkOf, keysOf, dTupP, dPutT, dPutP, putTk, pkOf, dSortedTF, dGet1, dGet2, dGet2T, dDisp1, dRep, dInt, dBits, dExtend, dReverse, dMaxDf, dCat, dCatF, dExtL, dDcT, Option.isSome_some, List.getElem?_cons_zero, List.getElem?_cons_succ, List.set_cons_zero, List.set_cons_succ, atI_0, atI_1, atI_2, atI_3, atI_4, atI_5, ixN_0, ixN_1, ixN_2, ixN_3, ixN_4, ixN_5, up_same, List.length_cons, List.length_nil, Bool.not_true, Bool.not_false, Bool.false_eq_true, if_true, if_false, reduceIte]
            refine meetR (md, eb) x hmz (b2.mono (by decide)) (by decide) (by decide) (hge x hx) ?_
            cases em : mt ⟨md, eb, 0, 0⟩ x with
            | true =>
              simp only [dIfS, dAndT, dOrT, dNotT, dTest, dTruth, dTru, dAndV, dOrV, dNotV, dIf, dOp, dUn, dVar, dC, dI, dIc, dAdd, dSub, dMul, dFd, dMod, dPow, dNeg, dLt, dLe, dGt, dGe, dIsN, dNotN, DL.isNon, ix_pR0, ix_pR1, ix_tup, ix_lst, ix_ref, dSl, dPart, dNoPart, dCB, len_tup, len_lst, len_ref, dAbs, dList, dTuple, dBls, dSum, dIsi, dIsi2, dtOf, isC, seqOf, lstOf, dCons, dNil, dTup, dLst, dRet, dRetN, dNext, dDrop, dAsg, gN, gsNil, gsCons, gT, gSubD, dSetL, dPar, dAug, dIpAdd, dIpSub, dCall, eq_int, eq_str, eq_bl, ne_int, ne_str, ne_bl, eq_pR, ne_pR, plus_eq, less_eq, times_eq, over_eq, floor_eq, ceil_eq, part_eq, below_eq, seq_pR, pick_nil, pick_p, pick_k, pick_d, dBreak, dCont, dLM, dLM0, isL, dAppend, dInsert, dPop, dPopAt, dRevL, dStr, dFmt, dJs, dMax2, dMin2, dSorted, dNewK, dctOf, dGetK, dHasK, DL.keyOf, dPutK, dDelK, dSortedD, dSet, dLstF, dRevF, dSlF, dListF, dSortedF, dSortedDF, dMaxF, dMinF, dInS, dLtA, dNewT, dGetT, dHasT, dctT, tkOf, keysOf, dTupP, dPutT, dPutP, putTk, pkOf, dSortedTF, dGet1, dGet2, dGet2T, dDisp1, dRep, dInt, dBits, dExtend, dReverse, dMaxDf, dCat, dCatF, dExtL, dDcT, Option.isSome_some, List.getElem?_cons_zero, List.getElem?_cons_succ, List.set_cons_zero, List.set_cons_succ, atI_0, atI_1, atI_2, atI_3, atI_4, atI_5, ixN_0, ixN_1, ixN_2, ixN_3, ixN_4, ixN_5, up_same, List.length_cons, List.length_nil, Bool.not_true, Bool.not_false, Bool.false_eq_true, if_true, if_false, reduceIte, ix_bx3]
              exact ⟨hacc, y1 em⟩
            | false =>
              simp only [dIfS, dAndT, dOrT, dNotT, dTest, dTruth, dTru, dAndV, dOrV, dNotV, dIf, dOp, dUn, dVar, dC, dI, dIc, dAdd, dSub, dMul, dFd, dMod, dPow, dNeg, dLt, dLe, dGt, dGe, dIsN, dNotN, DL.isNon, ix_pR0, ix_pR1, ix_tup, ix_lst, ix_ref, dSl, dPart, dNoPart, dCB, len_tup, len_lst, len_ref, dAbs, dList, dTuple, dBls, dSum, dIsi, dIsi2, dtOf, isC, seqOf, lstOf, dCons, dNil, dTup, dLst, dRet, dRetN, dNext, dDrop, dAsg, gN, gsNil, gsCons, gT, gSubD, dSetL, dPar, dAug, dIpAdd, dIpSub, dCall, eq_int, eq_str, eq_bl, ne_int, ne_str, ne_bl, eq_pR, ne_pR, plus_eq, less_eq, times_eq, over_eq, floor_eq, ceil_eq, part_eq, below_eq, seq_pR, pick_nil, pick_p, pick_k, pick_d, dBreak, dCont, dLM, dLM0, isL, dAppend, dInsert, dPop, dPopAt, dRevL, dStr, dFmt, dJs, dMax2, dMin2, dSorted, dNewK, dctOf, dGetK, dHasK, DL.keyOf, dPutK, dDelK, dSortedD, dSet, dLstF, dRevF, dSlF, dListF, dSortedF, dSortedDF, dMaxF, dMinF, dInS, dLtA, dNewT, dGetT, dHasT, dctT, tkOf, keysOf, dTupP, dPutT, dPutP, putTk, pkOf, dSortedTF, dGet1, dGet2, dGet2T, dDisp1, dRep, dInt, dBits, dExtend, dReverse, dMaxDf, dCat, dCatF, dExtL, dDcT, Option.isSome_some, List.getElem?_cons_zero, List.getElem?_cons_succ, List.set_cons_zero, List.set_cons_succ, atI_0, atI_1, atI_2, atI_3, atI_4, atI_5, ixN_0, ixN_1, ixN_2, ixN_3, ixN_4, ixN_5, up_same, List.length_cons, List.length_nil, Bool.not_true, Bool.not_false, Bool.false_eq_true, if_true, if_false, reduceIte]
              exact y2 em
          · have et : (bs.filter fun x => mt ⟨md, eb, 0, 0⟩ x).map (fun x => D.int x.hi) = (tops bs (md, eb)).map D.int := by unfold tops; rw [List.map_map]; rfl
            rw [et, tm]
            subst hN
            refine seq_by (fun g O' => O3 = O' ∧ g = [some (.lst (ns.map D.int)), some (.ref b), some t, some (.lst (bs.map bxR)), some (.lst ((outl bs).map sgD)), some (.int (i : Nat)), some (.lst ((srt (edgs bs)).map pR)), some (pR md), some (.tup [pR md, pR eb, .int 0, .int 1]), some (.lst ((tops bs (ea, eb)).map D.int)), some (.lst ((hts (ea, eb) (outl bs)).map D.int)), x11, x12, x13, x14, x15, x16, x17]) (fun N hN => ?_) ?_
            · simp only [dIfS, dAndT, dOrT, dNotT, dTest, dTruth, dTru, dAndV, dOrV, dNotV, dIf, dOp, dUn, dVar, dC, dI, dIc, dAdd, dSub, dMul, dFd, dMod, dPow, dNeg, dLt, dLe, dGt, dGe, dIsN, dNotN, DL.isNon, ix_pR0, ix_pR1, ix_tup, ix_lst, ix_ref, dSl, dPart, dNoPart, dCB, len_tup, len_lst, len_ref, dAbs, dList, dTuple, dBls, dSum, dIsi, dIsi2, dtOf, isC, seqOf, lstOf, dCons, dNil, dTup, dLst, dRet, dRetN, dNext, dDrop, dAsg, gN, gsNil, gsCons, gT, gSubD, dSetL, dPar, dAug, dIpAdd, dIpSub, dCall, eq_int, eq_str, eq_bl, ne_int, ne_str, ne_bl, eq_pR, ne_pR, plus_eq, less_eq, times_eq, over_eq, floor_eq, ceil_eq, part_eq, below_eq, seq_pR, pick_nil, pick_p, pick_k, pick_d, dBreak, dCont, dLM, dLM0, isL, dAppend, dInsert, dPop, dPopAt, dRevL, dStr, dFmt, dJs, dMax2, dMin2, dSorted, dNewK, dctOf, dGetK, dHasK, DL.keyOf, dPutK, dDelK, dSortedD, dSet, dLstF, dRevF, dSlF, dListF, dSortedF, dSortedDF, dMaxF, dMinF, dInS, dLtA, dNewT, dGetT, dHasT, dctT, tkOf, keysOf, dTupP, dPutT, dPutP, putTk, pkOf, dSortedTF, dGet1, dGet2, dGet2T, dDisp1, dRep, dInt, dBits, dExtend, dReverse, dMaxDf, dCat, dCatF, dExtL, dDcT, Option.isSome_some, List.getElem?_cons_zero, List.getElem?_cons_succ, List.set_cons_zero, List.set_cons_succ, atI_0, atI_1, atI_2, atI_3, atI_4, atI_5, ixN_0, ixN_1, ixN_2, ixN_3, ixN_4, ixN_5, up_same, List.length_cons, List.length_nil, Bool.not_true, Bool.not_false, Bool.false_eq_true, if_true, if_false, reduceIte]
              refine eqN ?_
              by_cases h0 : tops bs (ea, eb) = []
              · rw [if_pos h0] at ho
                simp only [h0, decide_true, if_true]
                exact hN _ _ ⟨rfl, by rw [ho, h0]; rfl⟩
              · rw [if_neg h0] at ho
                simp only [h0, decide_false, Bool.false_eq_true, if_false]
                simp only [dIfS, dAndT, dOrT, dNotT, dTest, dTruth, dTru, dAndV, dOrV, dNotV, dIf, dOp, dUn, dVar, dC, dI, dIc, dAdd, dSub, dMul, dFd, dMod, dPow, dNeg, dLt, dLe, dGt, dGe, dIsN, dNotN, DL.isNon, ix_pR0, ix_pR1, ix_tup, ix_lst, ix_ref, dSl, dPart, dNoPart, dCB, len_tup, len_lst, len_ref, dAbs, dList, dTuple, dBls, dSum, dIsi, dIsi2, dtOf, isC, seqOf, lstOf, dCons, dNil, dTup, dLst, dRet, dRetN, dNext, dDrop, dAsg, gN, gsNil, gsCons, gT, gSubD, dSetL, dPar, dAug, dIpAdd, dIpSub, dCall, eq_int, eq_str, eq_bl, ne_int, ne_str, ne_bl, eq_pR, ne_pR, plus_eq, less_eq, times_eq, over_eq, floor_eq, ceil_eq, part_eq, below_eq, seq_pR, pick_nil, pick_p, pick_k, pick_d, dBreak, dCont, dLM, dLM0, isL, dAppend, dInsert, dPop, dPopAt, dRevL, dStr, dFmt, dJs, dMax2, dMin2, dSorted, dNewK, dctOf, dGetK, dHasK, DL.keyOf, dPutK, dDelK, dSortedD, dSet, dLstF, dRevF, dSlF, dListF, dSortedF, dSortedDF, dMaxF, dMinF, dInS, dLtA, dNewT, dGetT, dHasT, dctT, tkOf, keysOf, dTupP, dPutT, dPutP, putTk, pkOf, dSortedTF, dGet1, dGet2, dGet2T, dDisp1, dRep, dInt, dBits, dExtend, dReverse, dMaxDf, dCat, dCatF, dExtL, dDcT, Option.isSome_some, List.getElem?_cons_zero, List.getElem?_cons_succ, List.set_cons_zero, List.set_cons_succ, atI_0, atI_1, atI_2, atI_3, atI_4, atI_5, ixN_0, ixN_1, ixN_2, ixN_3, ixN_4, ixN_5, up_same, List.length_cons, List.length_nil, Bool.not_true, Bool.not_false, Bool.false_eq_true, if_true, if_false, reduceIte, intsOf_map]
                exact ⟨h0, hN _ _ ⟨rfl, by rw [ho]; rfl⟩⟩
            · rintro _ _ ⟨rfl, rfl⟩
              simp only [dIfS, dAndT, dOrT, dNotT, dTest, dTruth, dTru, dAndV, dOrV, dNotV, dIf, dOp, dUn, dVar, dC, dI, dIc, dAdd, dSub, dMul, dFd, dMod, dPow, dNeg, dLt, dLe, dGt, dGe, dIsN, dNotN, DL.isNon, ix_pR0, ix_pR1, ix_tup, ix_lst, ix_ref, dSl, dPart, dNoPart, dCB, len_tup, len_lst, len_ref, dAbs, dList, dTuple, dBls, dSum, dIsi, dIsi2, dtOf, isC, seqOf, lstOf, dCons, dNil, dTup, dLst, dRet, dRetN, dNext, dDrop, dAsg, gN, gsNil, gsCons, gT, gSubD, dSetL, dPar, dAug, dIpAdd, dIpSub, dCall, eq_int, eq_str, eq_bl, ne_int, ne_str, ne_bl, eq_pR, ne_pR, plus_eq, less_eq, times_eq, over_eq, floor_eq, ceil_eq, part_eq, below_eq, seq_pR, pick_nil, pick_p, pick_k, pick_d, dBreak, dCont, dLM, dLM0, isL, dAppend, dInsert, dPop, dPopAt, dRevL, dStr, dFmt, dJs, dMax2, dMin2, dSorted, dNewK, dctOf, dGetK, dHasK, DL.keyOf, dPutK, dDelK, dSortedD, dSet, dLstF, dRevF, dSlF, dListF, dSortedF, dSortedDF, dMaxF, dMinF, dInS, dLtA, dNewT, dGetT, dHasT, dctT, tkOf, keysOf, dTupP, dPutT, dPutP, putTk, pkOf, dSortedTF, dGet1, dGet2, dGet2T, dDisp1, dRep, dInt, dBits, dExtend, dReverse, dMaxDf, dCat, dCatF, dExtL, dDcT, Option.isSome_some, List.getElem?_cons_zero, List.getElem?_cons_succ, List.set_cons_zero, List.set_cons_succ, atI_0, atI_1, atI_2, atI_3, atI_4, atI_5, ixN_0, ixN_1, ixN_2, ixN_3, ixN_4, ixN_5, up_same, List.length_cons, List.length_nil, Bool.not_true, Bool.not_false, Bool.false_eq_true, if_true, if_false, reduceIte, dFor, dRng1, dRng2, dRng3, dSeqI, dEnum, dEnumA, dZip, dLc, dLcF, wipeD]
              refine comp_typed (f := sgD) (fun z => mt ⟨md, eb, 0, 0⟩ ⟨z.1, z.2.1, z.2.2, z.2.2⟩) (fun z => .int z.2.2) True.intro (by omega) (fun z hz N2 acc hacc y1 y2 => ?_) ?_
              · have ez : sgD z = .tup [pR z.1, pR z.2.1, .int z.2.2] := rfl
                simp only [dIfS, dAndT, dOrT, dNotT, dTest, dTruth, dTru, dAndV, dOrV, dNotV, dIf, dOp, dUn, dVar, dC, dI, dIc, dAdd, dSub, dMul, dFd, dMod, dPow, dNeg, dLt, dLe, dGt, dGe, dIsN, dNotN, DL.isNon, ix_pR0, ix_pR1, ix_tup, ix_lst, ix_ref, dSl, dPart, dNoPart, dCB, len_tup, len_lst, len_ref, dAbs, dList, dTuple, dBls, dSum, dIsi, dIsi2, dtOf, isC, seqOf, lstOf, dCons, dNil, dTup, dLst, dRet, dRetN, dNext, dDrop, dAsg, gN, gsNil, gsCons, gT, gSubD, dSetL, dPar, dAug, dIpAdd, dIpSub, dCall, eq_int, eq_str, eq_bl, ne_int, ne_str, ne_bl, eq_pR, ne_pR, plus_eq, less_eq, times_eq, over_eq, floor_eq, ceil_eq, part_eq, below_eq, seq_pR, pick_nil, pick_p, pick_k, pick_d, dBreak, dCont, dLM, dLM0, isL, dAppend, dInsert, dPop, dPopAt, dRevL, dStr, dFmt, dJs, dMax2, dMin2, dSorted, dNewK, dctOf, dGetK, dHasK, DL.keyOf, dPutK, dDelK, dSortedD, dSet, dLstF, dRevF, dSlF, dListF, dSortedF, dSortedDF, dMaxF, dMinF, dInS, dLtA, dNewT, dGetT, dHasT, dctT, tkOf, keysOf, dTupP, dPutT, dPutP, putTk, pkOf, dSortedTF, dGet1, dGet2, dGet2T, dDisp1, dRep, dInt, dBits, dExtend, dReverse, dMaxDf, dCat, dCatF, dExtL, dDcT, Option.isSome_some, List.getElem?_cons_zero, List.getElem?_cons_succ, List.set_cons_zero, List.set_cons_succ, atI_0, atI_1, atI_2, atI_3, atI_4, atI_5, ixN_0, ixN_1, ixN_2, ixN_3, ixN_4, ixN_5, up_same, List.length_cons, List.length_nil, Bool.not_true, Bool.not_false, Bool.false_eq_true, if_true, if_false, reduceIte, ez]
                refine ⟨by simp, meetR (md, eb) ⟨z.1, z.2.1, z.2.2, z.2.2⟩ hmz (b2.mono (by decide)) (by decide) (by decide) ⟨(hbz z hz).1, (hbz z hz).2⟩ ?_⟩
                cases em : mt ⟨md, eb, 0, 0⟩ ⟨z.1, z.2.1, z.2.2, z.2.2⟩ with
                | true =>
                  simp only [dIfS, dAndT, dOrT, dNotT, dTest, dTruth, dTru, dAndV, dOrV, dNotV, dIf, dOp, dUn, dVar, dC, dI, dIc, dAdd, dSub, dMul, dFd, dMod, dPow, dNeg, dLt, dLe, dGt, dGe, dIsN, dNotN, DL.isNon, ix_pR0, ix_pR1, ix_tup, ix_lst, ix_ref, dSl, dPart, dNoPart, dCB, len_tup, len_lst, len_ref, dAbs, dList, dTuple, dBls, dSum, dIsi, dIsi2, dtOf, isC, seqOf, lstOf, dCons, dNil, dTup, dLst, dRet, dRetN, dNext, dDrop, dAsg, gN, gsNil, gsCons, gT, gSubD, dSetL, dPar, dAug, dIpAdd, dIpSub, dCall, eq_int, eq_str, eq_bl, ne_int, ne_str, ne_bl, eq_pR, ne_pR, plus_eq, less_eq, times_eq, over_eq, floor_eq, ceil_eq, part_eq, below_eq, seq_pR, pick_nil, pick_p, pick_k, pick_d, dBreak, dCont, dLM, dLM0, isL, dAppend, dInsert, dPop, dPopAt, dRevL, dStr, dFmt, dJs, dMax2, dMin2, dSorted, dNewK, dctOf, dGetK, dHasK, DL.keyOf, dPutK, dDelK, dSortedD, dSet, dLstF, dRevF, dSlF, dListF, dSortedF, dSortedDF, dMaxF, dMinF, dInS, dLtA, dNewT, dGetT, dHasT, dctT, tkOf, keysOf, dTupP, dPutT, dPutP, putTk, pkOf, dSortedTF, dGet1, dGet2, dGet2T, dDisp1, dRep, dInt, dBits, dExtend, dReverse, dMaxDf, dCat, dCatF, dExtL, dDcT, Option.isSome_some, List.getElem?_cons_zero, List.getElem?_cons_succ, List.set_cons_zero, List.set_cons_succ, atI_0, atI_1, atI_2, atI_3, atI_4, atI_5, ixN_0, ixN_1, ixN_2, ixN_3, ixN_4, ixN_5, up_same, List.length_cons, List.length_nil, Bool.not_true, Bool.not_false, Bool.false_eq_true, if_true, if_false, reduceIte]
                  exact ⟨hacc, y1 em⟩
                | false =>
                  simp only [dIfS, dAndT, dOrT, dNotT, dTest, dTruth, dTru, dAndV, dOrV, dNotV, dIf, dOp, dUn, dVar, dC, dI, dIc, dAdd, dSub, dMul, dFd, dMod, dPow, dNeg, dLt, dLe, dGt, dGe, dIsN, dNotN, DL.isNon, ix_pR0, ix_pR1, ix_tup, ix_lst, ix_ref, dSl, dPart, dNoPart, dCB, len_tup, len_lst, len_ref, dAbs, dList, dTuple, dBls, dSum, dIsi, dIsi2, dtOf, isC, seqOf, lstOf, dCons, dNil, dTup, dLst, dRet, dRetN, dNext, dDrop, dAsg, gN, gsNil, gsCons, gT, gSubD, dSetL, dPar, dAug, dIpAdd, dIpSub, dCall, eq_int, eq_str, eq_bl, ne_int, ne_str, ne_bl, eq_pR, ne_pR, plus_eq, less_eq, times_eq, over_eq, floor_eq, ceil_eq, part_eq, below_eq, seq_pR, pick_nil, pick_p, pick_k, pick_d, dBreak, dCont, dLM, dLM0, isL, dAppend, dInsert, dPop, dPopAt, dRevL, dStr, dFmt, dJs, dMax2, dMin2, dSorted, dNewK, dctOf, dGetK, dHasK, DL.keyOf, dPutK, dDelK, dSortedD, dSet, dLstF, dRevF, dSlF, dListF, dSortedF, dSortedDF, dMaxF, dMinF, dInS, dLtA, dNewT, dGetT, dHasT, dctT, tkOf, keysOf, dTupP, dPutT, dPutP, putTk, pkOf, dSortedTF, dGet1, dGet2, dGet2T, dDisp1, dRep, dInt, dBits, dExtend, dReverse, dMaxDf, dCat, dCatF, dExtL, dDcT, Option.isSome_some, List.getElem?_cons_zero, List.getElem?_cons_succ, List.set_cons_zero, List.set_cons_succ, atI_0, atI_1, atI_2, atI_3, atI_4, atI_5, ixN_0, ixN_1, ixN_2, ixN_3, ixN_4, ixN_5, up_same, List.length_cons, List.length_nil, Bool.not_true, Bool.not_false, Bool.false_eq_true, if_true, if_false, reduceIte]
                  exact y2 em
              · have et2 : ((outl bs).filter fun z => mt ⟨md, eb, 0, 0⟩ ⟨z.1, z.2.1, z.2.2, z.2.2⟩).map (fun z => D.int z.2.2) = (hts (ea, eb) (outl bs)).map D.int := by rw [← hm, List.map_map]; rfl
                rw [et2]
                refine neI ?_
                simp only [dIfS, dAndT, dOrT, dNotT, dTest, dTruth, dTru, dAndV, dOrV, dNotV, dIf, dOp, dUn, dVar, dC, dI, dIc, dAdd, dSub, dMul, dFd, dMod, dPow, dNeg, dLt, dLe, dGt, dGe, dIsN, dNotN, DL.isNon, ix_pR0, ix_pR1, ix_tup, ix_lst, ix_ref, dSl, dPart, dNoPart, dCB, len_tup, len_lst, len_ref, dAbs, dList, dTuple, dBls, dSum, dIsi, dIsi2, dtOf, isC, seqOf, lstOf, dCons, dNil, dTup, dLst, dRet, dRetN, dNext, dDrop, dAsg, gN, gsNil, gsCons, gT, gSubD, dSetL, dPar, dAug, dIpAdd, dIpSub, dCall, eq_int, eq_str, eq_bl, ne_int, ne_str, ne_bl, eq_pR, ne_pR, plus_eq, less_eq, times_eq, over_eq, floor_eq, ceil_eq, part_eq, below_eq, seq_pR, pick_nil, pick_p, pick_k, pick_d, dBreak, dCont, dLM, dLM0, isL, dAppend, dInsert, dPop, dPopAt, dRevL, dStr, dFmt, dJs, dMax2, dMin2, dSorted, dNewK, dctOf, dGetK, dHasK, DL.keyOf, dPutK, dDelK, dSortedD, dSet, dLstF, dRevF, dSlF, dListF, dSortedF, dSortedDF, dMaxF, dMinF, dInS, dLtA, dNewT, dGetT, dHasT, dctT, tkOf, keysOf, dTupP, dPutT, dPutP, putTk, pkOf, dSortedTF, dGet1, dGet2, dGet2T, dDisp1, dRep, dInt, dBits, dExtend, dReverse, dMaxDf, dCat, dCatF, dExtL, dDcT, Option.isSome_some, List.getElem?_cons_zero, List.getElem?_cons_succ, List.set_cons_zero, List.set_cons_succ, atI_0, atI_1, atI_2, atI_3, atI_4, atI_5, ixN_0, ixN_1, ixN_2, ixN_3, ixN_4, ixN_5, up_same, List.length_cons, List.length_nil, Bool.not_true, Bool.not_false, Bool.false_eq_true, if_true, if_false, reduceIte]
                exact hM2 _ _ ⟨rfl, _, _, _, _, _, _, _, _, _, _, _, _, rfl⟩
        · rintro _ _ ⟨rfl, x5, x7, x8, x9, x10, x11, x12, x13, x14, x15, x16, x17, rfl⟩
          exact hN _ _ ⟨rfl, _, _, _, _, _, _, _, _, _, _, _, _, rfl⟩
      rintro _ _ ⟨rfl, x5, x7, x8, x9, x10, x11, x12, x13, x14, x15, x16, x17, rfl⟩
      refine seq1 fun N hN => ?_; simp only [dIfS, dAndT, dOrT, dNotT, dTest, dTruth, dTru, dAndV, dOrV, dNotV, dIf, dOp, dUn, dVar, dC, dI, dIc, dAdd, dSub, dMul, dFd, dMod, dPow, dNeg, dLt, dLe, dGt, dGe, dIsN, dNotN, DL.isNon, ix_pR0, ix_pR1, ix_tup, ix_lst, ix_ref, dSl, dPart, dNoPart, dCB, len_tup, len_lst, len_ref, dAbs, dList, dTuple, dBls, dSum, dIsi, dIsi2, dtOf, isC, seqOf, lstOf, dCons, dNil, dTup, dLst, dRet, dRetN, dNext, dDrop, dAsg, gN, gsNil, gsCons, gT, gSubD, dSetL, dPar, dAug, dIpAdd, dIpSub, dCall, eq_int, eq_str, eq_bl, ne_int, ne_str, ne_bl, eq_pR, ne_pR, plus_eq, less_eq, times_eq, over_eq, floor_eq, ceil_eq, part_eq, below_eq, seq_pR, pick_nil, pick_p, pick_k, pick_d, dBreak, dCont, dLM, dLM0, isL, dAppend, dInsert, dPop, dPopAt, dRevL, dStr, dFmt, dJs, dMax2, dMin2, dSorted, dNewK, dctOf, dGetK, dHasK, DL.keyOf, dPutK, dDelK, dSortedD, dSet, dLstF, dRevF, dSlF, dListF, dSortedF, dSortedDF, dMaxF, dMinF, dInS, dLtA, dNewT, dGetT, dHasT, dctT, tkOf, keysOf, dTupP, dPutT, dPutP, putTk, pkOf, dSortedTF, dGet1, dGet2, dGet2T, dDisp1, dRep, dInt, dBits, dExtend, dReverse, dMaxDf, dCat, dCatF, dExtL, dDcT, Option.isSome_some, List.getElem?_cons_zero, List.getElem?_cons_succ, List.set_cons_zero, List.set_cons_succ, atI_0, atI_1, atI_2, atI_3, atI_4, atI_5, ixN_0, ixN_1, ixN_2, ixN_3, ixN_4, ixN_5, up_same, List.length_cons, List.length_nil, Bool.not_true, Bool.not_false, Bool.false_eq_true, if_true, if_false, reduceIte, dFor, dRng1, dRng2, dRng3, dSeqI, dEnum, dEnumA, dZip, dLc, dLcF, wipeD]
      refine comp_all (f := sgD) (fun z => bxR (bxS (0 - 50) z)) True.intro (by omega) (fun z hz N2 acc hacc y1 => ?_) ?_
      · have ez : sgD z = .tup [pR z.1, pR z.2.1, .int z.2.2] := rfl
        simp only [dIfS, dAndT, dOrT, dNotT, dTest, dTruth, dTru, dAndV, dOrV, dNotV, dIf, dOp, dUn, dVar, dC, dI, dIc, dAdd, dSub, dMul, dFd, dMod, dPow, dNeg, dLt, dLe, dGt, dGe, dIsN, dNotN, DL.isNon, ix_pR0, ix_pR1, ix_tup, ix_lst, ix_ref, dSl, dPart, dNoPart, dCB, len_tup, len_lst, len_ref, dAbs, dList, dTuple, dBls, dSum, dIsi, dIsi2, dtOf, isC, seqOf, lstOf, dCons, dNil, dTup, dLst, dRet, dRetN, dNext, dDrop, dAsg, gN, gsNil, gsCons, gT, gSubD, dSetL, dPar, dAug, dIpAdd, dIpSub, dCall, eq_int, eq_str, eq_bl, ne_int, ne_str, ne_bl, eq_pR, ne_pR, plus_eq, less_eq, times_eq, over_eq, floor_eq, ceil_eq, part_eq, below_eq, seq_pR, pick_nil, pick_p, pick_k, pick_d, dBreak, dCont, dLM, dLM0, isL, dAppend, dInsert, dPop, dPopAt, dRevL, dStr, dFmt, dJs, dMax2, dMin2, dSorted, dNewK, dctOf, dGetK, dHasK, DL.keyOf, dPutK, dDelK, dSortedD, dSet, dLstF, dRevF, dSlF, dListF, dSortedF, dSortedDF, dMaxF, dMinF, dInS, dLtA, dNewT, dGetT, dHasT, dctT, tkOf, keysOf, dTupP, dPutT, dPutP, putTk, pkOf, dSortedTF, dGet1, dGet2, dGet2T, dDisp1, dRep, dInt, dBits, dExtend, dReverse, dMaxDf, dCat, dCatF, dExtL, dDcT, Option.isSome_some, List.getElem?_cons_zero, List.getElem?_cons_succ, List.set_cons_zero, List.set_cons_succ, atI_0, atI_1, atI_2, atI_3, atI_4, atI_5, ixN_0, ixN_1, ixN_2, ixN_3, ixN_4, ixN_5, up_same, List.length_cons, List.length_nil, Bool.not_true, Bool.not_false, Bool.false_eq_true, if_true, if_false, reduceIte, ez, dYes]
        exact ⟨by simp, hacc, y1⟩
      subst hN
      have em : (outl bs).map (fun z => bxR (bxS (0 - 50) z)) = ((outl bs).map (bxS (0 - 50))).map bxR := by rw [List.map_map]; rfl
      rw [em]
      refine seq1 fun N hN => ?_; simp only [dIfS, dAndT, dOrT, dNotT, dTest, dTruth, dTru, dAndV, dOrV, dNotV, dIf, dOp, dUn, dVar, dC, dI, dIc, dAdd, dSub, dMul, dFd, dMod, dPow, dNeg, dLt, dLe, dGt, dGe, dIsN, dNotN, DL.isNon, ix_pR0, ix_pR1, ix_tup, ix_lst, ix_ref, dSl, dPart, dNoPart, dCB, len_tup, len_lst, len_ref, dAbs, dList, dTuple, dBls, dSum, dIsi, dIsi2, dtOf, isC, seqOf, lstOf, dCons, dNil, dTup, dLst, dRet, dRetN, dNext, dDrop, dAsg, gN, gsNil, gsCons, gT, gSubD, dSetL, dPar, dAug, dIpAdd, dIpSub, dCall, eq_int, eq_str, eq_bl, ne_int, ne_str, ne_bl, eq_pR, ne_pR, plus_eq, less_eq, times_eq, over_eq, floor_eq, ceil_eq, part_eq, below_eq, seq_pR, pick_nil, pick_p, pick_k, pick_d, dBreak, dCont, dLM, dLM0, isL, dAppend, dInsert, dPop, dPopAt, dRevL, dStr, dFmt, dJs, dMax2, dMin2, dSorted, dNewK, dctOf, dGetK, dHasK, DL.keyOf, dPutK, dDelK, dSortedD, dSet, dLstF, dRevF, dSlF, dListF, dSortedF, dSortedDF, dMaxF, dMinF, dInS, dLtA, dNewT, dGetT, dHasT, dctT, tkOf, keysOf, dTupP, dPutT, dPutP, putTk, pkOf, dSortedTF, dGet1, dGet2, dGet2T, dDisp1, dRep, dInt, dBits, dExtend, dReverse, dMaxDf, dCat, dCatF, dExtL, dDcT, Option.isSome_some, List.getElem?_cons_zero, List.getElem?_cons_succ, List.set_cons_zero, List.set_cons_succ, atI_0, atI_1, atI_2, atI_3, atI_4, atI_5, ixN_0, ixN_1, ixN_2, ixN_3, ixN_4, ixN_5, up_same, List.length_cons, List.length_nil, Bool.not_true, Bool.not_false, Bool.false_eq_true, if_true, if_false, reduceIte, dFz]
      refine ⟨(outl bs).map (bxS (0 - 50)), rfl, fun x hx => ?_, by rw [List.length_map]; omega, ht3, fun q hq => fz_ref up_same ?_⟩
      · obtain ⟨z, hz, rfl⟩ := List.mem_map.mp hx
        exact ⟨(hbz z hz).1, (hbz z hz).2⟩
      rw [del_up hq, outl_again _ good]
      refine Seen.neL (n := 2) sgP_seen (by decide) ?_
      simp only [dIfS, dAndT, dOrT, dNotT, dTest, dTruth, dTru, dAndV, dOrV, dNotV, dIf, dOp, dUn, dVar, dC, dI, dIc, dAdd, dSub, dMul, dFd, dMod, dPow, dNeg, dLt, dLe, dGt, dGe, dIsN, dNotN, DL.isNon, ix_pR0, ix_pR1, ix_tup, ix_lst, ix_ref, dSl, dPart, dNoPart, dCB, len_tup, len_lst, len_ref, dAbs, dList, dTuple, dBls, dSum, dIsi, dIsi2, dtOf, isC, seqOf, lstOf, dCons, dNil, dTup, dLst, dRet, dRetN, dNext, dDrop, dAsg, gN, gsNil, gsCons, gT, gSubD, dSetL, dPar, dAug, dIpAdd, dIpSub, dCall, eq_int, eq_str, eq_bl, ne_int, ne_str, ne_bl, eq_pR, ne_pR, plus_eq, less_eq, times_eq, over_eq, floor_eq, ceil_eq, part_eq, below_eq, seq_pR, pick_nil, pick_p, pick_k, pick_d, dBreak, dCont, dLM, dLM0, isL, dAppend, dInsert, dPop, dPopAt, dRevL, dStr, dFmt, dJs, dMax2, dMin2, dSorted, dNewK, dctOf, dGetK, dHasK, DL.keyOf, dPutK, dDelK, dSortedD, dSet, dLstF, dRevF, dSlF, dListF, dSortedF, dSortedDF, dMaxF, dMinF, dInS, dLtA, dNewT, dGetT, dHasT, dctT, tkOf, keysOf, dTupP, dPutT, dPutP, putTk, pkOf, dSortedTF, dGet1, dGet2, dGet2T, dDisp1, dRep, dInt, dBits, dExtend, dReverse, dMaxDf, dCat, dCatF, dExtL, dDcT, Option.isSome_some, List.getElem?_cons_zero, List.getElem?_cons_succ, List.set_cons_zero, List.set_cons_succ, atI_0, atI_1, atI_2, atI_3, atI_4, atI_5, ixN_0, ixN_1, ixN_2, ixN_3, ixN_4, ixN_5, up_same, List.length_cons, List.length_nil, Bool.not_true, Bool.not_false, Bool.false_eq_true, if_true, if_false, reduceIte]
      subst hN
      refine seq1 fun N hN => ?_; simp only [dIfS, dAndT, dOrT, dNotT, dTest, dTruth, dTru, dAndV, dOrV, dNotV, dIf, dOp, dUn, dVar, dC, dI, dIc, dAdd, dSub, dMul, dFd, dMod, dPow, dNeg, dLt, dLe, dGt, dGe, dIsN, dNotN, DL.isNon, ix_pR0, ix_pR1, ix_tup, ix_lst, ix_ref, dSl, dPart, dNoPart, dCB, len_tup, len_lst, len_ref, dAbs, dList, dTuple, dBls, dSum, dIsi, dIsi2, dtOf, isC, seqOf, lstOf, dCons, dNil, dTup, dLst, dRet, dRetN, dNext, dDrop, dAsg, gN, gsNil, gsCons, gT, gSubD, dSetL, dPar, dAug, dIpAdd, dIpSub, dCall, eq_int, eq_str, eq_bl, ne_int, ne_str, ne_bl, eq_pR, ne_pR, plus_eq, less_eq, times_eq, over_eq, floor_eq, ceil_eq, part_eq, below_eq, seq_pR, pick_nil, pick_p, pick_k, pick_d, dBreak, dCont, dLM, dLM0, isL, dAppend, dInsert, dPop, dPopAt, dRevL, dStr, dFmt, dJs, dMax2, dMin2, dSorted, dNewK, dctOf, dGetK, dHasK, DL.keyOf, dPutK, dDelK, dSortedD, dSet, dLstF, dRevF, dSlF, dListF, dSortedF, dSortedDF, dMaxF, dMinF, dInS, dLtA, dNewT, dGetT, dHasT, dctT, tkOf, keysOf, dTupP, dPutT, dPutP, putTk, pkOf, dSortedTF, dGet1, dGet2, dGet2T, dDisp1, dRep, dInt, dBits, dExtend, dReverse, dMaxDf, dCat, dCatF, dExtL, dDcT, Option.isSome_some, List.getElem?_cons_zero, List.getElem?_cons_succ, List.set_cons_zero, List.set_cons_succ, atI_0, atI_1, atI_2, atI_3, atI_4, atI_5, ixN_0, ixN_1, ixN_2, ixN_3, ixN_4, ixN_5, up_same, List.length_cons, List.length_nil, Bool.not_true, Bool.not_false, Bool.false_eq_true, if_true, if_false, reduceIte, dFor, dRng1, dRng2, dRng3, dSeqI, dEnum, dEnumA, dZip, dLc, dLcF, wipeD]
      refine comp_all (f := bxR) (fun z => bxR (lift7 z)) True.intro (by omega) (fun z hz N2 acc hacc y1 => ?_) ?_
      · have ez : bxR z = .tup [pR z.l, pR z.r, .int z.lo, .int z.hi] := rfl
        simp only [dIfS, dAndT, dOrT, dNotT, dTest, dTruth, dTru, dAndV, dOrV, dNotV, dIf, dOp, dUn, dVar, dC, dI, dIc, dAdd, dSub, dMul, dFd, dMod, dPow, dNeg, dLt, dLe, dGt, dGe, dIsN, dNotN, DL.isNon, ix_pR0, ix_pR1, ix_tup, ix_lst, ix_ref, dSl, dPart, dNoPart, dCB, len_tup, len_lst, len_ref, dAbs, dList, dTuple, dBls, dSum, dIsi, dIsi2, dtOf, isC, seqOf, lstOf, dCons, dNil, dTup, dLst, dRet, dRetN, dNext, dDrop, dAsg, gN, gsNil, gsCons, gT, gSubD, dSetL, dPar, dAug, dIpAdd, dIpSub, dCall, eq_int, eq_str, eq_bl, ne_int, ne_str, ne_bl, eq_pR, ne_pR, plus_eq, less_eq, times_eq, over_eq, floor_eq, ceil_eq, part_eq, below_eq, seq_pR, pick_nil, pick_p, pick_k, pick_d, dBreak, dCont, dLM, dLM0, isL, dAppend, dInsert, dPop, dPopAt, dRevL, dStr, dFmt, dJs, dMax2, dMin2, dSorted, dNewK, dctOf, dGetK, dHasK, DL.keyOf, dPutK, dDelK, dSortedD, dSet, dLstF, dRevF, dSlF, dListF, dSortedF, dSortedDF, dMaxF, dMinF, dInS, dLtA, dNewT, dGetT, dHasT, dctT, tkOf, keysOf, dTupP, dPutT, dPutP, putTk, pkOf, dSortedTF, dGet1, dGet2, dGet2T, dDisp1, dRep, dInt, dBits, dExtend, dReverse, dMaxDf, dCat, dCatF, dExtL, dDcT, Option.isSome_some, List.getElem?_cons_zero, List.getElem?_cons_succ, List.set_cons_zero, List.set_cons_succ, atI_0, atI_1, atI_2, atI_3, atI_4, atI_5, ixN_0, ixN_1, ixN_2, ixN_3, ixN_4, ixN_5, up_same, List.length_cons, List.length_nil, Bool.not_true, Bool.not_false, Bool.false_eq_true, if_true, if_false, reduceIte, ez, dYes]
        exact ⟨by simp, hacc, y1⟩
      subst hN
      have em2 : bs.map (fun z => bxR (lift7 z)) = (bs.map lift7).map bxR := by rw [List.map_map]; rfl
      rw [em2]
      simp only [dIfS, dAndT, dOrT, dNotT, dTest, dTruth, dTru, dAndV, dOrV, dNotV, dIf, dOp, dUn, dVar, dC, dI, dIc, dAdd, dSub, dMul, dFd, dMod, dPow, dNeg, dLt, dLe, dGt, dGe, dIsN, dNotN, DL.isNon, ix_pR0, ix_pR1, ix_tup, ix_lst, ix_ref, dSl, dPart, dNoPart, dCB, len_tup, len_lst, len_ref, dAbs, dList, dTuple, dBls, dSum, dIsi, dIsi2, dtOf, isC, seqOf, lstOf, dCons, dNil, dTup, dLst, dRet, dRetN, dNext, dDrop, dAsg, gN, gsNil, gsCons, gT, gSubD, dSetL, dPar, dAug, dIpAdd, dIpSub, dCall, eq_int, eq_str, eq_bl, ne_int, ne_str, ne_bl, eq_pR, ne_pR, plus_eq, less_eq, times_eq, over_eq, floor_eq, ceil_eq, part_eq, below_eq, seq_pR, pick_nil, pick_p, pick_k, pick_d, dBreak, dCont, dLM, dLM0, isL, dAppend, dInsert, dPop, dPopAt, dRevL, dStr, dFmt, dJs, dMax2, dMin2, dSorted, dNewK, dctOf, dGetK, dHasK, DL.keyOf, dPutK, dDelK, dSortedD, dSet, dLstF, dRevF, dSlF, dListF, dSortedF, dSortedDF, dMaxF, dMinF, dInS, dLtA, dNewT, dGetT, dHasT, dctT, tkOf, keysOf, dTupP, dPutT, dPutP, putTk, pkOf, dSortedTF, dGet1, dGet2, dGet2T, dDisp1, dRep, dInt, dBits, dExtend, dReverse, dMaxDf, dCat, dCatF, dExtL, dDcT, Option.isSome_some, List.getElem?_cons_zero, List.getElem?_cons_succ, List.set_cons_zero, List.set_cons_succ, atI_0, atI_1, atI_2, atI_3, atI_4, atI_5, ixN_0, ixN_1, ixN_2, ixN_3, ixN_4, ixN_5, up_same, List.length_cons, List.length_nil, Bool.not_true, Bool.not_false, Bool.false_eq_true, if_true, if_false, reduceIte, dFz]
      refine ⟨bs.map lift7, rfl, fun x hx => ?_, by rw [List.length_map]; omega, ht3, fun q hq => fz_ref up_same ?_⟩
      · obtain ⟨z, hz, rfl⟩ := List.mem_map.mp hx
        exact ⟨(hge z hz).l, (hge z hz).r⟩
      rw [del_up hq, outl_lift]
      simp only [dIfS, dAndT, dOrT, dNotT, dTest, dTruth, dTru, dAndV, dOrV, dNotV, dIf, dOp, dUn, dVar, dC, dI, dIc, dAdd, dSub, dMul, dFd, dMod, dPow, dNeg, dLt, dLe, dGt, dGe, dIsN, dNotN, DL.isNon, ix_pR0, ix_pR1, ix_tup, ix_lst, ix_ref, dSl, dPart, dNoPart, dCB, len_tup, len_lst, len_ref, dAbs, dList, dTuple, dBls, dSum, dIsi, dIsi2, dtOf, isC, seqOf, lstOf, dCons, dNil, dTup, dLst, dRet, dRetN, dNext, dDrop, dAsg, gN, gsNil, gsCons, gT, gSubD, dSetL, dPar, dAug, dIpAdd, dIpSub, dCall, eq_int, eq_str, eq_bl, ne_int, ne_str, ne_bl, eq_pR, ne_pR, plus_eq, less_eq, times_eq, over_eq, floor_eq, ceil_eq, part_eq, below_eq, seq_pR, pick_nil, pick_p, pick_k, pick_d, dBreak, dCont, dLM, dLM0, isL, dAppend, dInsert, dPop, dPopAt, dRevL, dStr, dFmt, dJs, dMax2, dMin2, dSorted, dNewK, dctOf, dGetK, dHasK, DL.keyOf, dPutK, dDelK, dSortedD, dSet, dLstF, dRevF, dSlF, dListF, dSortedF, dSortedDF, dMaxF, dMinF, dInS, dLtA, dNewT, dGetT, dHasT, dctT, tkOf, keysOf, dTupP, dPutT, dPutP, putTk, pkOf, dSortedTF, dGet1, dGet2, dGet2T, dDisp1, dRep, dInt, dBits, dExtend, dReverse, dMaxDf, dCat, dCatF, dExtL, dDcT, Option.isSome_some, List.getElem?_cons_zero, List.getElem?_cons_succ, List.set_cons_zero, List.set_cons_succ, atI_0, atI_1, atI_2, atI_3, atI_4, atI_5, ixN_0, ixN_1, ixN_2, ixN_3, ixN_4, ixN_5, up_same, List.length_cons, List.length_nil, Bool.not_true, Bool.not_false, Bool.false_eq_true, if_true, if_false, reduceIte, dFor, dRng1, dRng2, dRng3, dSeqI, dEnum, dEnumA, dZip, dLc, dLcF, wipeD]
      refine comp_all (f := sgD) (fun z => sgD (up7 z)) True.intro (by omega) (fun z hz N2 acc hacc y1 => ?_) ?_
      · have ez : sgD z = .tup [pR z.1, pR z.2.1, .int z.2.2] := rfl
        simp only [dIfS, dAndT, dOrT, dNotT, dTest, dTruth, dTru, dAndV, dOrV, dNotV, dIf, dOp, dUn, dVar, dC, dI, dIc, dAdd, dSub, dMul, dFd, dMod, dPow, dNeg, dLt, dLe, dGt, dGe, dIsN, dNotN, DL.isNon, ix_pR0, ix_pR1, ix_tup, ix_lst, ix_ref, dSl, dPart, dNoPart, dCB, len_tup, len_lst, len_ref, dAbs, dList, dTuple, dBls, dSum, dIsi, dIsi2, dtOf, isC, seqOf, lstOf, dCons, dNil, dTup, dLst, dRet, dRetN, dNext, dDrop, dAsg, gN, gsNil, gsCons, gT, gSubD, dSetL, dPar, dAug, dIpAdd, dIpSub, dCall, eq_int, eq_str, eq_bl, ne_int, ne_str, ne_bl, eq_pR, ne_pR, plus_eq, less_eq, times_eq, over_eq, floor_eq, ceil_eq, part_eq, below_eq, seq_pR, pick_nil, pick_p, pick_k, pick_d, dBreak, dCont, dLM, dLM0, isL, dAppend, dInsert, dPop, dPopAt, dRevL, dStr, dFmt, dJs, dMax2, dMin2, dSorted, dNewK, dctOf, dGetK, dHasK, DL.keyOf, dPutK, dDelK, dSortedD, dSet, dLstF, dRevF, dSlF, dListF, dSortedF, dSortedDF, dMaxF, dMinF, dInS, dLtA, dNewT, dGetT, dHasT, dctT, tkOf, keysOf, dTupP, dPutT, dPutP, putTk, pkOf, dSortedTF, dGet1, dGet2, dGet2T, dDisp1, dRep, dInt, dBits, dExtend, dReverse, dMaxDf, dCat, dCatF, dExtL, dDcT, Option.isSome_some, List.getElem?_cons_zero, List.getElem?_cons_succ, List.set_cons_zero, List.set_cons_succ, atI_0, atI_1, atI_2, atI_3, atI_4, atI_5, ixN_0, ixN_1, ixN_2, ixN_3, ixN_4, ixN_5, up_same, List.length_cons, List.length_nil, Bool.not_true, Bool.not_false, Bool.false_eq_true, if_true, if_false, reduceIte, ez, dYes]
        exact ⟨by simp, hacc, y1⟩
      have em3 : (outl bs).map (fun z => sgD (up7 z)) = ((outl bs).map up7).map sgD := by rw [List.map_map]; rfl
      rw [em3]
      refine Seen.neL (n := 2) sgP_seen (by decide) ?_
      simp only [dIfS, dAndT, dOrT, dNotT, dTest, dTruth, dTru, dAndV, dOrV, dNotV, dIf, dOp, dUn, dVar, dC, dI, dIc, dAdd, dSub, dMul, dFd, dMod, dPow, dNeg, dLt, dLe, dGt, dGe, dIsN, dNotN, DL.isNon, ix_pR0, ix_pR1, ix_tup, ix_lst, ix_ref, dSl, dPart, dNoPart, dCB, len_tup, len_lst, len_ref, dAbs, dList, dTuple, dBls, dSum, dIsi, dIsi2, dtOf, isC, seqOf, lstOf, dCons, dNil, dTup, dLst, dRet, dRetN, dNext, dDrop, dAsg, gN, gsNil, gsCons, gT, gSubD, dSetL, dPar, dAug, dIpAdd, dIpSub, dCall, eq_int, eq_str, eq_bl, ne_int, ne_str, ne_bl, eq_pR, ne_pR, plus_eq, less_eq, times_eq, over_eq, floor_eq, ceil_eq, part_eq, below_eq, seq_pR, pick_nil, pick_p, pick_k, pick_d, dBreak, dCont, dLM, dLM0, isL, dAppend, dInsert, dPop, dPopAt, dRevL, dStr, dFmt, dJs, dMax2, dMin2, dSorted, dNewK, dctOf, dGetK, dHasK, DL.keyOf, dPutK, dDelK, dSortedD, dSet, dLstF, dRevF, dSlF, dListF, dSortedF, dSortedDF, dMaxF, dMinF, dInS, dLtA, dNewT, dGetT, dHasT, dctT, tkOf, keysOf, dTupP, dPutT, dPutP, putTk, pkOf, dSortedTF, dGet1, dGet2, dGet2T, dDisp1, dRep, dInt, dBits, dExtend, dReverse, dMaxDf, dCat, dCatF, dExtL, dDcT, Option.isSome_some, List.getElem?_cons_zero, List.getElem?_cons_succ, List.set_cons_zero, List.set_cons_succ, atI_0, atI_1, atI_2, atI_3, atI_4, atI_5, ixN_0, ixN_1, ixN_2, ixN_3, ixN_4, ixN_5, up_same, List.length_cons, List.length_nil, Bool.not_true, Bool.not_false, Bool.false_eq_true, if_true, if_false, reduceIte]
      exact hM _ _ ⟨bag3, ht3, _, _, _, _, _, _, _, _, _, _, _, _, _, _, _, _, rfl⟩
    · rintro _ O2 ⟨bag2, ht2, x2, x3, x4, x5, x6, x7, x8, x9, x10, x11, x12, x13, x14, x15, x16, x17, rfl⟩
      exact hN _ _ True.intro
  · rintro g O2 _
    simp only [dIfS, dAndT, dOrT, dNotT, dTest, dTruth, dTru, dAndV, dOrV, dNotV, dIf, dOp, dUn, dVar, dC, dI, dIc, dAdd, dSub, dMul, dFd, dMod, dPow, dNeg, dLt, dLe, dGt, dGe, dIsN, dNotN, DL.isNon, ix_pR0, ix_pR1, ix_tup, ix_lst, ix_ref, dSl, dPart, dNoPart, dCB, len_tup, len_lst, len_ref, dAbs, dList, dTuple, dBls, dSum, dIsi, dIsi2, dtOf, isC, seqOf, lstOf, dCons, dNil, dTup, dLst, dRet, dRetN, dNext, dDrop, dAsg, gN, gsNil, gsCons, gT, gSubD, dSetL, dPar, dAug, dIpAdd, dIpSub, dCall, eq_int, eq_str, eq_bl, ne_int, ne_str, ne_bl, eq_pR, ne_pR, plus_eq, less_eq, times_eq, over_eq, floor_eq, ceil_eq, part_eq, below_eq, seq_pR, pick_nil, pick_p, pick_k, pick_d, dBreak, dCont, dLM, dLM0, isL, dAppend, dInsert, dPop, dPopAt, dRevL, dStr, dFmt, dJs, dMax2, dMin2, dSorted, dNewK, dctOf, dGetK, dHasK, DL.keyOf, dPutK, dDelK, dSortedD, dSet, dLstF, dRevF, dSlF, dListF, dSortedF, dSortedDF, dMaxF, dMinF, dInS, dLtA, dNewT, dGetT, dHasT, dctT, tkOf, keysOf, dTupP, dPutT, dPutP, putTk, pkOf, dSortedTF, dGet1, dGet2, dGet2T, dDisp1, dRep, dInt, dBits, dExtend, dReverse, dMaxDf, dCat, dCatF, dExtL, dDcT, Option.isSome_some, List.getElem?_cons_zero, List.getElem?_cons_succ, List.set_cons_zero, List.set_cons_succ, atI_0, atI_1, atI_2, atI_3, atI_4, atI_5, ixN_0, ixN_1, ixN_2, ixN_3, ixN_4, ixN_5, up_same, List.length_cons, List.length_nil, Bool.not_true, Bool.not_false, Bool.false_eq_true, if_true, if_false, reduceIte]
    exact Fin.here (k _)
end Lw
set_option Elab.async false
set_option linter.all false
set_option maxRecDepth 100000
set_option maxHeartbeats 4000000
namespace Lw
open PySem PySem.Spec PyProof.Rows L2 DL
open Evl (Ex)
def top (i : Nat) : Stmt := PySem.Challenge.pw_burinleaf_k40_whole_an_outline_covers_ju.main.body.getD i (.Pass ⟨0, 0, 0, 0⟩)
structure Bt (K : PySem.W.Frag) (mg : Str → Option Value) : Prop where
  n_abs : mg "abs" = none
  n_len : mg "len" = none
  n_list : mg "list" = none
  n_max : mg "max" = none
  n_range : mg "range" = none
  n_sorted : mg "sorted" = none
  n_zip : mg "zip" = none
abbrev s_law_bag : Stmt := top 9
abbrev s_law_gcd : Stmt := top 10
abbrev s_law_low : Stmt := top 11
abbrev s_law_pull : Stmt := top 12
abbrev s_law_part : Stmt := top 13
abbrev s_law_add : Stmt := top 14
abbrev s_law_box : Stmt := top 15
abbrev s_law_boxes : Stmt := top 16
abbrev s_common : Stmt := top 1
abbrev s_under_all : Stmt := top 3
abbrev s_rising : Stmt := top 6
abbrev s_below : Stmt := top 2
abbrev s_over_v1 : Stmt := top 5
abbrev s_outline : Stmt := top 7
abbrev s_law_less : Stmt := top 17
abbrev s_law_edges : Stmt := top 18
abbrev s_law_mul : Stmt := top 19
abbrev s_law_v39 : Stmt := top 20
section
variable {P : Program} {w : World} {K : PySem.W.Frag} {mg : Str → Option Value} {base : Heap}
theorem b_law_bag_0 {f : Addr} {fd : FuncData} (F : FunD K "_law_bag" "_law_bag" (defArgs s_law_bag) (defBody s_law_bag) (defScope s_law_bag) [] [] f fd) : Bnd K fd ["_law_script"] 1 [] [.p 0] [] :=
  bnd0 F fun _ _ _ _ _ _ us ws h1 h2 => match us, ws, h1, h2 with | [_], [], _, _ => rfl
theorem v_law_bag_0 : ∀ G, VRs K G ([] : List V) [] := fun _ => .nil
theorem sc_law_bag : FnScope n_law_bag ["_law_script"] (defScope s_law_bag) := ⟨rfl, rfl, rfl, by decide +kernel, rfl, by decide +kernel, by decide +kernel⟩
theorem pd_law_bag {f : Addr} (B : Bt K mg) : ∀ (cdv : Value) (A : Around) (outer : List Env) (s : Shared) (H : Hp) (E : XK), Room 0 (A.deeper (envOfC "_law_bag" (defScope s_law_bag) s.heap.objs.size f cdv)) →
    PSs (cxOf CX0 P w K mg base n_law_bag "_law_bag" (defScope s_law_bag) f cdv A outer s H E).nox (defBody s_law_bag) (lowS K W0 (t_law_bag)) := by
  intro cdv A outer s H E hr
  have sc := sc_law_bag
  exact (s_one (s_ret (e_lst (a_cons (e_callTy call_list_of sList B.n_list (by decide +kernel) (a_cons (e_slice (e_v 0) o_none (o_some e_int)) a_nil)) (a_cons e_int (a_cons e_int (a_cons (e_add e_int (e_mul e_int (e_callB callLen sLen B.n_len (by decide +kernel) (a_cons (e_slice (e_v 0) o_none (o_some e_int)) a_nil)))) (a_cons e_int a_nil))))))))
theorem b_law_gcd_0 {f : Addr} {fd : FuncData} (F : FunD K "_law_gcd" "_law_gcd" (defArgs s_law_gcd) (defBody s_law_gcd) (defScope s_law_gcd) [] [] f fd) : Bnd K fd ["_law_p", "_law_q"] 2 [] [.p 0, .p 1] [] :=
  bnd0 F fun _ _ _ _ _ _ us ws h1 h2 => match us, ws, h1, h2 with | [_, _], [], _, _ => rfl
theorem v_law_gcd_0 : ∀ G, VRs K G ([] : List V) [] := fun _ => .nil
theorem sc_law_gcd : FnScope n_law_gcd ["_law_p", "_law_q"] (defScope s_law_gcd) := ⟨rfl, rfl, rfl, by decide +kernel, rfl, by decide +kernel, by decide +kernel⟩
theorem pd_law_gcd {f : Addr} (B : Bt K mg) : ∀ (cdv : Value) (A : Around) (outer : List Env) (s : Shared) (H : Hp) (E : XK), Room 0 (A.deeper (envOfC "_law_gcd" (defScope s_law_gcd) s.heap.objs.size f cdv)) →
    PSs (cxOf CX0 P w K mg base n_law_gcd "_law_gcd" (defScope s_law_gcd) f cdv A outer s H E).nox (defBody s_law_gcd) (lowS K W0 (t_law_gcd)) := by
  intro cdv A outer s H E hr
  have sc := sc_law_gcd
  exact (s_cons (s_par (i := 0) (j := 1) rfl sc.nd rfl rfl (by decide) rfl rfl (a_cons (e_callB call_abs sAbs B.n_abs (by decide +kernel) (a_cons (e_v 0) a_nil)) (a_cons (e_callB call_abs sAbs B.n_abs (by decide +kernel) (a_cons (e_v 1) a_nil)) a_nil)) (by rfl))
  (s_cons (s_while PassesOwn.never (t_cmp op_gt sGt (e_v 1) e_int (nomark _))
    (s_one (s_par (i := 0) (j := 1) rfl sc.nd rfl rfl (by decide) rfl rfl (a_cons (e_v 1) (a_cons (e_mod (e_v 0) (e_v 1)) a_nil)) (by rfl))))
  (s_one (s_ret (e_v 0)))))
theorem b_law_low_0 {f : Addr} {fd : FuncData} (F : FunD K "_law_low" "_law_low" (defArgs s_law_low) (defBody s_law_low) (defScope s_law_low) [] [] f fd) : Bnd K fd ["_law_p", "_law_q"] 2 [] [.p 0, .p 1] [] :=
  bnd0 F fun _ _ _ _ _ _ us ws h1 h2 => match us, ws, h1, h2 with | [_, _], [], _, _ => rfl
theorem v_law_low_0 : ∀ G, VRs K G ([] : List V) [] := fun _ => .nil
theorem sc_law_low : FnScope n_law_low ["_law_p", "_law_q"] (defScope s_law_low) := ⟨rfl, rfl, rfl, by decide +kernel, rfl, by decide +kernel, by decide +kernel⟩
theorem pd_law_low {f : Addr} {f_law_gcd : Addr} {fd_law_gcd : FuncData} (B : Bt K mg) (c_law_gcd : Df P w K mg base 1 s_law_gcd "_law_gcd" ["_law_p", "_law_q"] [] [] sp_law_gcd f_law_gcd fd_law_gcd) : ∀ (cdv : Value) (A : Around) (outer : List Env) (s : Shared) (H : Hp) (E : XK), Room 1 (A.deeper (envOfC "_law_low" (defScope s_law_low) s.heap.objs.size f cdv)) →
    PSs (cxOf CX0 P w K mg base n_law_low "_law_low" (defScope s_law_low) f cdv A outer s H E).nox (defBody s_law_low) (lowS K W0 (t_law_low)) := by
  intro cdv A outer s H E hr
  have sc := sc_law_low
  exact (s_cons (s_set (i := 2) sc.nd rfl (by first | exact Or.inl rfl | exact Or.inr rfl) (e_call c_law_gcd.ok (hr.mono (by decide)) c_law_gcd.mg c_law_gcd.fn.kp (b_law_gcd_0 c_law_gcd.fn) v_law_gcd_0 (a_cons (e_v 0) (a_cons (e_v 1) a_nil)) k_nil))
  (s_one (s_ret (e_tup (a_cons (e_fd (e_v 0) (e_v 2)) (a_cons (e_fd (e_v 1) (e_v 2)) a_nil))))))
theorem b_law_pull_0 {f : Addr} {fd : FuncData} (F : FunD K "_law_pull" "_law_pull" (defArgs s_law_pull) (defBody s_law_pull) (defScope s_law_pull) [] [] f fd) : Bnd K fd ["_law_bag_here", "_law_sides"] 2 [] [.p 0, .p 1] [] :=
  bnd0 F fun _ _ _ _ _ _ us ws h1 h2 => match us, ws, h1, h2 with | [_, _], [], _, _ => rfl
theorem v_law_pull_0 : ∀ G, VRs K G ([] : List V) [] := fun _ => .nil
theorem sc_law_pull : FnScope n_law_pull ["_law_bag_here", "_law_sides"] (defScope s_law_pull) := ⟨rfl, rfl, rfl, by decide +kernel, rfl, by decide +kernel, by decide +kernel⟩
theorem pd_law_pull {f : Addr} (B : Bt K mg) : ∀ (cdv : Value) (A : Around) (outer : List Env) (s : Shared) (H : Hp) (E : XK), Room 0 (A.deeper (envOfC "_law_pull" (defScope s_law_pull) s.heap.objs.size f cdv)) →
    PSs (cxOf CX0 P w K mg base n_law_pull "_law_pull" (defScope s_law_pull) f cdv A outer s H E).nox (defBody s_law_pull) (lowS K W0 (t_law_pull)) := by
  intro cdv A outer s H E hr
  have sc := sc_law_pull
  exact (s_cons (s_if (L2.PW.pt (w_and (t_cmp (opEq hr) sEq (e_ixS (e_v 0) e_int) e_int (nomark _)) (w_and1 (t_cmp op_lt sLt (e_ixS (e_v 0) e_int) (e_callB callLen sLen B.n_len (by decide +kernel) (a_cons (e_ixS (e_v 0) e_int) a_nil)) (nomark _)))))
    (s_cons (s_set (i := 2) sc.nd rfl (by first | exact Or.inl rfl | exact Or.inr rfl) (e_ixS (e_ixS (e_v 0) e_int) (e_ixS (e_v 0) e_int)))
  (s_cons (s_asg (e_add (e_ixS (e_v 0) e_int) e_int) (g_sub (e_v 0) e_int set_list sSetL))
  (s_one (s_if (t_cmp op_ge sGe (e_v 2) (e_pow e_int e_int) (nomark _))
    (s_one (s_asg (e_v 2) (g_sub (e_v 0) e_int set_list sSetL)))
    (s_one (s_asg (e_mod (e_add (e_add (e_mul (e_ixS (e_v 0) e_int) e_int) (e_mul (e_mod (e_v 2) e_int) e_int)) e_int) e_int) (g_sub (e_v 0) e_int set_list sSetL)))))))
    s_nil)
  (s_cons (s_if (t_cmp op_gt sGt (e_ixS (e_v 0) e_int) e_int (nomark _))
    (s_cons (s_set (i := 3) sc.nd rfl (by first | exact Or.inl rfl | exact Or.inr rfl) (e_mod (e_ixS (e_v 0) e_int) (e_v 1)))
  (s_cons (s_asg (e_fd (e_ixS (e_v 0) e_int) (e_v 1)) (g_sub (e_v 0) e_int set_list sSetL))
  (s_one (s_ret (e_v 3)))))
    s_nil)
  (s_cons (s_set (i := 4) sc.nd rfl (by first | exact Or.inl rfl | exact Or.inr rfl) (e_ixS (e_v 0) e_int))
  (s_cons (s_asg (e_add (e_ixS (e_v 0) e_int) e_int) (g_sub (e_v 0) e_int set_list sSetL))
  (s_cons (s_asg (e_mod (e_add (e_add (e_pow (e_v 4) e_int) (e_mul e_int (e_v 4))) (e_mul e_int (e_ixS (e_v 0) e_int))) e_int) (g_sub (e_v 0) e_int set_list sSetL))
  (s_one (s_ret (e_mod (e_add (e_fd (e_ixS (e_v 0) e_int) e_int) (e_mul (e_mod (e_ixS (e_v 0) e_int) e_int) e_int)) (e_v 1)))))))))
theorem b_law_part_0 {f : Addr} {fd : FuncData} (F : FunD K "_law_part" "_law_part" (defArgs s_law_part) (defBody s_law_part) (defScope s_law_part) [] [] f fd) : Bnd K fd ["_law_bag_here", "_law_wide"] 2 [] [.p 0, .p 1] [] :=
  bnd0 F fun _ _ _ _ _ _ us ws h1 h2 => match us, ws, h1, h2 with | [_, _], [], _, _ => rfl
theorem v_law_part_0 : ∀ G, VRs K G ([] : List V) [] := fun _ => .nil
theorem sc_law_part : FnScope n_law_part ["_law_bag_here", "_law_wide"] (defScope s_law_part) := ⟨rfl, rfl, rfl, by decide +kernel, rfl, by decide +kernel, by decide +kernel⟩
theorem pd_law_part {f : Addr} {f_law_low : Addr} {fd_law_low : FuncData} {f_law_pull : Addr} {fd_law_pull : FuncData} (B : Bt K mg) (c_law_low : Df P w K mg base 2 s_law_low "_law_low" ["_law_p", "_law_q"] [] [] sp_law_low f_law_low fd_law_low) (c_law_pull : Df P w K mg base 1 s_law_pull "_law_pull" ["_law_bag_here", "_law_sides"] [] [] sp_law_pull f_law_pull fd_law_pull) : ∀ (cdv : Value) (A : Around) (outer : List Env) (s : Shared) (H : Hp) (E : XK), Room 2 (A.deeper (envOfC "_law_part" (defScope s_law_part) s.heap.objs.size f cdv)) →
    PSs (cxOf CX0 P w K mg base n_law_part "_law_part" (defScope s_law_part) f cdv A outer s H E).nox (defBody s_law_part) (lowS K W0 (t_law_part)) := by
  intro cdv A outer s H E hr
  have sc := sc_law_part
  exact (s_one (s_ret (e_call c_law_low.ok (hr.mono (by decide)) c_law_low.mg c_law_low.fn.kp (b_law_low_0 c_law_low.fn) v_law_low_0 (a_cons (e_sub (e_call c_law_pull.ok (hr.mono (by decide)) c_law_pull.mg c_law_pull.fn.kp (b_law_pull_0 c_law_pull.fn) v_law_pull_0 (a_cons (e_v 0) (a_cons (e_add (e_mul e_int (e_v 1)) e_int) a_nil)) k_nil) (e_v 1)) (a_cons (e_add e_int (e_call c_law_pull.ok (hr.mono (by decide)) c_law_pull.mg c_law_pull.fn.kp (b_law_pull_0 c_law_pull.fn) v_law_pull_0 (a_cons (e_v 0) (a_cons (e_ixS (e_lst (a_cons e_int (a_cons e_int (a_cons e_int (a_cons (e_v 1) a_nil))))) (e_call c_law_pull.ok (hr.mono (by decide)) c_law_pull.mg c_law_pull.fn.kp (b_law_pull_0 c_law_pull.fn) v_law_pull_0 (a_cons (e_v 0) (a_cons e_int a_nil)) k_nil)) a_nil)) k_nil)) a_nil)) k_nil)))
theorem b_law_add_0 {f : Addr} {fd : FuncData} (F : FunD K "_law_add" "_law_add" (defArgs s_law_add) (defBody s_law_add) (defScope s_law_add) [] [] f fd) : Bnd K fd ["_law_p", "_law_q"] 2 [] [.p 0, .p 1] [] :=
  bnd0 F fun _ _ _ _ _ _ us ws h1 h2 => match us, ws, h1, h2 with | [_, _], [], _, _ => rfl
theorem v_law_add_0 : ∀ G, VRs K G ([] : List V) [] := fun _ => .nil
theorem sc_law_add : FnScope n_law_add ["_law_p", "_law_q"] (defScope s_law_add) := ⟨rfl, rfl, rfl, by decide +kernel, rfl, by decide +kernel, by decide +kernel⟩
theorem pd_law_add {f : Addr} {f_law_low : Addr} {fd_law_low : FuncData} (B : Bt K mg) (c_law_low : Df P w K mg base 2 s_law_low "_law_low" ["_law_p", "_law_q"] [] [] sp_law_low f_law_low fd_law_low) : ∀ (cdv : Value) (A : Around) (outer : List Env) (s : Shared) (H : Hp) (E : XK), Room 2 (A.deeper (envOfC "_law_add" (defScope s_law_add) s.heap.objs.size f cdv)) →
    PSs (cxOf CX0 P w K mg base n_law_add "_law_add" (defScope s_law_add) f cdv A outer s H E).nox (defBody s_law_add) (lowS K W0 (t_law_add)) := by
  intro cdv A outer s H E hr
  have sc := sc_law_add
  exact (s_one (s_ret (e_call c_law_low.ok (hr.mono (by decide)) c_law_low.mg c_law_low.fn.kp (b_law_low_0 c_law_low.fn) v_law_low_0 (a_cons (e_add (e_mul (e_ixS (e_v 0) e_int) (e_ixS (e_v 1) e_int)) (e_mul (e_ixS (e_v 1) e_int) (e_ixS (e_v 0) e_int))) (a_cons (e_mul (e_ixS (e_v 0) e_int) (e_ixS (e_v 1) e_int)) a_nil)) k_nil)))
theorem b_law_box_0 {f : Addr} {fd : FuncData} (F : FunD K "_law_box" "_law_box" (defArgs s_law_box) (defBody s_law_box) (defScope s_law_box) [] [] f fd) : Bnd K fd ["_law_bag_here"] 1 [] [.p 0] [] :=
  bnd0 F fun _ _ _ _ _ _ us ws h1 h2 => match us, ws, h1, h2 with | [_], [], _, _ => rfl
theorem v_law_box_0 : ∀ G, VRs K G ([] : List V) [] := fun _ => .nil
theorem sc_law_box : FnScope n_law_box ["_law_bag_here"] (defScope s_law_box) := ⟨rfl, rfl, rfl, by decide +kernel, rfl, by decide +kernel, by decide +kernel⟩
theorem pd_law_box {f : Addr} {f_law_part : Addr} {fd_law_part : FuncData} {f_law_add : Addr} {fd_law_add : FuncData} {f_law_low : Addr} {fd_law_low : FuncData} {f_law_pull : Addr} {fd_law_pull : FuncData} (B : Bt K mg) (c_law_part : Df P w K mg base 3 s_law_part "_law_part" ["_law_bag_here", "_law_wide"] [] [] sp_law_part f_law_part fd_law_part) (c_law_add : Df P w K mg base 3 s_law_add "_law_add" ["_law_p", "_law_q"] [] [] sp_law_add f_law_add fd_law_add) (c_law_low : Df P w K mg base 2 s_law_low "_law_low" ["_law_p", "_law_q"] [] [] sp_law_low f_law_low fd_law_low) (c_law_pull : Df P w K mg base 1 s_law_pull "_law_pull" ["_law_bag_here", "_law_sides"] [] [] sp_law_pull f_law_pull fd_law_pull) : ∀ (cdv : Value) (A : Around) (outer : List Env) (s : Shared) (H : Hp) (E : XK), Room 3 (A.deeper (envOfC "_law_box" (defScope s_law_box) s.heap.objs.size f cdv)) →
    PSs (cxOf CX0 P w K mg base n_law_box "_law_box" (defScope s_law_box) f cdv A outer s H E).nox (defBody s_law_box) (lowS K W0 (t_law_box)) := by
  intro cdv A outer s H E hr
  have sc := sc_law_box
  exact (s_cons (s_set (i := 1) sc.nd rfl (by first | exact Or.inl rfl | exact Or.inr rfl) (e_call c_law_part.ok (hr.mono (by decide)) c_law_part.mg c_law_part.fn.kp (b_law_part_0 c_law_part.fn) v_law_part_0 (a_cons (e_v 0) (a_cons e_int a_nil)) k_nil))
  (s_cons (s_set (i := 2) sc.nd rfl (by first | exact Or.inl rfl | exact Or.inr rfl) (e_call c_law_add.ok (hr.mono (by decide)) c_law_add.mg c_law_add.fn.kp (b_law_add_0 c_law_add.fn) v_law_add_0 (a_cons (e_v 1) (a_cons (e_call c_law_low.ok (hr.mono (by decide)) c_law_low.mg c_law_low.fn.kp (b_law_low_0 c_law_low.fn) v_law_low_0 (a_cons (e_add e_int (e_call c_law_pull.ok (hr.mono (by decide)) c_law_pull.mg c_law_pull.fn.kp (b_law_pull_0 c_law_pull.fn) v_law_pull_0 (a_cons (e_v 0) (a_cons e_int a_nil)) k_nil)) (a_cons (e_add e_int (e_call c_law_pull.ok (hr.mono (by decide)) c_law_pull.mg c_law_pull.fn.kp (b_law_pull_0 c_law_pull.fn) v_law_pull_0 (a_cons (e_v 0) (a_cons (e_ixS (e_lst (a_cons e_int (a_cons e_int (a_cons e_int a_nil)))) (e_call c_law_pull.ok (hr.mono (by decide)) c_law_pull.mg c_law_pull.fn.kp (b_law_pull_0 c_law_pull.fn) v_law_pull_0 (a_cons (e_v 0) (a_cons e_int a_nil)) k_nil)) a_nil)) k_nil)) a_nil)) k_nil) a_nil)) k_nil))
  (s_cons (s_set (i := 3) sc.nd rfl (by first | exact Or.inl rfl | exact Or.inr rfl) (e_sub (e_call c_law_pull.ok (hr.mono (by decide)) c_law_pull.mg c_law_pull.fn.kp (b_law_pull_0 c_law_pull.fn) v_law_pull_0 (a_cons (e_v 0) (a_cons e_int a_nil)) k_nil) e_int))
  (s_one (s_ret (e_tup (a_cons (e_v 1) (a_cons (e_v 2) (a_cons (e_v 3) (a_cons (e_add (e_v 3) (e_call c_law_pull.ok (hr.mono (by decide)) c_law_pull.mg c_law_pull.fn.kp (b_law_pull_0 c_law_pull.fn) v_law_pull_0 (a_cons (e_v 0) (a_cons e_int a_nil)) k_nil)) a_nil))))))))))
theorem b_law_boxes_0 {f : Addr} {fd : FuncData} (F : FunD K "_law_boxes" "_law_boxes" (defArgs s_law_boxes) (defBody s_law_boxes) (defScope s_law_boxes) [] [] f fd) : Bnd K fd ["_law_bag_here", "_law_most"] 2 [] [.p 0, .p 1] [] :=
  bnd0 F fun _ _ _ _ _ _ us ws h1 h2 => match us, ws, h1, h2 with | [_, _], [], _, _ => rfl
theorem v_law_boxes_0 : ∀ G, VRs K G ([] : List V) [] := fun _ => .nil
theorem sc_law_boxes : FnScope n_law_boxes ["_law_bag_here", "_law_most"] (defScope s_law_boxes) := ⟨rfl, rfl, rfl, by decide +kernel, rfl, by decide +kernel, by decide +kernel⟩
theorem pd_law_boxes {f : Addr} {f_law_pull : Addr} {fd_law_pull : FuncData} {f_law_box : Addr} {fd_law_box : FuncData} {f_law_add : Addr} {fd_law_add : FuncData} (B : Bt K mg) (c_law_pull : Df P w K mg base 1 s_law_pull "_law_pull" ["_law_bag_here", "_law_sides"] [] [] sp_law_pull f_law_pull fd_law_pull) (c_law_box : Df P w K mg base 4 s_law_box "_law_box" ["_law_bag_here"] [] [] sp_law_box f_law_box fd_law_box) (c_law_add : Df P w K mg base 3 s_law_add "_law_add" ["_law_p", "_law_q"] [] [] sp_law_add f_law_add fd_law_add) : ∀ (cdv : Value) (A : Around) (outer : List Env) (s : Shared) (H : Hp) (E : XK), Room 4 (A.deeper (envOfC "_law_boxes" (defScope s_law_boxes) s.heap.objs.size f cdv)) →
    PSs (cxOf CX0 P w K mg base n_law_boxes "_law_boxes" (defScope s_law_boxes) f cdv A outer s H E).nox (defBody s_law_boxes) (lowS K W0 (t_law_boxes)) := by
  intro cdv A outer s H E hr
  have sc := sc_law_boxes
  exact (s_cons (s_setLc (i := 2) rfl sc.nd rfl rfl (sw_true rfl rfl rfl (by decide +kernel)) (i_range1 B.n_range (a_cons (e_call c_law_pull.ok (hr.mono (by decide)) c_law_pull.mg c_law_pull.fn.kp (b_law_pull_0 c_law_pull.fn) v_law_pull_0 (a_cons (e_v 0) (a_cons (e_add (e_v 1) e_int) a_nil)) k_nil) a_nil)) (own := [("_law_k", 3)]) (by exact blkOk_by (N := n_law_boxes) (sc := defScope s_law_boxes) (by decide +kernel)) (fun _ _ _ _ _ => (gw_name (i := 3) sc.nd rfl (by first | exact Or.inl rfl | exact Or.inr rfl))) (fun _ _ _ _ _ => ts_nil) (fun _ _ _ _ _ => (e_call c_law_box.ok (hr.mono (by decide)) c_law_box.mg c_law_box.fn.kp (b_law_box_0 c_law_box.fn) v_law_box_0 (a_cons (e_v 0) a_nil) k_nil)))
  (s_cons (s_if (L2.PW.pt (w_and (t_cmp op_gt sGt (e_callB callLen sLen B.n_len (by decide +kernel) (a_cons (e_v 2) a_nil)) e_int (nomark _)) (w_and1 (t_cmp (opEq hr) sEq (e_call c_law_pull.ok (hr.mono (by decide)) c_law_pull.mg c_law_pull.fn.kp (b_law_pull_0 c_law_pull.fn) v_law_pull_0 (a_cons (e_v 0) (a_cons e_int a_nil)) k_nil) e_int (nomark _)))))
    (s_one (s_asg (e_tup (a_cons (e_ixS (e_ixS (e_v 2) e_int) e_int) (a_cons (e_call c_law_add.ok (hr.mono (by decide)) c_law_add.mg c_law_add.fn.kp (b_law_add_0 c_law_add.fn) v_law_add_0 (a_cons (e_ixS (e_ixS (e_v 2) e_int) e_int) (a_cons (e_tup (a_cons e_int (a_cons e_int a_nil))) a_nil)) k_nil) (a_cons (e_sub e_int e_int) (a_cons (e_ixS (e_ixS (e_v 2) e_int) e_int) a_nil))))) (g_sub (e_v 2) e_int set_list sSetL)))
    s_nil)
  (s_cons (s_if (L2.PW.pt (w_and (t_cmp (opNe hr) sNe (e_v 2) (e_lstF a_nil) (nomark _)) (w_and1 (t_cmp (opEq hr) sEq (e_call c_law_pull.ok (hr.mono (by decide)) c_law_pull.mg c_law_pull.fn.kp (b_law_pull_0 c_law_pull.fn) v_law_pull_0 (a_cons (e_v 0) (a_cons e_int a_nil)) k_nil) e_int (nomark _)))))
    (s_one (s_expr (e_append (e_v 2) (a_cons (e_ixS (e_v 2) e_int) a_nil))))
    s_nil)
  (s_one (s_ret (e_fz (e_v 2)))))))
theorem b_common_0 {f : Addr} {fd : FuncData} (F : FunD K "common" "common" (defArgs s_common) (defBody s_common) (defScope s_common) [] [] f fd) : Bnd K fd ["one", "other"] 2 [] [.p 0, .p 1] [] :=
  bnd0 F fun _ _ _ _ _ _ us ws h1 h2 => match us, ws, h1, h2 with | [_, _], [], _, _ => rfl
theorem v_common_0 : ∀ G, VRs K G ([] : List V) [] := fun _ => .nil
theorem sc_common : FnScope n_common ["one", "other"] (defScope s_common) := ⟨rfl, rfl, rfl, by decide +kernel, rfl, by decide +kernel, by decide +kernel⟩
theorem pd_common {f : Addr} (B : Bt K mg) : ∀ (cdv : Value) (A : Around) (outer : List Env) (s : Shared) (H : Hp) (E : XK), Room 0 (A.deeper (envOfC "common" (defScope s_common) s.heap.objs.size f cdv)) →
    PSs (cxOf CX0 P w K mg base n_common "common" (defScope s_common) f cdv A outer s H E).nox (defBody s_common) (lowS K W0 (t_common)) := by
  intro cdv A outer s H E hr
  have sc := sc_common
  exact (s_cons (s_while PassesOwn.never (t_cmp op_gt sGt (e_v 1) e_int (nomark _))
    (s_one (s_par (i := 0) (j := 1) rfl sc.nd rfl rfl (by decide) rfl rfl (a_cons (e_v 1) (a_cons (e_mod (e_v 0) (e_v 1)) a_nil)) (by rfl))))
  (s_one (s_ret (e_v 0))))
theorem b_under_all_0 {f : Addr} {fd : FuncData} (F : FunD K "under_all" "under_all" (defArgs s_under_all) (defBody s_under_all) (defScope s_under_all) [] [] f fd) : Bnd K fd ["row"] 1 [] [.p 0] [] :=
  bnd0 F fun _ _ _ _ _ _ us ws h1 h2 => match us, ws, h1, h2 with | [_], [], _, _ => rfl
theorem v_under_all_0 : ∀ G, VRs K G ([] : List V) [] := fun _ => .nil
theorem sc_under_all : FnScope n_under_all ["row"] (defScope s_under_all) := ⟨rfl, rfl, rfl, by decide +kernel, rfl, by decide +kernel, by decide +kernel⟩
theorem pd_under_all {f : Addr} {f_common : Addr} {fd_common : FuncData} (B : Bt K mg) (c_common : Df P w K mg base 1 s_common "common" ["one", "other"] [] [] sp_common f_common fd_common) : ∀ (cdv : Value) (A : Around) (outer : List Env) (s : Shared) (H : Hp) (E : XK), Room 1 (A.deeper (envOfC "under_all" (defScope s_under_all) s.heap.objs.size f cdv)) →
    PSs (cxOf CX0 P w K mg base n_under_all "under_all" (defScope s_under_all) f cdv A outer s H E).nox (defBody s_under_all) (lowS K W0 (t_under_all)) := by
  intro cdv A outer s H E hr
  have sc := sc_under_all
  exact (s_cons (s_set (i := 1) sc.nd rfl (by first | exact Or.inl rfl | exact Or.inr rfl) e_int)
  (s_cons (s_for PassesOwn.never rfl (i_seq (e_v 0)) (g_name (i := 2) sc.nd rfl (by first | exact Or.inl rfl | exact Or.inr rfl))
    (s_one (s_set (i := 1) sc.nd rfl (by first | exact Or.inl rfl | exact Or.inr rfl) (e_mul (e_fd (e_v 1) (e_call c_common.ok (hr.mono (by decide)) c_common.mg c_common.fn.kp (b_common_0 c_common.fn) v_common_0 (a_cons (e_v 1) (a_cons (e_ixS (e_v 2) e_int) a_nil)) k_nil)) (e_ixS (e_v 2) e_int)))))
  (s_one (s_ret (e_v 1)))))
theorem b_rising_0 {f : Addr} {fd : FuncData} (F : FunD K "rising" "rising" (defArgs s_rising) (defBody s_rising) (defScope s_rising) [] [] f fd) : Bnd K fd ["row"] 1 [] [.p 0] [] :=
  bnd0 F fun _ _ _ _ _ _ us ws h1 h2 => match us, ws, h1, h2 with | [_], [], _, _ => rfl
theorem v_rising_0 : ∀ G, VRs K G ([] : List V) [] := fun _ => .nil
theorem sc_rising : FnScope n_rising ["row"] (defScope s_rising) := ⟨rfl, rfl, rfl, by decide +kernel, rfl, by decide +kernel, by decide +kernel⟩
theorem pd_rising {f : Addr} {cc : Addr} {tb : Tb} {f_under_all : Addr} {fd_under_all : FuncData} (B : Bt K mg) (TB : LamX.TabB base mg cc tb.rising) (c_under_all : Df P w K mg base 2 s_under_all "under_all" ["row"] [] [] sp_under_all f_under_all fd_under_all) : ∀ (A : Around) (outer : List Env) (s : Shared) (H : Hp) (E : XK), Room 2 (A.deeper (envOfC "rising" (defScope s_rising) s.heap.objs.size f (.ref cc))) →
    PSs (cxOf CX0 P w K mg base n_rising "rising" (defScope s_rising) f (.ref cc) A outer s H E).nox (defBody s_rising) (lowS K W0 (t_rising tb)) := by
  intro A outer s H E hr
  have sc := sc_rising
  exact (s_cons (s_set (i := 1) sc.nd rfl (by first | exact Or.inl rfl | exact Or.inr rfl) (e_call c_under_all.ok (hr.mono (by decide)) c_under_all.mg c_under_all.fn.kp (b_under_all_0 c_under_all.fn) v_under_all_0 (a_cons (e_v 0) a_nil) k_nil))
  (s_one (s_ret (e_fz (e_sortRise (iw := 1) hr (by rfl) B.n_sorted (e_uniq hr B.n_list rfl sc.nd (i_seq (e_v 0)) (own := [("one", 2)]) (by exact blkOk_by (N := n_rising) (sc := defScope s_rising) (by decide +kernel)) (fun _ _ _ _ _ => (gw_name (i := 2) sc.nd rfl (by first | exact Or.inl rfl | exact Or.inr rfl))) (fun _ _ _ _ _ => ts_nil) (fun _ _ _ _ _ => (e_v 2)) (fun _ _ _ _ _ => e_bl)) TB rfl rfl rfl rfl rfl rfl (by decide +kernel) (by decide +kernel) rfl rfl rfl (fun _ _ _ _ _ _ _ => rfl))))))
theorem b_below_0 {f : Addr} {fd : FuncData} (F : FunD K "below" "below" (defArgs s_below) (defBody s_below) (defScope s_below) [] [] f fd) : Bnd K fd ["one", "other"] 2 [] [.p 0, .p 1] [] :=
  bnd0 F fun _ _ _ _ _ _ us ws h1 h2 => match us, ws, h1, h2 with | [_, _], [], _, _ => rfl
theorem v_below_0 : ∀ G, VRs K G ([] : List V) [] := fun _ => .nil
theorem sc_below : FnScope n_below ["one", "other"] (defScope s_below) := ⟨rfl, rfl, rfl, by decide +kernel, rfl, by decide +kernel, by decide +kernel⟩
theorem pd_below {f : Addr} (B : Bt K mg) : ∀ (cdv : Value) (A : Around) (outer : List Env) (s : Shared) (H : Hp) (E : XK), Room 0 (A.deeper (envOfC "below" (defScope s_below) s.heap.objs.size f cdv)) →
    PSs (cxOf CX0 P w K mg base n_below "below" (defScope s_below) f cdv A outer s H E).nox (defBody s_below) (lowS K W0 (t_below)) := by
  intro cdv A outer s H E hr
  have sc := sc_below
  exact (s_one (s_ret (e_cmp op_lt sLt (e_mul (e_ixS (e_v 0) e_int) (e_ixS (e_v 1) e_int)) (e_mul (e_ixS (e_v 1) e_int) (e_ixS (e_v 0) e_int)) (nomark _))))
theorem b_over_v1_0 {f : Addr} {fd : FuncData} (F : FunD K "over" "over" (defArgs s_over_v1) (defBody s_over_v1) (defScope s_over_v1) [] [] f fd) : Bnd K fd ["one", "other"] 2 [] [.p 0, .p 1] [] :=
  bnd0 F fun _ _ _ _ _ _ us ws h1 h2 => match us, ws, h1, h2 with | [_, _], [], _, _ => rfl
theorem v_over_v1_0 : ∀ G, VRs K G ([] : List V) [] := fun _ => .nil
theorem sc_over_v1 : FnScope n_over_v1 ["one", "other"] (defScope s_over_v1) := ⟨rfl, rfl, rfl, by decide +kernel, rfl, by decide +kernel, by decide +kernel⟩
theorem pd_over_v1 {f : Addr} {f_below : Addr} {fd_below : FuncData} (B : Bt K mg) (c_below : Df P w K mg base 1 s_below "below" ["one", "other"] [] [] sp_below f_below fd_below) : ∀ (cdv : Value) (A : Around) (outer : List Env) (s : Shared) (H : Hp) (E : XK), Room 1 (A.deeper (envOfC "over" (defScope s_over_v1) s.heap.objs.size f cdv)) →
    PSs (cxOf CX0 P w K mg base n_over_v1 "over" (defScope s_over_v1) f cdv A outer s H E).nox (defBody s_over_v1) (lowS K W0 (t_over_v1)) := by
  intro cdv A outer s H E hr
  have sc := sc_over_v1
  exact (s_one (s_ret (e_and (e_call c_below.ok (hr.mono (by decide)) c_below.mg c_below.fn.kp (b_below_0 c_below.fn) v_below_0 (a_cons (e_ixS (e_v 0) e_int) (a_cons (e_ixS (e_v 1) e_int) a_nil)) k_nil) (e_one (e_call c_below.ok (hr.mono (by decide)) c_below.mg c_below.fn.kp (b_below_0 c_below.fn) v_below_0 (a_cons (e_ixS (e_v 1) e_int) (a_cons (e_ixS (e_v 0) e_int) a_nil)) k_nil)))))
theorem b_outline_0 {f : Addr} {fd : FuncData} (F : FunD K "outline" "outline" (defArgs s_outline) (defBody s_outline) (defScope s_outline) [] [] f fd) : Bnd K fd ["boxes"] 1 [] [.p 0] [] :=
  bnd0 F fun _ _ _ _ _ _ us ws h1 h2 => match us, ws, h1, h2 with | [_], [], _, _ => rfl
theorem v_outline_0 : ∀ G, VRs K G ([] : List V) [] := fun _ => .nil
theorem sc_outline : FnScope n_outline ["boxes"] (defScope s_outline) := ⟨rfl, rfl, rfl, by decide +kernel, rfl, by decide +kernel, by decide +kernel⟩
theorem pd_outline {f : Addr} {tb : Tb} {f_rising : Addr} {fd_rising : FuncData} {f_over_v1 : Addr} {fd_over_v1 : FuncData} (B : Bt K mg) (c_rising : Df P w K mg base 3 s_rising "rising" ["row"] [] [] (sp_rising tb) f_rising fd_rising) (c_over_v1 : Df P w K mg base 2 s_over_v1 "over" ["one", "other"] [] [] sp_over_v1 f_over_v1 fd_over_v1) : ∀ (cdv : Value) (A : Around) (outer : List Env) (s : Shared) (H : Hp) (E : XK), Room 3 (A.deeper (envOfC "outline" (defScope s_outline) s.heap.objs.size f cdv)) →
    PSs (cxOf CX0 P w K mg base n_outline "outline" (defScope s_outline) f cdv A outer s H E).nox (defBody s_outline) (lowS K W0 (t_outline tb)) := by
  intro cdv A outer s H E hr
  have sc := sc_outline
  exact (s_cons (s_set (i := 1) sc.nd rfl (by first | exact Or.inl rfl | exact Or.inr rfl) (e_call c_rising.ok (hr.mono (by decide)) c_rising.mg c_rising.fn.kp (b_rising_0 c_rising.fn) v_rising_0 (a_cons (e_fz (e_lc2 rfl sc.nd (i_seq (e_v 0)) (own := [("left", 3), ("right", 4), ("low", 8), ("high", 7), ("edge", 9)]) (vs1 := [9]) (by exact blkOk_by (N := n_outline) (sc := defScope s_outline) (by decide +kernel)) (by decide) (fun _ _ _ _ _ => (gw_tup rfl (gsw_cons (gw_name (i := 3) sc.nd rfl (by first | exact Or.inl rfl | exact Or.inr rfl)) (gsw_cons (gw_name (i := 4) sc.nd rfl (by first | exact Or.inl rfl | exact Or.inr rfl)) (gsw_cons (gw_name (i := 8) sc.nd rfl (by first | exact Or.inl rfl | exact Or.inr rfl)) (gsw_cons (gw_name (i := 7) sc.nd rfl (by first | exact Or.inl rfl | exact Or.inr rfl)) gsw_nil)))))) (fun _ _ _ _ _ => ts_nil) (fun _ _ _ _ _ => (i_seq (e_tup (a_cons (e_v 3) (a_cons (e_v 4) a_nil))))) (fun _ _ _ _ _ => (gw_name (i := 9) sc.nd rfl (by first | exact Or.inl rfl | exact Or.inr rfl))) (fun _ _ _ _ _ => ts_nil) (fun _ _ _ _ _ => (e_v 9)))) a_nil) k_nil))
  (s_cons (s_set (i := 2) sc.nd rfl (by first | exact Or.inl rfl | exact Or.inr rfl) (e_lst a_nil))
  (s_cons (s_for PassesOwn.never rfl (i_zip B.n_zip (a_cons (e_v 1) (a_cons (e_sliceF (e_v 1) (o_some e_int) o_none) a_nil))) (g_tup rfl (gs_cons (g_name (i := 3) sc.nd rfl (by first | exact Or.inl rfl | exact Or.inr rfl)) (gs_cons (g_name (i := 4) sc.nd rfl (by first | exact Or.inl rfl | exact Or.inr rfl)) gs_nil)))
    (s_cons (s_setLcG (i := 5) rfl sc.nd rfl rfl (sw_true rfl rfl rfl (by decide +kernel)) (i_seq (e_v 0)) (own := [("box", 10)]) (by exact blkOk_by (N := n_outline) (sc := defScope s_outline) (by decide +kernel)) (fun _ _ _ _ _ => (gw_name (i := 10) sc.nd rfl (by first | exact Or.inl rfl | exact Or.inr rfl))) (fun _ _ _ _ _ => (ts_one (t_val (e_call c_over_v1.ok (hr.mono (by decide)) c_over_v1.mg c_over_v1.fn.kp (b_over_v1_0 c_over_v1.fn) v_over_v1_0 (a_cons (e_tup (a_cons (e_v 3) (a_cons (e_v 4) a_nil))) (a_cons (e_v 10) a_nil)) k_nil)))) (fun _ _ _ _ _ => (e_ixS (e_v 10) e_int)))
  (s_one (s_if (t_cmp op_gt sGt (e_callB callLen sLen B.n_len (by decide +kernel) (a_cons (e_v 5) a_nil)) e_int (nomark _))
    (s_one (s_expr (e_append (e_v 2) (a_cons (e_tup (a_cons (e_v 3) (a_cons (e_v 4) (a_cons (e_callB (callMax rfl) sMaxF B.n_max (by decide +kernel) (a_cons (e_v 5) a_nil)) a_nil)))) a_nil))))
    s_nil))))
  (s_cons (s_set (i := 6) sc.nd rfl (by first | exact Or.inl rfl | exact Or.inr rfl) (e_lst a_nil))
  (s_cons (s_for PassesOwn.never rfl (i_seq (e_v 2)) (g_tup rfl (gs_cons (g_name (i := 3) sc.nd rfl (by first | exact Or.inl rfl | exact Or.inr rfl)) (gs_cons (g_name (i := 4) sc.nd rfl (by first | exact Or.inl rfl | exact Or.inr rfl)) (gs_cons (g_name (i := 7) sc.nd rfl (by first | exact Or.inl rfl | exact Or.inr rfl)) gs_nil))))
    (s_one (s_if (L2.PW.pt (w_and (t_cmp op_gt sGt (e_callB callLen sLen B.n_len (by decide +kernel) (a_cons (e_v 6) a_nil)) e_int (nomark _)) (w_and (t_cmp (opEq hr) sEq (e_ixS (e_ixS (e_v 6) (e_neg e_int)) e_int) (e_v 3) (nomark _)) (w_and1 (t_cmp (opEq hr) sEq (e_ixS (e_ixS (e_v 6) (e_neg e_int)) e_int) (e_v 7) (nomark _))))))
    (s_one (s_asg (e_tup (a_cons (e_ixS (e_ixS (e_v 6) (e_neg e_int)) e_int) (a_cons (e_v 4) (a_cons (e_v 7) a_nil)))) (g_sub (e_v 6) (e_neg e_int) set_list sSetL)))
    (s_one (s_expr (e_append (e_v 6) (a_cons (e_tup (a_cons (e_v 3) (a_cons (e_v 4) (a_cons (e_v 7) a_nil)))) a_nil)))))))
  (s_one (s_ret (e_v 6))))))))
theorem b_law_less_0 {f : Addr} {fd : FuncData} (F : FunD K "_law_less" "_law_less" (defArgs s_law_less) (defBody s_law_less) (defScope s_law_less) [] [] f fd) : Bnd K fd ["_law_p", "_law_q"] 2 [] [.p 0, .p 1] [] :=
  bnd0 F fun _ _ _ _ _ _ us ws h1 h2 => match us, ws, h1, h2 with | [_, _], [], _, _ => rfl
theorem v_law_less_0 : ∀ G, VRs K G ([] : List V) [] := fun _ => .nil
theorem sc_law_less : FnScope n_law_less ["_law_p", "_law_q"] (defScope s_law_less) := ⟨rfl, rfl, rfl, by decide +kernel, rfl, by decide +kernel, by decide +kernel⟩
theorem pd_law_less {f : Addr} (B : Bt K mg) : ∀ (cdv : Value) (A : Around) (outer : List Env) (s : Shared) (H : Hp) (E : XK), Room 0 (A.deeper (envOfC "_law_less" (defScope s_law_less) s.heap.objs.size f cdv)) →
    PSs (cxOf CX0 P w K mg base n_law_less "_law_less" (defScope s_law_less) f cdv A outer s H E).nox (defBody s_law_less) (lowS K W0 (t_law_less)) := by
  intro cdv A outer s H E hr
  have sc := sc_law_less
  exact (s_one (s_ret (e_cmp op_lt sLt (e_mul (e_ixS (e_v 0) e_int) (e_ixS (e_v 1) e_int)) (e_mul (e_ixS (e_v 1) e_int) (e_ixS (e_v 0) e_int)) (nomark _))))
theorem b_law_edges_0 {f : Addr} {fd : FuncData} (F : FunD K "_law_edges" "_law_edges" (defArgs s_law_edges) (defBody s_law_edges) (defScope s_law_edges) [] [] f fd) : Bnd K fd ["_law_piles"] 1 [] [.p 0] [] :=
  bnd0 F fun _ _ _ _ _ _ us ws h1 h2 => match us, ws, h1, h2 with | [_], [], _, _ => rfl
theorem v_law_edges_0 : ∀ G, VRs K G ([] : List V) [] := fun _ => .nil
theorem sc_law_edges : FnScope n_law_edges ["_law_piles"] (defScope s_law_edges) := ⟨rfl, rfl, rfl, by decide +kernel, rfl, by decide +kernel, by decide +kernel⟩
theorem pd_law_edges {f : Addr} {f_law_less : Addr} {fd_law_less : FuncData} (B : Bt K mg) (c_law_less : Df P w K mg base 1 s_law_less "_law_less" ["_law_p", "_law_q"] [] [] sp_law_less f_law_less fd_law_less) : ∀ (cdv : Value) (A : Around) (outer : List Env) (s : Shared) (H : Hp) (E : XK), Room 1 (A.deeper (envOfC "_law_edges" (defScope s_law_edges) s.heap.objs.size f cdv)) →
    PSs (cxOf CX0 P w K mg base n_law_edges "_law_edges" (defScope s_law_edges) f cdv A outer s H E).nox (defBody s_law_edges) (lowS K W0 (t_law_edges)) := by
  intro cdv A outer s H E hr
  have sc := sc_law_edges
  exact (s_cons (s_set (i := 1) sc.nd rfl (by first | exact Or.inl rfl | exact Or.inr rfl) (e_lst a_nil))
  (s_cons (s_for PassesOwn.never rfl (i_seq (e_v 0)) (g_name (i := 2) sc.nd rfl (by first | exact Or.inl rfl | exact Or.inr rfl))
    (s_one (s_for PassesOwn.never rfl (i_seq (e_sliceF (e_v 2) o_none (o_some e_int))) (g_name (i := 3) sc.nd rfl (by first | exact Or.inl rfl | exact Or.inr rfl))
    (s_cons (s_set (i := 4) sc.nd rfl (by first | exact Or.inl rfl | exact Or.inr rfl) (e_callB callLen sLen B.n_len (by decide +kernel) (a_cons (e_lcF rfl sc.nd (i_seq (e_v 1)) (own := [("_law_q", 5)]) (by exact blkOk_by (N := n_law_edges) (sc := defScope s_law_edges) (by decide +kernel)) (fun _ _ _ _ _ => (gw_name (i := 5) sc.nd rfl (by first | exact Or.inl rfl | exact Or.inr rfl))) (fun _ _ _ _ _ => (ts_one (t_val (e_call c_law_less.ok (hr.mono (by decide)) c_law_less.mg c_law_less.fn.kp (b_law_less_0 c_law_less.fn) v_law_less_0 (a_cons (e_v 5) (a_cons (e_v 3) a_nil)) k_nil)))) (fun _ _ _ _ _ => (e_v 5))) a_nil)))
  (s_one (s_if (t_cmp (opNe hr) sNe (e_sliceF (e_v 1) (o_some (e_v 4)) (o_some (e_add (e_v 4) e_int))) (e_lstF (a_cons (e_v 3) a_nil)) (nomark _))
    (s_one (s_expr (e_lm PySem.F.slot_list_insert PySem.F.type_list_insert mt_insert sInsert (e_v 1) (a_cons (e_v 4) (a_cons (e_v 3) a_nil)))))
    s_nil))))))
  (s_one (s_ret (e_fz (e_v 1))))))
theorem b_law_mul_0 {f : Addr} {fd : FuncData} (F : FunD K "_law_mul" "_law_mul" (defArgs s_law_mul) (defBody s_law_mul) (defScope s_law_mul) [] [] f fd) : Bnd K fd ["_law_p", "_law_q"] 2 [] [.p 0, .p 1] [] :=
  bnd0 F fun _ _ _ _ _ _ us ws h1 h2 => match us, ws, h1, h2 with | [_, _], [], _, _ => rfl
theorem v_law_mul_0 : ∀ G, VRs K G ([] : List V) [] := fun _ => .nil
theorem sc_law_mul : FnScope n_law_mul ["_law_p", "_law_q"] (defScope s_law_mul) := ⟨rfl, rfl, rfl, by decide +kernel, rfl, by decide +kernel, by decide +kernel⟩
theorem pd_law_mul {f : Addr} {f_law_low : Addr} {fd_law_low : FuncData} (B : Bt K mg) (c_law_low : Df P w K mg base 2 s_law_low "_law_low" ["_law_p", "_law_q"] [] [] sp_law_low f_law_low fd_law_low) : ∀ (cdv : Value) (A : Around) (outer : List Env) (s : Shared) (H : Hp) (E : XK), Room 2 (A.deeper (envOfC "_law_mul" (defScope s_law_mul) s.heap.objs.size f cdv)) →
    PSs (cxOf CX0 P w K mg base n_law_mul "_law_mul" (defScope s_law_mul) f cdv A outer s H E).nox (defBody s_law_mul) (lowS K W0 (t_law_mul)) := by
  intro cdv A outer s H E hr
  have sc := sc_law_mul
  exact (s_one (s_ret (e_call c_law_low.ok (hr.mono (by decide)) c_law_low.mg c_law_low.fn.kp (b_law_low_0 c_law_low.fn) v_law_low_0 (a_cons (e_mul (e_ixS (e_v 0) e_int) (e_ixS (e_v 1) e_int)) (a_cons (e_mul (e_ixS (e_v 0) e_int) (e_ixS (e_v 1) e_int)) a_nil)) k_nil)))
theorem sc_law_v39 : FnScope n_law_v39 ["_law_script"] (defScope s_law_v39) := ⟨rfl, rfl, rfl, by decide +kernel, rfl, by decide +kernel, by decide +kernel⟩
theorem pd_law_v39 {f : Addr} {tb : Tb} {f_law_bag : Addr} {fd_law_bag : FuncData} {f_law_boxes : Addr} {fd_law_boxes : FuncData} {f_outline : Addr} {fd_outline : FuncData} {f_law_less : Addr} {fd_law_less : FuncData} {f_law_edges : Addr} {fd_law_edges : FuncData} {f_law_mul : Addr} {fd_law_mul : FuncData} {f_law_add : Addr} {fd_law_add : FuncData} {f_over_v1 : Addr} {fd_over_v1 : FuncData} (B : Bt K mg) (c_law_bag : Df P w K mg base 1 s_law_bag "_law_bag" ["_law_script"] [] [] sp_law_bag f_law_bag fd_law_bag) (c_law_boxes : Df P w K mg base 5 s_law_boxes "_law_boxes" ["_law_bag_here", "_law_most"] [] [] sp_law_boxes f_law_boxes fd_law_boxes) (c_outline : Df P w K mg base 4 s_outline "outline" ["boxes"] [] [] (sp_outline tb) f_outline fd_outline) (c_law_less : Df P w K mg base 1 s_law_less "_law_less" ["_law_p", "_law_q"] [] [] sp_law_less f_law_less fd_law_less) (c_law_edges : Df P w K mg base 2 s_law_edges "_law_edges" ["_law_piles"] [] [] sp_law_edges f_law_edges fd_law_edges) (c_law_mul : Df P w K mg base 3 s_law_mul "_law_mul" ["_law_p", "_law_q"] [] [] sp_law_mul f_law_mul fd_law_mul) (c_law_add : Df P w K mg base 3 s_law_add "_law_add" ["_law_p", "_law_q"] [] [] sp_law_add f_law_add fd_law_add) (c_over_v1 : Df P w K mg base 2 s_over_v1 "over" ["one", "other"] [] [] sp_over_v1 f_over_v1 fd_over_v1) : ∀ (cdv : Value) (A : Around) (outer : List Env) (s : Shared) (H : Hp) (E : XK), Room 5 (A.deeper (envOfC "law" (defScope s_law_v39) s.heap.objs.size f cdv)) →
    PSs (cxOf CX0 P w K mg base n_law_v39 "law" (defScope s_law_v39) f cdv A outer s H E).nox (defBody s_law_v39) (lowS K W0 (t_law_v39 tb)) := by
  intro cdv A outer s H E hr
  have sc := sc_law_v39
  exact (s_cons (s_set (i := 1) sc.nd rfl (by first | exact Or.inl rfl | exact Or.inr rfl) (e_call c_law_bag.ok (hr.mono (by decide)) c_law_bag.mg c_law_bag.fn.kp (b_law_bag_0 c_law_bag.fn) v_law_bag_0 (a_cons (e_v 0) a_nil) k_nil))
  (s_cons (s_for PassesOwn.never rfl (i_range1 B.n_range (a_cons e_int a_nil)) (g_name (i := 2) sc.nd rfl (by first | exact Or.inl rfl | exact Or.inr rfl))
    (s_cons (s_set (i := 3) sc.nd rfl (by first | exact Or.inl rfl | exact Or.inr rfl) (e_call c_law_boxes.ok (hr.mono (by decide)) c_law_boxes.mg c_law_boxes.fn.kp (b_law_boxes_0 c_law_boxes.fn) v_law_boxes_0 (a_cons (e_v 1) (a_cons e_int a_nil)) k_nil))
  (s_cons (s_set (i := 4) sc.nd rfl (by first | exact Or.inl rfl | exact Or.inr rfl) (e_fz (e_call c_outline.ok (hr.mono (by decide)) c_outline.mg c_outline.fn.kp (b_outline_0 c_outline.fn) v_outline_0 (a_cons (e_v 3) a_nil) k_nil)))
  (s_cons (s_for PassesOwn.never rfl (i_range1 B.n_range (a_cons (e_callB callLen sLen B.n_len (by decide +kernel) (a_cons (e_v 4) a_nil)) a_nil)) (g_name (i := 5) sc.nd rfl (by first | exact Or.inl rfl | exact Or.inr rfl))
    (s_cons (s_if (t_not (t_val (e_call c_law_less.ok (hr.mono (by decide)) c_law_less.mg c_law_less.fn.kp (b_law_less_0 c_law_less.fn) v_law_less_0 (a_cons (e_ixS (e_ixS (e_v 4) (e_v 5)) e_int) (a_cons (e_ixS (e_ixS (e_v 4) (e_v 5)) e_int) a_nil)) k_nil)))
    (s_one (s_ret e_bl))
    s_nil)
  (s_cons (s_if (L2.PW.pt (w_and (t_cmp op_gt sGt (e_v 5) e_int (nomark _)) (w_and1 (t_val (e_call c_law_less.ok (hr.mono (by decide)) c_law_less.mg c_law_less.fn.kp (b_law_less_0 c_law_less.fn) v_law_less_0 (a_cons (e_ixS (e_ixS (e_v 4) (e_v 5)) e_int) (a_cons (e_ixS (e_ixS (e_v 4) (e_sub (e_v 5) e_int)) e_int) a_nil)) k_nil)))))
    (s_one (s_ret e_bl))
    s_nil)
  (s_one (s_if (L2.PW.pt (w_and (t_cmp op_gt sGt (e_v 5) e_int (nomark _)) (w_and (t_cmp (opEq hr) sEq (e_ixS (e_ixS (e_v 4) (e_v 5)) e_int) (e_ixS (e_ixS (e_v 4) (e_sub (e_v 5) e_int)) e_int) (nomark _)) (w_and1 (t_cmp (opEq hr) sEq (e_ixS (e_ixS (e_v 4) (e_v 5)) e_int) (e_ixS (e_ixS (e_v 4) (e_sub (e_v 5) e_int)) e_int) (nomark _))))))
    (s_one (s_ret e_bl))
    s_nil)))))
  (s_cons (s_set (i := 6) sc.nd rfl (by first | exact Or.inl rfl | exact Or.inr rfl) (e_call c_law_edges.ok (hr.mono (by decide)) c_law_edges.mg c_law_edges.fn.kp (b_law_edges_0 c_law_edges.fn) v_law_edges_0 (a_cons (e_catF (e_v 3) (e_v 4)) a_nil) k_nil))
  (s_cons (s_for PassesOwn.never rfl (i_range1 B.n_range (a_cons (e_sub (e_callB callLen sLen B.n_len (by decide +kernel) (a_cons (e_v 6) a_nil)) e_int) a_nil)) (g_name (i := 5) sc.nd rfl (by first | exact Or.inl rfl | exact Or.inr rfl))
    (s_cons (s_set (i := 7) sc.nd rfl (by first | exact Or.inl rfl | exact Or.inr rfl) (e_call c_law_mul.ok (hr.mono (by decide)) c_law_mul.mg c_law_mul.fn.kp (b_law_mul_0 c_law_mul.fn) v_law_mul_0 (a_cons (e_tup (a_cons e_int (a_cons e_int a_nil))) (a_cons (e_call c_law_add.ok (hr.mono (by decide)) c_law_add.mg c_law_add.fn.kp (b_law_add_0 c_law_add.fn) v_law_add_0 (a_cons (e_ixS (e_v 6) (e_v 5)) (a_cons (e_ixS (e_v 6) (e_add (e_v 5) e_int)) a_nil)) k_nil) a_nil)) k_nil))
  (s_cons (s_set (i := 8) sc.nd rfl (by first | exact Or.inl rfl | exact Or.inr rfl) (e_tup (a_cons (e_v 7) (a_cons (e_ixS (e_v 6) (e_add (e_v 5) e_int)) (a_cons e_int (a_cons e_int a_nil))))))
  (s_cons (s_setLcG (i := 9) rfl sc.nd rfl rfl (sw_true rfl rfl rfl (by decide +kernel)) (i_seq (e_v 3)) (own := [("_law_some", 13)]) (by exact blkOk_by (N := n_law_v39) (sc := defScope s_law_v39) (by decide +kernel)) (fun _ _ _ _ _ => (gw_name (i := 13) sc.nd rfl (by first | exact Or.inl rfl | exact Or.inr rfl))) (fun _ _ _ _ _ => (ts_one (t_val (e_call c_over_v1.ok (hr.mono (by decide)) c_over_v1.mg c_over_v1.fn.kp (b_over_v1_0 c_over_v1.fn) v_over_v1_0 (a_cons (e_v 8) (a_cons (e_v 13) a_nil)) k_nil)))) (fun _ _ _ _ _ => (e_ixS (e_v 13) e_int)))
  (s_cons (s_set (i := 10) sc.nd rfl (by first | exact Or.inl rfl | exact Or.inr rfl) (e_if (t_cmp (opEq hr) sEq (e_v 9) (e_lstF a_nil) (nomark _)) (e_lstF a_nil) (e_lstF (a_cons (e_callB (callMax rfl) sMaxF B.n_max (by decide +kernel) (a_cons (e_v 9) a_nil)) a_nil))))
  (s_one (s_if (t_cmp (opNe hr) sNe (e_lcF rfl sc.nd (i_seq (e_v 4)) (own := [("_law_a", 14), ("_law_b", 15), ("_law_top", 16)]) (by exact blkOk_by (N := n_law_v39) (sc := defScope s_law_v39) (by decide +kernel)) (fun _ _ _ _ _ => (gw_tup rfl (gsw_cons (gw_name (i := 14) sc.nd rfl (by first | exact Or.inl rfl | exact Or.inr rfl)) (gsw_cons (gw_name (i := 15) sc.nd rfl (by first | exact Or.inl rfl | exact Or.inr rfl)) (gsw_cons (gw_name (i := 16) sc.nd rfl (by first | exact Or.inl rfl | exact Or.inr rfl)) gsw_nil))))) (fun _ _ _ _ _ => (ts_one (t_val (e_call c_over_v1.ok (hr.mono (by decide)) c_over_v1.mg c_over_v1.fn.kp (b_over_v1_0 c_over_v1.fn) v_over_v1_0 (a_cons (e_v 8) (a_cons (e_tup (a_cons (e_v 14) (a_cons (e_v 15) (a_cons (e_v 16) (a_cons (e_v 16) a_nil))))) a_nil)) k_nil)))) (fun _ _ _ _ _ => (e_v 16))) (e_v 10) (nomark _))
    (s_one (s_ret e_bl))
    s_nil)))))))
  (s_cons (s_setLcG (i := 11) rfl sc.nd rfl rfl (sw_true rfl rfl rfl (by decide +kernel)) (i_seq (e_v 4)) (own := [("_law_a", 14), ("_law_b", 15), ("_law_top", 16)]) (by exact blkOk_by (N := n_law_v39) (sc := defScope s_law_v39) (by decide +kernel)) (fun _ _ _ _ _ => (gw_tup rfl (gsw_cons (gw_name (i := 14) sc.nd rfl (by first | exact Or.inl rfl | exact Or.inr rfl)) (gsw_cons (gw_name (i := 15) sc.nd rfl (by first | exact Or.inl rfl | exact Or.inr rfl)) (gsw_cons (gw_name (i := 16) sc.nd rfl (by first | exact Or.inl rfl | exact Or.inr rfl)) gsw_nil))))) (fun _ _ _ _ _ => ts_nil) (fun _ _ _ _ _ => (e_tup (a_cons (e_v 14) (a_cons (e_v 15) (a_cons (e_sub e_int e_int) (a_cons (e_v 16) a_nil)))))))
  (s_cons (s_if (t_cmp (opNe hr) sNe (e_fz (e_call c_outline.ok (hr.mono (by decide)) c_outline.mg c_outline.fn.kp (b_outline_0 c_outline.fn) v_outline_0 (a_cons (e_v 11) a_nil) k_nil)) (e_v 4) (nomark _))
    (s_one (s_ret e_bl))
    s_nil)
  (s_cons (s_setLcG (i := 12) rfl sc.nd rfl rfl (sw_true rfl rfl rfl (by decide +kernel)) (i_seq (e_v 3)) (own := [("_law_a", 14), ("_law_b", 15), ("_law_low_here", 17), ("_law_top", 16)]) (by exact blkOk_by (N := n_law_v39) (sc := defScope s_law_v39) (by decide +kernel)) (fun _ _ _ _ _ => (gw_tup rfl (gsw_cons (gw_name (i := 14) sc.nd rfl (by first | exact Or.inl rfl | exact Or.inr rfl)) (gsw_cons (gw_name (i := 15) sc.nd rfl (by first | exact Or.inl rfl | exact Or.inr rfl)) (gsw_cons (gw_name (i := 17) sc.nd rfl (by first | exact Or.inl rfl | exact Or.inr rfl)) (gsw_cons (gw_name (i := 16) sc.nd rfl (by first | exact Or.inl rfl | exact Or.inr rfl)) gsw_nil)))))) (fun _ _ _ _ _ => ts_nil) (fun _ _ _ _ _ => (e_tup (a_cons (e_v 14) (a_cons (e_v 15) (a_cons (e_add (e_v 17) e_int) (a_cons (e_add (e_v 16) e_int) a_nil)))))))
  (s_one (s_if (t_cmp (opNe hr) sNe (e_fz (e_call c_outline.ok (hr.mono (by decide)) c_outline.mg c_outline.fn.kp (b_outline_0 c_outline.fn) v_outline_0 (a_cons (e_v 12) a_nil) k_nil)) (e_lcF rfl sc.nd (i_seq (e_v 4)) (own := [("_law_a", 14), ("_law_b", 15), ("_law_top", 16)]) (by exact blkOk_by (N := n_law_v39) (sc := defScope s_law_v39) (by decide +kernel)) (fun _ _ _ _ _ => (gw_tup rfl (gsw_cons (gw_name (i := 14) sc.nd rfl (by first | exact Or.inl rfl | exact Or.inr rfl)) (gsw_cons (gw_name (i := 15) sc.nd rfl (by first | exact Or.inl rfl | exact Or.inr rfl)) (gsw_cons (gw_name (i := 16) sc.nd rfl (by first | exact Or.inl rfl | exact Or.inr rfl)) gsw_nil))))) (fun _ _ _ _ _ => ts_nil) (fun _ _ _ _ _ => (e_tup (a_cons (e_v 14) (a_cons (e_v 15) (a_cons (e_add (e_v 16) e_int) a_nil)))))) (nomark _))
    (s_one (s_ret e_bl))
    s_nil)))))))))))
  (s_one (s_ret e_bl))))
end
theorem all_mk {l : PySem.W.OpenLaw} {w : World} {K : PySem.W.Frag} {h : Heap} {mg : Str → Option Value} {fa : Addr} (X : K.In h) (G : h.Ns mainGlobals mg) (hfa : mg "law" = some (.ref fa)) {ts : List Addr} {f_law_bag : Addr} {od_law_bag an_law_bag : Option Addr} {sl_law_bag : Array (Option Value)} {oc_law_bag kV_law_bag dc_law_bag pm_law_bag cd_law_bag ct_law_bag : Value} {f_law_gcd : Addr} {od_law_gcd an_law_gcd : Option Addr} {sl_law_gcd : Array (Option Value)} {oc_law_gcd kV_law_gcd dc_law_gcd pm_law_gcd cd_law_gcd ct_law_gcd : Value} {f_law_low : Addr} {od_law_low an_law_low : Option Addr} {sl_law_low : Array (Option Value)} {oc_law_low kV_law_low dc_law_low pm_law_low cd_law_low ct_law_low : Value} {f_law_pull : Addr} {od_law_pull an_law_pull : Option Addr} {sl_law_pull : Array (Option Value)} {oc_law_pull kV_law_pull dc_law_pull pm_law_pull cd_law_pull ct_law_pull : Value} {f_law_part : Addr} {od_law_part an_law_part : Option Addr} {sl_law_part : Array (Option Value)} {oc_law_part kV_law_part dc_law_part pm_law_part cd_law_part ct_law_part : Value} {f_law_add : Addr} {od_law_add an_law_add : Option Addr} {sl_law_add : Array (Option Value)} {oc_law_add kV_law_add dc_law_add pm_law_add cd_law_add ct_law_add : Value} {f_law_box : Addr} {od_law_box an_law_box : Option Addr} {sl_law_box : Array (Option Value)} {oc_law_box kV_law_box dc_law_box pm_law_box cd_law_box ct_law_box : Value} {f_law_boxes : Addr} {od_law_boxes an_law_boxes : Option Addr} {sl_law_boxes : Array (Option Value)} {oc_law_boxes kV_law_boxes dc_law_boxes pm_law_boxes cd_law_boxes ct_law_boxes : Value} {f_common : Addr} {od_common an_common : Option Addr} {sl_common : Array (Option Value)} {oc_common kV_common dc_common pm_common cd_common ct_common : Value} {f_under_all : Addr} {od_under_all an_under_all : Option Addr} {sl_under_all : Array (Option Value)} {oc_under_all kV_under_all dc_under_all pm_under_all cd_under_all ct_under_all : Value} {f_rising : Addr} {od_rising an_rising : Option Addr} {sl_rising : Array (Option Value)} {oc_rising kV_rising dc_rising pm_rising ct_rising : Value} {cc_rising P_rising : Addr} {vs_rising : Array Value} {cod_rising : Option Addr} {csl_rising : Array (Option Value)} {f_below : Addr} {od_below an_below : Option Addr} {sl_below : Array (Option Value)} {oc_below kV_below dc_below pm_below cd_below ct_below : Value} {f_over_v1 : Addr} {od_over_v1 an_over_v1 : Option Addr} {sl_over_v1 : Array (Option Value)} {oc_over_v1 kV_over_v1 dc_over_v1 pm_over_v1 cd_over_v1 ct_over_v1 : Value} {f_outline : Addr} {od_outline an_outline : Option Addr} {sl_outline : Array (Option Value)} {oc_outline kV_outline dc_outline pm_outline cd_outline ct_outline : Value} {f_law_less : Addr} {od_law_less an_law_less : Option Addr} {sl_law_less : Array (Option Value)} {oc_law_less kV_law_less dc_law_less pm_law_less cd_law_less ct_law_less : Value} {f_law_edges : Addr} {od_law_edges an_law_edges : Option Addr} {sl_law_edges : Array (Option Value)} {oc_law_edges kV_law_edges dc_law_edges pm_law_edges cd_law_edges ct_law_edges : Value} {f_law_mul : Addr} {od_law_mul an_law_mul : Option Addr} {sl_law_mul : Array (Option Value)} {oc_law_mul kV_law_mul dc_law_mul pm_law_mul cd_law_mul ct_law_mul : Value} {f_law_v39 : Addr} {od_law_v39 an_law_v39 : Option Addr} {sl_law_v39 : Array (Option Value)} {oc_law_v39 kV_law_v39 dc_law_v39 pm_law_v39 cd_law_v39 ct_law_v39 : Value} (hT : ∀ P ∈ ts, h.get? P = some (PySem.W.tabObj #[]))
    (a_law_bag : PySem.W.nsIn K mainGlobals "_law_bag" = some (some (.ref f_law_bag)))
    (l_law_bag : K.lookup f_law_bag = some ⟨oc_law_bag, od_law_bag, .func (PySem.W.fnOf "_law_bag" "_law_bag" (defArgs s_law_bag) (defBody s_law_bag) (defScope s_law_bag) .none kV_law_bag dc_law_bag pm_law_bag an_law_bag cd_law_bag ct_law_bag), sl_law_bag⟩)
    (c_law_bag : PySem.W.codeIn K cd_law_bag "_law_bag" = true)
    (k_law_bag : PySem.W.keepIn K (.ref f_law_bag) = true)
    (a_law_gcd : PySem.W.nsIn K mainGlobals "_law_gcd" = some (some (.ref f_law_gcd)))
    (l_law_gcd : K.lookup f_law_gcd = some ⟨oc_law_gcd, od_law_gcd, .func (PySem.W.fnOf "_law_gcd" "_law_gcd" (defArgs s_law_gcd) (defBody s_law_gcd) (defScope s_law_gcd) .none kV_law_gcd dc_law_gcd pm_law_gcd an_law_gcd cd_law_gcd ct_law_gcd), sl_law_gcd⟩)
    (c_law_gcd : PySem.W.codeIn K cd_law_gcd "_law_gcd" = true)
    (k_law_gcd : PySem.W.keepIn K (.ref f_law_gcd) = true)
    (a_law_low : PySem.W.nsIn K mainGlobals "_law_low" = some (some (.ref f_law_low)))
    (l_law_low : K.lookup f_law_low = some ⟨oc_law_low, od_law_low, .func (PySem.W.fnOf "_law_low" "_law_low" (defArgs s_law_low) (defBody s_law_low) (defScope s_law_low) .none kV_law_low dc_law_low pm_law_low an_law_low cd_law_low ct_law_low), sl_law_low⟩)
    (c_law_low : PySem.W.codeIn K cd_law_low "_law_low" = true)
    (k_law_low : PySem.W.keepIn K (.ref f_law_low) = true)
    (a_law_pull : PySem.W.nsIn K mainGlobals "_law_pull" = some (some (.ref f_law_pull)))
    (l_law_pull : K.lookup f_law_pull = some ⟨oc_law_pull, od_law_pull, .func (PySem.W.fnOf "_law_pull" "_law_pull" (defArgs s_law_pull) (defBody s_law_pull) (defScope s_law_pull) .none kV_law_pull dc_law_pull pm_law_pull an_law_pull cd_law_pull ct_law_pull), sl_law_pull⟩)
    (c_law_pull : PySem.W.codeIn K cd_law_pull "_law_pull" = true)
    (k_law_pull : PySem.W.keepIn K (.ref f_law_pull) = true)
    (a_law_part : PySem.W.nsIn K mainGlobals "_law_part" = some (some (.ref f_law_part)))
    (l_law_part : K.lookup f_law_part = some ⟨oc_law_part, od_law_part, .func (PySem.W.fnOf "_law_part" "_law_part" (defArgs s_law_part) (defBody s_law_part) (defScope s_law_part) .none kV_law_part dc_law_part pm_law_part an_law_part cd_law_part ct_law_part), sl_law_part⟩)
    (c_law_part : PySem.W.codeIn K cd_law_part "_law_part" = true)
    (k_law_part : PySem.W.keepIn K (.ref f_law_part) = true)
    (a_law_add : PySem.W.nsIn K mainGlobals "_law_add" = some (some (.ref f_law_add)))
    (l_law_add : K.lookup f_law_add = some ⟨oc_law_add, od_law_add, .func (PySem.W.fnOf "_law_add" "_law_add" (defArgs s_law_add) (defBody s_law_add) (defScope s_law_add) .none kV_law_add dc_law_add pm_law_add an_law_add cd_law_add ct_law_add), sl_law_add⟩)
    (c_law_add : PySem.W.codeIn K cd_law_add "_law_add" = true)
    (k_law_add : PySem.W.keepIn K (.ref f_law_add) = true)
    (a_law_box : PySem.W.nsIn K mainGlobals "_law_box" = some (some (.ref f_law_box)))
    (l_law_box : K.lookup f_law_box = some ⟨oc_law_box, od_law_box, .func (PySem.W.fnOf "_law_box" "_law_box" (defArgs s_law_box) (defBody s_law_box) (defScope s_law_box) .none kV_law_box dc_law_box pm_law_box an_law_box cd_law_box ct_law_box), sl_law_box⟩)
    (c_law_box : PySem.W.codeIn K cd_law_box "_law_box" = true)
    (k_law_box : PySem.W.keepIn K (.ref f_law_box) = true)
    (a_law_boxes : PySem.W.nsIn K mainGlobals "_law_boxes" = some (some (.ref f_law_boxes)))
    (l_law_boxes : K.lookup f_law_boxes = some ⟨oc_law_boxes, od_law_boxes, .func (PySem.W.fnOf "_law_boxes" "_law_boxes" (defArgs s_law_boxes) (defBody s_law_boxes) (defScope s_law_boxes) .none kV_law_boxes dc_law_boxes pm_law_boxes an_law_boxes cd_law_boxes ct_law_boxes), sl_law_boxes⟩)
    (c_law_boxes : PySem.W.codeIn K cd_law_boxes "_law_boxes" = true)
    (k_law_boxes : PySem.W.keepIn K (.ref f_law_boxes) = true)
    (a_common : PySem.W.nsIn K mainGlobals "common" = some (some (.ref f_common)))
    (l_common : K.lookup f_common = some ⟨oc_common, od_common, .func (PySem.W.fnOf "common" "common" (defArgs s_common) (defBody s_common) (defScope s_common) .none kV_common dc_common pm_common an_common cd_common ct_common), sl_common⟩)
    (c_common : PySem.W.codeIn K cd_common "common" = true)
    (k_common : PySem.W.keepIn K (.ref f_common) = true)
    (a_under_all : PySem.W.nsIn K mainGlobals "under_all" = some (some (.ref f_under_all)))
    (l_under_all : K.lookup f_under_all = some ⟨oc_under_all, od_under_all, .func (PySem.W.fnOf "under_all" "under_all" (defArgs s_under_all) (defBody s_under_all) (defScope s_under_all) .none kV_under_all dc_under_all pm_under_all an_under_all cd_under_all ct_under_all), sl_under_all⟩)
    (c_under_all : PySem.W.codeIn K cd_under_all "under_all" = true)
    (k_under_all : PySem.W.keepIn K (.ref f_under_all) = true)
    (a_rising : PySem.W.nsIn K mainGlobals "rising" = some (some (.ref f_rising)))
    (l_rising : K.lookup f_rising = some ⟨oc_rising, od_rising, .func (PySem.W.fnOf "rising" "rising" (defArgs s_rising) (defBody s_rising) (defScope s_rising) .none kV_rising dc_rising pm_rising an_rising (.ref cc_rising) ct_rising), sl_rising⟩)
    (c_rising : PySem.W.codeIn K (.ref cc_rising) "rising" = true)
    (k_rising : PySem.W.keepIn K (.ref f_rising) = true)
    (o_rising : K.lookup cc_rising = some ⟨.type "code", cod_rising, .fields vs_rising, csl_rising⟩)
    (p_rising : vs_rising[11]? = some (.ref P_rising))
    (n_rising : K.lookup P_rising = none)
    (w_rising : PySem.W.codeHdIn K cc_rising P_rising = true)
    (m_rising : P_rising ∈ ts)
    (a_below : PySem.W.nsIn K mainGlobals "below" = some (some (.ref f_below)))
    (l_below : K.lookup f_below = some ⟨oc_below, od_below, .func (PySem.W.fnOf "below" "below" (defArgs s_below) (defBody s_below) (defScope s_below) .none kV_below dc_below pm_below an_below cd_below ct_below), sl_below⟩)
    (c_below : PySem.W.codeIn K cd_below "below" = true)
    (k_below : PySem.W.keepIn K (.ref f_below) = true)
    (a_over_v1 : PySem.W.nsIn K mainGlobals "over" = some (some (.ref f_over_v1)))
    (l_over_v1 : K.lookup f_over_v1 = some ⟨oc_over_v1, od_over_v1, .func (PySem.W.fnOf "over" "over" (defArgs s_over_v1) (defBody s_over_v1) (defScope s_over_v1) .none kV_over_v1 dc_over_v1 pm_over_v1 an_over_v1 cd_over_v1 ct_over_v1), sl_over_v1⟩)
    (c_over_v1 : PySem.W.codeIn K cd_over_v1 "over" = true)
    (k_over_v1 : PySem.W.keepIn K (.ref f_over_v1) = true)
    (a_outline : PySem.W.nsIn K mainGlobals "outline" = some (some (.ref f_outline)))
    (l_outline : K.lookup f_outline = some ⟨oc_outline, od_outline, .func (PySem.W.fnOf "outline" "outline" (defArgs s_outline) (defBody s_outline) (defScope s_outline) .none kV_outline dc_outline pm_outline an_outline cd_outline ct_outline), sl_outline⟩)
    (c_outline : PySem.W.codeIn K cd_outline "outline" = true)
    (k_outline : PySem.W.keepIn K (.ref f_outline) = true)
    (a_law_less : PySem.W.nsIn K mainGlobals "_law_less" = some (some (.ref f_law_less)))
    (l_law_less : K.lookup f_law_less = some ⟨oc_law_less, od_law_less, .func (PySem.W.fnOf "_law_less" "_law_less" (defArgs s_law_less) (defBody s_law_less) (defScope s_law_less) .none kV_law_less dc_law_less pm_law_less an_law_less cd_law_less ct_law_less), sl_law_less⟩)
    (c_law_less : PySem.W.codeIn K cd_law_less "_law_less" = true)
    (k_law_less : PySem.W.keepIn K (.ref f_law_less) = true)
    (a_law_edges : PySem.W.nsIn K mainGlobals "_law_edges" = some (some (.ref f_law_edges)))
    (l_law_edges : K.lookup f_law_edges = some ⟨oc_law_edges, od_law_edges, .func (PySem.W.fnOf "_law_edges" "_law_edges" (defArgs s_law_edges) (defBody s_law_edges) (defScope s_law_edges) .none kV_law_edges dc_law_edges pm_law_edges an_law_edges cd_law_edges ct_law_edges), sl_law_edges⟩)
    (c_law_edges : PySem.W.codeIn K cd_law_edges "_law_edges" = true)
    (k_law_edges : PySem.W.keepIn K (.ref f_law_edges) = true)
    (a_law_mul : PySem.W.nsIn K mainGlobals "_law_mul" = some (some (.ref f_law_mul)))
    (l_law_mul : K.lookup f_law_mul = some ⟨oc_law_mul, od_law_mul, .func (PySem.W.fnOf "_law_mul" "_law_mul" (defArgs s_law_mul) (defBody s_law_mul) (defScope s_law_mul) .none kV_law_mul dc_law_mul pm_law_mul an_law_mul cd_law_mul ct_law_mul), sl_law_mul⟩)
    (c_law_mul : PySem.W.codeIn K cd_law_mul "_law_mul" = true)
    (k_law_mul : PySem.W.keepIn K (.ref f_law_mul) = true)
    (a_law_v39 : PySem.W.nsIn K mainGlobals "law" = some (some (.ref f_law_v39)))
    (l_law_v39 : K.lookup f_law_v39 = some ⟨oc_law_v39, od_law_v39, .func (PySem.W.fnOf "law" "law" (defArgs s_law_v39) (defBody s_law_v39) (defScope s_law_v39) .none kV_law_v39 dc_law_v39 pm_law_v39 an_law_v39 cd_law_v39 ct_law_v39), sl_law_v39⟩)
    (c_law_v39 : PySem.W.codeIn K cd_law_v39 "law" = true)
    (k_law_v39 : PySem.W.keepIn K (.ref f_law_v39) = true)
    (z_abs : PySem.W.nsIn K mainGlobals "abs" = some none)
    (z_len : PySem.W.nsIn K mainGlobals "len" = some none)
    (z_list : PySem.W.nsIn K mainGlobals "list" = some none)
    (z_max : PySem.W.nsIn K mainGlobals "max" = some none)
    (z_range : PySem.W.nsIn K mainGlobals "range" = some none)
    (z_sorted : PySem.W.nsIn K mainGlobals "sorted" = some none)
    (z_zip : PySem.W.nsIn K mainGlobals "zip" = some none) :
    ∃ (fd : FuncData) (cs : List (Addr × Addr × Str)) (sp : DSp), (∀ p ∈ cs, h.get? p.2.1 = some { cls := .none, data := .fields #[] }) ∧ (∀ p ∈ cs, K.lookup p.2.1 = none) ∧ (∀ p ∈ cs, PySem.W.CodeHd h p.1 p.2.1) ∧ (∀ p ∈ cs, ∀ r ∈ cs, p.2.1 = r.2.1 → p.2.2 = r.2.2) ∧
      (∀ (s : Shared) (u : Value), BindsTo s fd ⟨[u], []⟩ [("_law_script", u)]) ∧ (∀ (ns : List Int) (O : Om) (R : D → Om → Prop) (Z : XD), ns.length ≤ 63 → (∀ p ∈ cs, O p.2.1 = some (.tab p.2.2)) → (∀ O', R (.bl true) O') → sp [.lst (ns.map D.int)] O R Z) ∧
      ∀ base : Heap, K.In base → base.Ns mainGlobals mg → (∀ p ∈ cs, LamX.TabB base mg p.1 p.2.1) → FnOk l.prog w K mg base CX0 6 fa fd ["_law_script"] (toSp K sp) := by
  have e : fa = f_law_v39 := Value.ref.inj (Option.some.inj (hfa.symm.trans (PySem.W.mg_of X G a_law_v39)))
  rw [e]
  have B : Bt K mg := ⟨PySem.W.mg_none_of X G z_abs, PySem.W.mg_none_of X G z_len, PySem.W.mg_none_of X G z_list, PySem.W.mg_none_of X G z_max, PySem.W.mg_none_of X G z_range, PySem.W.mg_none_of X G z_sorted, PySem.W.mg_none_of X G z_zip⟩
  have F_law_bag : FunD K "_law_bag" "_law_bag" (defArgs s_law_bag) (defBody s_law_bag) (defScope s_law_bag) [] [] f_law_bag _ := ⟨⟨_, _, _, _, _, _, _, _, _, _, rfl, l_law_bag, c_law_bag, .inl ⟨rfl, rfl⟩, .inl rfl⟩, k_law_bag⟩
  have F_law_gcd : FunD K "_law_gcd" "_law_gcd" (defArgs s_law_gcd) (defBody s_law_gcd) (defScope s_law_gcd) [] [] f_law_gcd _ := ⟨⟨_, _, _, _, _, _, _, _, _, _, rfl, l_law_gcd, c_law_gcd, .inl ⟨rfl, rfl⟩, .inl rfl⟩, k_law_gcd⟩
  have F_law_low : FunD K "_law_low" "_law_low" (defArgs s_law_low) (defBody s_law_low) (defScope s_law_low) [] [] f_law_low _ := ⟨⟨_, _, _, _, _, _, _, _, _, _, rfl, l_law_low, c_law_low, .inl ⟨rfl, rfl⟩, .inl rfl⟩, k_law_low⟩
  have F_law_pull : FunD K "_law_pull" "_law_pull" (defArgs s_law_pull) (defBody s_law_pull) (defScope s_law_pull) [] [] f_law_pull _ := ⟨⟨_, _, _, _, _, _, _, _, _, _, rfl, l_law_pull, c_law_pull, .inl ⟨rfl, rfl⟩, .inl rfl⟩, k_law_pull⟩
  have F_law_part : FunD K "_law_part" "_law_part" (defArgs s_law_part) (defBody s_law_part) (defScope s_law_part) [] [] f_law_part _ := ⟨⟨_, _, _, _, _, _, _, _, _, _, rfl, l_law_part, c_law_part, .inl ⟨rfl, rfl⟩, .inl rfl⟩, k_law_part⟩
  have F_law_add : FunD K "_law_add" "_law_add" (defArgs s_law_add) (defBody s_law_add) (defScope s_law_add) [] [] f_law_add _ := ⟨⟨_, _, _, _, _, _, _, _, _, _, rfl, l_law_add, c_law_add, .inl ⟨rfl, rfl⟩, .inl rfl⟩, k_law_add⟩
  have F_law_box : FunD K "_law_box" "_law_box" (defArgs s_law_box) (defBody s_law_box) (defScope s_law_box) [] [] f_law_box _ := ⟨⟨_, _, _, _, _, _, _, _, _, _, rfl, l_law_box, c_law_box, .inl ⟨rfl, rfl⟩, .inl rfl⟩, k_law_box⟩
  have F_law_boxes : FunD K "_law_boxes" "_law_boxes" (defArgs s_law_boxes) (defBody s_law_boxes) (defScope s_law_boxes) [] [] f_law_boxes _ := ⟨⟨_, _, _, _, _, _, _, _, _, _, rfl, l_law_boxes, c_law_boxes, .inl ⟨rfl, rfl⟩, .inl rfl⟩, k_law_boxes⟩
  have F_common : FunD K "common" "common" (defArgs s_common) (defBody s_common) (defScope s_common) [] [] f_common _ := ⟨⟨_, _, _, _, _, _, _, _, _, _, rfl, l_common, c_common, .inl ⟨rfl, rfl⟩, .inl rfl⟩, k_common⟩
  have F_under_all : FunD K "under_all" "under_all" (defArgs s_under_all) (defBody s_under_all) (defScope s_under_all) [] [] f_under_all _ := ⟨⟨_, _, _, _, _, _, _, _, _, _, rfl, l_under_all, c_under_all, .inl ⟨rfl, rfl⟩, .inl rfl⟩, k_under_all⟩
  have F_rising : FunD K "rising" "rising" (defArgs s_rising) (defBody s_rising) (defScope s_rising) [] [] f_rising _ := ⟨⟨_, _, _, _, _, _, _, _, _, _, rfl, l_rising, c_rising, .inl ⟨rfl, rfl⟩, .inl rfl⟩, k_rising⟩
  have F_below : FunD K "below" "below" (defArgs s_below) (defBody s_below) (defScope s_below) [] [] f_below _ := ⟨⟨_, _, _, _, _, _, _, _, _, _, rfl, l_below, c_below, .inl ⟨rfl, rfl⟩, .inl rfl⟩, k_below⟩
  have F_over_v1 : FunD K "over" "over" (defArgs s_over_v1) (defBody s_over_v1) (defScope s_over_v1) [] [] f_over_v1 _ := ⟨⟨_, _, _, _, _, _, _, _, _, _, rfl, l_over_v1, c_over_v1, .inl ⟨rfl, rfl⟩, .inl rfl⟩, k_over_v1⟩
  have F_outline : FunD K "outline" "outline" (defArgs s_outline) (defBody s_outline) (defScope s_outline) [] [] f_outline _ := ⟨⟨_, _, _, _, _, _, _, _, _, _, rfl, l_outline, c_outline, .inl ⟨rfl, rfl⟩, .inl rfl⟩, k_outline⟩
  have F_law_less : FunD K "_law_less" "_law_less" (defArgs s_law_less) (defBody s_law_less) (defScope s_law_less) [] [] f_law_less _ := ⟨⟨_, _, _, _, _, _, _, _, _, _, rfl, l_law_less, c_law_less, .inl ⟨rfl, rfl⟩, .inl rfl⟩, k_law_less⟩
  have F_law_edges : FunD K "_law_edges" "_law_edges" (defArgs s_law_edges) (defBody s_law_edges) (defScope s_law_edges) [] [] f_law_edges _ := ⟨⟨_, _, _, _, _, _, _, _, _, _, rfl, l_law_edges, c_law_edges, .inl ⟨rfl, rfl⟩, .inl rfl⟩, k_law_edges⟩
  have F_law_mul : FunD K "_law_mul" "_law_mul" (defArgs s_law_mul) (defBody s_law_mul) (defScope s_law_mul) [] [] f_law_mul _ := ⟨⟨_, _, _, _, _, _, _, _, _, _, rfl, l_law_mul, c_law_mul, .inl ⟨rfl, rfl⟩, .inl rfl⟩, k_law_mul⟩
  have F_law_v39 : FunD K "law" "law" (defArgs s_law_v39) (defBody s_law_v39) (defScope s_law_v39) [] [] f_law_v39 _ := ⟨⟨_, _, _, _, _, _, _, _, _, _, rfl, l_law_v39, c_law_v39, .inl ⟨rfl, rfl⟩, .inl rfl⟩, k_law_v39⟩
  refine ⟨PySem.W.fnOf "law" "law" (defArgs s_law_v39) (defBody s_law_v39) (defScope s_law_v39) .none kV_law_v39 dc_law_v39 pm_law_v39 an_law_v39 cd_law_v39 ct_law_v39, [(cc_rising, P_rising, (PySem.Str.ofString "rising.<locals>.<lambda>"))], sp_law_v39 ⟨P_rising, 0, 0⟩, (List.forall_mem_cons.mpr ⟨hT _ m_rising, (fun _ z => nomatch z)⟩), (List.forall_mem_cons.mpr ⟨n_rising, (fun _ z => nomatch z)⟩), (List.forall_mem_cons.mpr ⟨PySem.W.codeHd_of_K X w_rising, (fun _ z => nomatch z)⟩), (List.forall_mem_cons.mpr ⟨(List.forall_mem_cons.mpr ⟨fun _ => rfl, (fun _ z => nomatch z)⟩), (fun _ z => nomatch z)⟩), fun s v => .of_eq rfl, fun ns O R Z hl ht hR => end_law_v39 ⟨P_rising, 0, 0⟩ ns O R Z hl (ht (cc_rising, P_rising, (PySem.Str.ofString "rising.<locals>.<lambda>")) (by simp)) hR, fun base _ _ tbs => ?_⟩
  have D_law_bag : Df l.prog w K mg base 1 s_law_bag "_law_bag" ["_law_script"] [] [] sp_law_bag f_law_bag _ := ⟨F_law_bag, fn_ok F_law_bag sc_law_bag (by intro xs O R Z h; (first | (obtain ⟨_, rfl, _⟩ := h; rfl) | (obtain ⟨_, _, rfl, _⟩ := h; rfl) | (obtain ⟨_, _, _, rfl, _⟩ := h; rfl) | (obtain ⟨_, _, _, _, rfl, _⟩ := h; rfl) | (obtain ⟨_, _, _, _, _, rfl, _⟩ := h; rfl) | (obtain ⟨_, _, _, _, _, _, rfl, _⟩ := h; rfl) | (obtain ⟨_, _, _, _, _, _, _, rfl, _⟩ := h; rfl) | (obtain ⟨_, _, _, _, _, _, _, _, rfl, _⟩ := h; rfl))) (pd_law_bag B ) d_law_bag, PySem.W.mg_of X G a_law_bag⟩
  have D_law_gcd : Df l.prog w K mg base 1 s_law_gcd "_law_gcd" ["_law_p", "_law_q"] [] [] sp_law_gcd f_law_gcd _ := ⟨F_law_gcd, fn_ok F_law_gcd sc_law_gcd (by intro xs O R Z h; (first | (obtain ⟨_, rfl, _⟩ := h; rfl) | (obtain ⟨_, _, rfl, _⟩ := h; rfl) | (obtain ⟨_, _, _, rfl, _⟩ := h; rfl) | (obtain ⟨_, _, _, _, rfl, _⟩ := h; rfl) | (obtain ⟨_, _, _, _, _, rfl, _⟩ := h; rfl) | (obtain ⟨_, _, _, _, _, _, rfl, _⟩ := h; rfl) | (obtain ⟨_, _, _, _, _, _, _, rfl, _⟩ := h; rfl) | (obtain ⟨_, _, _, _, _, _, _, _, rfl, _⟩ := h; rfl))) (pd_law_gcd B ) d_law_gcd, PySem.W.mg_of X G a_law_gcd⟩
  have D_law_low : Df l.prog w K mg base 2 s_law_low "_law_low" ["_law_p", "_law_q"] [] [] sp_law_low f_law_low _ := ⟨F_law_low, fn_ok F_law_low sc_law_low (by intro xs O R Z h; (first | (obtain ⟨_, rfl, _⟩ := h; rfl) | (obtain ⟨_, _, rfl, _⟩ := h; rfl) | (obtain ⟨_, _, _, rfl, _⟩ := h; rfl) | (obtain ⟨_, _, _, _, rfl, _⟩ := h; rfl) | (obtain ⟨_, _, _, _, _, rfl, _⟩ := h; rfl) | (obtain ⟨_, _, _, _, _, _, rfl, _⟩ := h; rfl) | (obtain ⟨_, _, _, _, _, _, _, rfl, _⟩ := h; rfl) | (obtain ⟨_, _, _, _, _, _, _, _, rfl, _⟩ := h; rfl))) (pd_law_low B D_law_gcd) d_law_low, PySem.W.mg_of X G a_law_low⟩
  have D_law_pull : Df l.prog w K mg base 1 s_law_pull "_law_pull" ["_law_bag_here", "_law_sides"] [] [] sp_law_pull f_law_pull _ := ⟨F_law_pull, fn_ok F_law_pull sc_law_pull (by intro xs O R Z h; (first | (obtain ⟨_, rfl, _⟩ := h; rfl) | (obtain ⟨_, _, rfl, _⟩ := h; rfl) | (obtain ⟨_, _, _, rfl, _⟩ := h; rfl) | (obtain ⟨_, _, _, _, rfl, _⟩ := h; rfl) | (obtain ⟨_, _, _, _, _, rfl, _⟩ := h; rfl) | (obtain ⟨_, _, _, _, _, _, rfl, _⟩ := h; rfl) | (obtain ⟨_, _, _, _, _, _, _, rfl, _⟩ := h; rfl) | (obtain ⟨_, _, _, _, _, _, _, _, rfl, _⟩ := h; rfl))) (pd_law_pull B ) d_law_pull, PySem.W.mg_of X G a_law_pull⟩
  have D_law_part : Df l.prog w K mg base 3 s_law_part "_law_part" ["_law_bag_here", "_law_wide"] [] [] sp_law_part f_law_part _ := ⟨F_law_part, fn_ok F_law_part sc_law_part (by intro xs O R Z h; (first | (obtain ⟨_, rfl, _⟩ := h; rfl) | (obtain ⟨_, _, rfl, _⟩ := h; rfl) | (obtain ⟨_, _, _, rfl, _⟩ := h; rfl) | (obtain ⟨_, _, _, _, rfl, _⟩ := h; rfl) | (obtain ⟨_, _, _, _, _, rfl, _⟩ := h; rfl) | (obtain ⟨_, _, _, _, _, _, rfl, _⟩ := h; rfl) | (obtain ⟨_, _, _, _, _, _, _, rfl, _⟩ := h; rfl) | (obtain ⟨_, _, _, _, _, _, _, _, rfl, _⟩ := h; rfl))) (pd_law_part B D_law_low D_law_pull) d_law_part, PySem.W.mg_of X G a_law_part⟩
  have D_law_add : Df l.prog w K mg base 3 s_law_add "_law_add" ["_law_p", "_law_q"] [] [] sp_law_add f_law_add _ := ⟨F_law_add, fn_ok F_law_add sc_law_add (by intro xs O R Z h; (first | (obtain ⟨_, rfl, _⟩ := h; rfl) | (obtain ⟨_, _, rfl, _⟩ := h; rfl) | (obtain ⟨_, _, _, rfl, _⟩ := h; rfl) | (obtain ⟨_, _, _, _, rfl, _⟩ := h; rfl) | (obtain ⟨_, _, _, _, _, rfl, _⟩ := h; rfl) | (obtain ⟨_, _, _, _, _, _, rfl, _⟩ := h; rfl) | (obtain ⟨_, _, _, _, _, _, _, rfl, _⟩ := h; rfl) | (obtain ⟨_, _, _, _, _, _, _, _, rfl, _⟩ := h; rfl))) (pd_law_add B D_law_low) d_law_add, PySem.W.mg_of X G a_law_add⟩
  have D_law_box : Df l.prog w K mg base 4 s_law_box "_law_box" ["_law_bag_here"] [] [] sp_law_box f_law_box _ := ⟨F_law_box, fn_ok F_law_box sc_law_box (by intro xs O R Z h; (first | (obtain ⟨_, rfl, _⟩ := h; rfl) | (obtain ⟨_, _, rfl, _⟩ := h; rfl) | (obtain ⟨_, _, _, rfl, _⟩ := h; rfl) | (obtain ⟨_, _, _, _, rfl, _⟩ := h; rfl) | (obtain ⟨_, _, _, _, _, rfl, _⟩ := h; rfl) | (obtain ⟨_, _, _, _, _, _, rfl, _⟩ := h; rfl) | (obtain ⟨_, _, _, _, _, _, _, rfl, _⟩ := h; rfl) | (obtain ⟨_, _, _, _, _, _, _, _, rfl, _⟩ := h; rfl))) (pd_law_box B D_law_part D_law_add D_law_low D_law_pull) d_law_box, PySem.W.mg_of X G a_law_box⟩
  have D_law_boxes : Df l.prog w K mg base 5 s_law_boxes "_law_boxes" ["_law_bag_here", "_law_most"] [] [] sp_law_boxes f_law_boxes _ := ⟨F_law_boxes, fn_ok F_law_boxes sc_law_boxes (by intro xs O R Z h; (first | (obtain ⟨_, rfl, _⟩ := h; rfl) | (obtain ⟨_, _, rfl, _⟩ := h; rfl) | (obtain ⟨_, _, _, rfl, _⟩ := h; rfl) | (obtain ⟨_, _, _, _, rfl, _⟩ := h; rfl) | (obtain ⟨_, _, _, _, _, rfl, _⟩ := h; rfl) | (obtain ⟨_, _, _, _, _, _, rfl, _⟩ := h; rfl) | (obtain ⟨_, _, _, _, _, _, _, rfl, _⟩ := h; rfl) | (obtain ⟨_, _, _, _, _, _, _, _, rfl, _⟩ := h; rfl))) (pd_law_boxes B D_law_pull D_law_box D_law_add) d_law_boxes, PySem.W.mg_of X G a_law_boxes⟩
  have D_common : Df l.prog w K mg base 1 s_common "common" ["one", "other"] [] [] sp_common f_common _ := ⟨F_common, fn_ok F_common sc_common (by intro xs O R Z h; (first | (obtain ⟨_, rfl, _⟩ := h; rfl) | (obtain ⟨_, _, rfl, _⟩ := h; rfl) | (obtain ⟨_, _, _, rfl, _⟩ := h; rfl) | (obtain ⟨_, _, _, _, rfl, _⟩ := h; rfl) | (obtain ⟨_, _, _, _, _, rfl, _⟩ := h; rfl) | (obtain ⟨_, _, _, _, _, _, rfl, _⟩ := h; rfl) | (obtain ⟨_, _, _, _, _, _, _, rfl, _⟩ := h; rfl) | (obtain ⟨_, _, _, _, _, _, _, _, rfl, _⟩ := h; rfl))) (pd_common B ) d_common, PySem.W.mg_of X G a_common⟩
  have D_under_all : Df l.prog w K mg base 2 s_under_all "under_all" ["row"] [] [] sp_under_all f_under_all _ := ⟨F_under_all, fn_ok F_under_all sc_under_all (by intro xs O R Z h; (first | (obtain ⟨_, rfl, _⟩ := h; rfl) | (obtain ⟨_, _, rfl, _⟩ := h; rfl) | (obtain ⟨_, _, _, rfl, _⟩ := h; rfl) | (obtain ⟨_, _, _, _, rfl, _⟩ := h; rfl) | (obtain ⟨_, _, _, _, _, rfl, _⟩ := h; rfl) | (obtain ⟨_, _, _, _, _, _, rfl, _⟩ := h; rfl) | (obtain ⟨_, _, _, _, _, _, _, rfl, _⟩ := h; rfl) | (obtain ⟨_, _, _, _, _, _, _, _, rfl, _⟩ := h; rfl))) (pd_under_all B D_common) d_under_all, PySem.W.mg_of X G a_under_all⟩
  have D_rising : Df l.prog w K mg base 3 s_rising "rising" ["row"] [] [] (sp_rising ⟨P_rising, 0, 0⟩) f_rising _ := ⟨F_rising, fn_okC F_rising rfl sc_rising (by intro xs O R Z h; (first | (obtain ⟨_, rfl, _⟩ := h; rfl) | (obtain ⟨_, _, rfl, _⟩ := h; rfl) | (obtain ⟨_, _, _, rfl, _⟩ := h; rfl) | (obtain ⟨_, _, _, _, rfl, _⟩ := h; rfl) | (obtain ⟨_, _, _, _, _, rfl, _⟩ := h; rfl) | (obtain ⟨_, _, _, _, _, _, rfl, _⟩ := h; rfl) | (obtain ⟨_, _, _, _, _, _, _, rfl, _⟩ := h; rfl) | (obtain ⟨_, _, _, _, _, _, _, _, rfl, _⟩ := h; rfl))) (pd_rising (tb := ⟨P_rising, 0, 0⟩) B (tbs (cc_rising, P_rising, (PySem.Str.ofString "rising.<locals>.<lambda>")) (by simp)) D_under_all) (d_rising ⟨P_rising, 0, 0⟩), PySem.W.mg_of X G a_rising⟩
  have D_below : Df l.prog w K mg base 1 s_below "below" ["one", "other"] [] [] sp_below f_below _ := ⟨F_below, fn_ok F_below sc_below (by intro xs O R Z h; (first | (obtain ⟨_, rfl, _⟩ := h; rfl) | (obtain ⟨_, _, rfl, _⟩ := h; rfl) | (obtain ⟨_, _, _, rfl, _⟩ := h; rfl) | (obtain ⟨_, _, _, _, rfl, _⟩ := h; rfl) | (obtain ⟨_, _, _, _, _, rfl, _⟩ := h; rfl) | (obtain ⟨_, _, _, _, _, _, rfl, _⟩ := h; rfl) | (obtain ⟨_, _, _, _, _, _, _, rfl, _⟩ := h; rfl) | (obtain ⟨_, _, _, _, _, _, _, _, rfl, _⟩ := h; rfl))) (pd_below B ) d_below, PySem.W.mg_of X G a_below⟩
  have D_over_v1 : Df l.prog w K mg base 2 s_over_v1 "over" ["one", "other"] [] [] sp_over_v1 f_over_v1 _ := ⟨F_over_v1, fn_ok F_over_v1 sc_over_v1 (by intro xs O R Z h; (first | (obtain ⟨_, rfl, _⟩ := h; rfl) | (obtain ⟨_, _, rfl, _⟩ := h; rfl) | (obtain ⟨_, _, _, rfl, _⟩ := h; rfl) | (obtain ⟨_, _, _, _, rfl, _⟩ := h; rfl) | (obtain ⟨_, _, _, _, _, rfl, _⟩ := h; rfl) | (obtain ⟨_, _, _, _, _, _, rfl, _⟩ := h; rfl) | (obtain ⟨_, _, _, _, _, _, _, rfl, _⟩ := h; rfl) | (obtain ⟨_, _, _, _, _, _, _, _, rfl, _⟩ := h; rfl))) (pd_over_v1 B D_below) d_over_v1, PySem.W.mg_of X G a_over_v1⟩
  have D_outline : Df l.prog w K mg base 4 s_outline "outline" ["boxes"] [] [] (sp_outline ⟨P_rising, 0, 0⟩) f_outline _ := ⟨F_outline, fn_ok F_outline sc_outline (by intro xs O R Z h; (first | (obtain ⟨_, rfl, _⟩ := h; rfl) | (obtain ⟨_, _, rfl, _⟩ := h; rfl) | (obtain ⟨_, _, _, rfl, _⟩ := h; rfl) | (obtain ⟨_, _, _, _, rfl, _⟩ := h; rfl) | (obtain ⟨_, _, _, _, _, rfl, _⟩ := h; rfl) | (obtain ⟨_, _, _, _, _, _, rfl, _⟩ := h; rfl) | (obtain ⟨_, _, _, _, _, _, _, rfl, _⟩ := h; rfl) | (obtain ⟨_, _, _, _, _, _, _, _, rfl, _⟩ := h; rfl))) (pd_outline (tb := ⟨P_rising, 0, 0⟩) B D_rising D_over_v1) (d_outline ⟨P_rising, 0, 0⟩), PySem.W.mg_of X G a_outline⟩
  have D_law_less : Df l.prog w K mg base 1 s_law_less "_law_less" ["_law_p", "_law_q"] [] [] sp_law_less f_law_less _ := ⟨F_law_less, fn_ok F_law_less sc_law_less (by intro xs O R Z h; (first | (obtain ⟨_, rfl, _⟩ := h; rfl) | (obtain ⟨_, _, rfl, _⟩ := h; rfl) | (obtain ⟨_, _, _, rfl, _⟩ := h; rfl) | (obtain ⟨_, _, _, _, rfl, _⟩ := h; rfl) | (obtain ⟨_, _, _, _, _, rfl, _⟩ := h; rfl) | (obtain ⟨_, _, _, _, _, _, rfl, _⟩ := h; rfl) | (obtain ⟨_, _, _, _, _, _, _, rfl, _⟩ := h; rfl) | (obtain ⟨_, _, _, _, _, _, _, _, rfl, _⟩ := h; rfl))) (pd_law_less B ) d_law_less, PySem.W.mg_of X G a_law_less⟩
  have D_law_edges : Df l.prog w K mg base 2 s_law_edges "_law_edges" ["_law_piles"] [] [] sp_law_edges f_law_edges _ := ⟨F_law_edges, fn_ok F_law_edges sc_law_edges (by intro xs O R Z h; (first | (obtain ⟨_, rfl, _⟩ := h; rfl) | (obtain ⟨_, _, rfl, _⟩ := h; rfl) | (obtain ⟨_, _, _, rfl, _⟩ := h; rfl) | (obtain ⟨_, _, _, _, rfl, _⟩ := h; rfl) | (obtain ⟨_, _, _, _, _, rfl, _⟩ := h; rfl) | (obtain ⟨_, _, _, _, _, _, rfl, _⟩ := h; rfl) | (obtain ⟨_, _, _, _, _, _, _, rfl, _⟩ := h; rfl) | (obtain ⟨_, _, _, _, _, _, _, _, rfl, _⟩ := h; rfl))) (pd_law_edges B D_law_less) d_law_edges, PySem.W.mg_of X G a_law_edges⟩
  have D_law_mul : Df l.prog w K mg base 3 s_law_mul "_law_mul" ["_law_p", "_law_q"] [] [] sp_law_mul f_law_mul _ := ⟨F_law_mul, fn_ok F_law_mul sc_law_mul (by intro xs O R Z h; (first | (obtain ⟨_, rfl, _⟩ := h; rfl) | (obtain ⟨_, _, rfl, _⟩ := h; rfl) | (obtain ⟨_, _, _, rfl, _⟩ := h; rfl) | (obtain ⟨_, _, _, _, rfl, _⟩ := h; rfl) | (obtain ⟨_, _, _, _, _, rfl, _⟩ := h; rfl) | (obtain ⟨_, _, _, _, _, _, rfl, _⟩ := h; rfl) | (obtain ⟨_, _, _, _, _, _, _, rfl, _⟩ := h; rfl) | (obtain ⟨_, _, _, _, _, _, _, _, rfl, _⟩ := h; rfl))) (pd_law_mul B D_law_low) d_law_mul, PySem.W.mg_of X G a_law_mul⟩
  have D_law_v39 : Df l.prog w K mg base 6 s_law_v39 "law" ["_law_script"] [] [] (sp_law_v39 ⟨P_rising, 0, 0⟩) f_law_v39 _ := ⟨F_law_v39, fn_ok F_law_v39 sc_law_v39 (by intro xs O R Z h; (first | (obtain ⟨_, rfl, _⟩ := h; rfl) | (obtain ⟨_, _, rfl, _⟩ := h; rfl) | (obtain ⟨_, _, _, rfl, _⟩ := h; rfl) | (obtain ⟨_, _, _, _, rfl, _⟩ := h; rfl) | (obtain ⟨_, _, _, _, _, rfl, _⟩ := h; rfl) | (obtain ⟨_, _, _, _, _, _, rfl, _⟩ := h; rfl) | (obtain ⟨_, _, _, _, _, _, _, rfl, _⟩ := h; rfl) | (obtain ⟨_, _, _, _, _, _, _, _, rfl, _⟩ := h; rfl))) (pd_law_v39 (tb := ⟨P_rising, 0, 0⟩) B D_law_bag D_law_boxes D_outline D_law_less D_law_edges D_law_mul D_law_add D_over_v1) (d_law_v39 ⟨P_rising, 0, 0⟩), PySem.W.mg_of X G a_law_v39⟩
  exact D_law_v39.ok
end Lw
open PySem PySem.W PyProof.Rows
set_option maxHeartbeats 0 in
theorem PySem.Challenge.cw_burinleaf_k40_whole_an_outline_covers_ju_holds : PySem.Challenge.rw_burinleaf_k40_whole_an_outline_covers_ju.Holds := by
  w_on; o_law; k_head; (case hw => w_witness2)
  k_fill
  refine DL.walkDT (l := PySem.Challenge.rw_burinleaf_k40_whole_an_outline_covers_ju) (n := 63) (k := 6) (x := "_law_script") rfl (by decide) rfl ⟨rfl, by decide, by decide⟩ (fun w h Y => PySem.W.km_in_of Y) ?F
  case F =>
    intro w mg fa h Y KX G hmg
    refine' Lw.all_mk KX G hmg (PySem.W.km_tabs_of Y) ?a_law_bag ?l_law_bag ?c_law_bag ?k_law_bag ?a_law_gcd ?l_law_gcd ?c_law_gcd ?k_law_gcd ?a_law_low ?l_law_low ?c_law_low ?k_law_low ?a_law_pull ?l_law_pull ?c_law_pull ?k_law_pull ?a_law_part ?l_law_part ?c_law_part ?k_law_part ?a_law_add ?l_law_add ?c_law_add ?k_law_add ?a_law_box ?l_law_box ?c_law_box ?k_law_box ?a_law_boxes ?l_law_boxes ?c_law_boxes ?k_law_boxes ?a_common ?l_common ?c_common ?k_common ?a_under_all ?l_under_all ?c_under_all ?k_under_all ?a_rising ?l_rising ?c_rising ?k_rising ?o_rising ?p_rising ?n_rising ?w_rising ?m_rising ?a_below ?l_below ?c_below ?k_below ?a_over_v1 ?l_over_v1 ?c_over_v1 ?k_over_v1 ?a_outline ?l_outline ?c_outline ?k_outline ?a_law_less ?l_law_less ?c_law_less ?k_law_less ?a_law_edges ?l_law_edges ?c_law_edges ?k_law_edges ?a_law_mul ?l_law_mul ?c_law_mul ?k_law_mul ?a_law_v39 ?l_law_v39 ?c_law_v39 ?k_law_v39 ?z_abs ?z_len ?z_list ?z_max ?z_range ?z_sorted ?z_zip
    (case a_law_bag => k_is); (case l_law_bag => k_is); (case c_law_bag => k_is); (case k_law_bag => k_is)
    (case a_law_gcd => k_is); (case l_law_gcd => k_is); (case c_law_gcd => k_is); (case k_law_gcd => k_is)
    (case a_law_low => k_is); (case l_law_low => k_is); (case c_law_low => k_is); (case k_law_low => k_is)
    (case a_law_pull => k_is); (case l_law_pull => k_is); (case c_law_pull => k_is); (case k_law_pull => k_is)
    (case a_law_part => k_is); (case l_law_part => k_is); (case c_law_part => k_is); (case k_law_part => k_is)
    (case a_law_add => k_is); (case l_law_add => k_is); (case c_law_add => k_is); (case k_law_add => k_is)
    (case a_law_box => k_is); (case l_law_box => k_is); (case c_law_box => k_is); (case k_law_box => k_is)
    (case a_law_boxes => k_is); (case l_law_boxes => k_is); (case c_law_boxes => k_is); (case k_law_boxes => k_is)
    (case a_common => k_is); (case l_common => k_is); (case c_common => k_is); (case k_common => k_is)
    (case a_under_all => k_is); (case l_under_all => k_is); (case c_under_all => k_is); (case k_under_all => k_is)
    (case a_rising => k_is); (case l_rising => k_is); (case c_rising => k_is); (case k_rising => k_is)
    (case o_rising => k_is); (case p_rising => rfl); (case n_rising => kernel_rfl); (case w_rising => kernel_rfl)
    (case m_rising => k_mem); (case a_below => k_is); (case l_below => k_is); (case c_below => k_is)
    (case k_below => k_is); (case a_over_v1 => k_is); (case l_over_v1 => k_is); (case c_over_v1 => k_is)
    (case k_over_v1 => k_is); (case a_outline => k_is); (case l_outline => k_is); (case c_outline => k_is)
    (case k_outline => k_is); (case a_law_less => k_is); (case l_law_less => k_is); (case c_law_less => k_is)
    (case k_law_less => k_is); (case a_law_edges => k_is); (case l_law_edges => k_is); (case c_law_edges => k_is)
    (case k_law_edges => k_is); (case a_law_mul => k_is); (case l_law_mul => k_is); (case c_law_mul => k_is)
    (case k_law_mul => k_is); (case a_law_v39 => k_is); (case l_law_v39 => k_is); (case c_law_v39 => k_is)
    (case k_law_v39 => k_is); (case z_abs => k_is); (case z_len => k_is); (case z_list => k_is)
    (case z_max => k_is); (case z_range => k_is); (case z_sorted => k_is); (case z_zip => k_is)
