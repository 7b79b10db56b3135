import PyProof.Rows.All
import Wide.All
import OpenK.AllK
import Wide.FinOn
import HandS.ForMost
import HandS.ForExc
import HandS.EndBits
import HandS.Evl
import HandS.Lambda
import HandS.Rev
import HandS.Defaults
import HandS.IsInst
import HandS.TupAny
import HandS.Wide
import HandS.Style
import HandS.SortInts
import HandS.FStr
import HandS.More
import HandS.RaiseMore
import HandS.Dict
import HandS.Zip
import HandS.TupSets
import HandS.DictComp
import HandS.WideBits
import KE.GoesMore
import HandS.Conv
import HandS.SortRule
import HandS.SortKw
import PyProof.Rows.SeqMore
import HandS.SetFor
import HandS.ExcInit
import HandS.ExcField
import HandS.ExcOwn
import HandS.ExcIs
import KE.KIsAll
import KE.KExcIs
import KE.KLam
import KE.SortData
import KE.SortKeyHeap
import HandS.EndTab
import KE.KNestM
import KE.GoesEnumKw
import HandS.DictTup
import HandS.Deep
import KE.DataFind
import KE.KUnpackStar
import HandS.TryOnly
import PyProof.SeqIndex
import PyProof.SumWalkG
import HandS.ExcValue
import PyProof.ReprRoads
import PyProof.ReprLen
import HandS.TryMany
import KE.DataCmp
import HandS.Codes
import PyProof.AssignAttr
import HandS.OwnEq
import KE.KCallOwn
import HandS.Text
import PySem.Challenge.RW_burinleaf_k25_layouts_compared_and_writt
set_option Elab.async false
set_option linter.all false
set_option maxRecDepth 100000
set_option maxHeartbeats 2000000
namespace DL
open PySem L2
open Evl (Ex)
/-- data: a value by what it is; ref: a thing that is owned, or code -/
inductive D where
  | non | bl (b : Bool) | int (i : Int) | str (x : Str) | tup (xs : List D) | lst (xs : List D) | ref (a : Addr) | ty (n : String) | ptup (xs : List D)
mutual
inductive VR (K : PySem.W.Frag) (G : Hp) : V → D → Prop
  | non : VR K G .non .non
  | bl (b : Bool) : VR K G (.bl b) (.bl b)
  | int (i : Int) : VR K G (.int i) (.int i)
  | str (x : Str) : VR K G (.str x) (.str x)
  | ref (a : Addr) : VR K G (.ref a) (.ref a)
  | ty (n : String) : VR K G (.ty n) (.ty n)
  | tup {a : Addr} {vs : List V} {ds : List D} : SqT K G a vs → VRs K G vs ds → VR K G (.ref a) (.tup ds)
  | lst {a : Addr} {vs : List V} {ds : List D} : SqL K G a vs → VRs K G vs ds → VR K G (.ref a) (.lst ds)
  | ptup {a : Addr} {vs : List V} {ds : List D} : G a = some (.tup vs) → VRs K G vs ds → VR K G (.ref a) (.ptup ds)
inductive VRs (K : PySem.W.Frag) (G : Hp) : List V → List D → Prop
  | nil : VRs K G [] []
  | cons {v : V} {vs : List V} {d : D} {ds : List D} : VR K G v d → VRs K G vs ds → VRs K G (v :: vs) (d :: ds)
end
section
variable {K : PySem.W.Frag} {G G' : Hp}
mutual
theorem VR.mono (e : Ex G G') : ∀ {v : V} {d : D}, VR K G v d → VR K G' v d
  | _, _, .non => .non
  | _, _, .bl b => .bl b
  | _, _, .int b => .int b
  | _, _, .str b => .str b
  | _, _, .ref b => .ref b
  | _, _, .ty b => .ty b
  | _, _, .tup h r => .tup (Evl.ex_t e h) (VRs.mono e r)
  | _, _, .lst h r => .lst (Evl.ex_l e h) (VRs.mono e r)
  | _, _, .ptup h r => .ptup (e _ _ h) (VRs.mono e r)
theorem VRs.mono (e : Ex G G') : ∀ {vs : List V} {ds : List D}, VRs K G vs ds → VRs K G' vs ds
  | _, _, .nil => .nil
  | _, _, .cons h r => .cons (VR.mono e h) (VRs.mono e r)
end
theorem VRs.length : ∀ {vs : List V} {ds : List D}, VRs K G vs ds → vs.length = ds.length
  | _, _, .nil => rfl
  | _, _, .cons _ r => by rw [List.length_cons, List.length_cons, VRs.length r]
theorem VRs.get : ∀ {vs : List V} {ds : List D} {i : Nat} {d : D}, VRs K G vs ds → ds[i]? = some d → ∃ v, vs[i]? = some v ∧ VR K G v d
  | _, _, _, _, .nil, e => by simp at e
  | _, _, 0, _, .cons h _, e => by simp at e; subst e; exact ⟨_, rfl, h⟩
  | _, _, i + 1, d, .cons _ t, e => by
    obtain ⟨v, h1, h2⟩ := VRs.get (i := i) (d := d) t (by simpa using e)
    exact ⟨v, by simpa using h1, h2⟩
theorem VRs.append : ∀ {vs us : List V} {ds es : List D}, VRs K G vs ds → VRs K G us es → VRs K G (vs ++ us) (ds ++ es)
  | _, _, _, _, .nil, s => s
  | _, _, _, _, .cons r t, s => .cons r (VRs.append t s)
theorem VRs.set {x : V} {u : D} (r : VR K G x u) : ∀ {xs : List V} {us : List D} (i : Nat), VRs K G xs us → VRs K G (xs.set i x) (us.set i u)
  | _, _, _, .nil => .nil
  | _, _, 0, .cons _ t => .cons r t
  | _, _, i + 1, .cons q t => .cons q (VRs.set r i t)
theorem VRs.take : ∀ {xs : List V} {us : List D} (n : Nat), VRs K G xs us → VRs K G (xs.take n) (us.take n)
  | _, _, 0, _ => .nil
  | _, _, _ + 1, .nil => .nil
  | _, _, n + 1, .cons r t => .cons r (VRs.take n t)
theorem VRs.drop : ∀ {xs : List V} {us : List D} (n : Nat), VRs K G xs us → VRs K G (xs.drop n) (us.drop n)
  | _, _, 0, r => r
  | _, _, _ + 1, .nil => .nil
  | _, _, n + 1, .cons _ t => VRs.drop n t
theorem VRs.reverse : ∀ {xs : List V} {us : List D}, VRs K G xs us → VRs K G xs.reverse us.reverse
  | _, _, .nil => .nil
  | _, _, .cons r t => by
    rw [List.reverse_cons, List.reverse_cons]
    exact VRs.append (VRs.reverse t) (.cons r .nil)
theorem VRs.one {vs : List V} {d : D} (h : VRs K G vs [d]) : ∃ v, vs = [v] ∧ VR K G v d := by
  cases h with
  | cons h r => cases r; exact ⟨_, rfl, h⟩
theorem VRs.two {vs : List V} {d e : D} (h : VRs K G vs [d, e]) : ∃ v u, vs = [v, u] ∧ VR K G v d ∧ VR K G u e := by
  cases h with
  | cons h r => obtain ⟨u, rfl, hu⟩ := r.one; exact ⟨_, _, rfl, h, hu⟩
theorem VRs.bls : ∀ {vs : List V} {ns : List Bool}, VRs K G vs (ns.map D.bl) → vs = ns.map V.bl
  | [], [], _ => rfl
  | _, [], h => by cases h; rfl
  | _, n :: ns, h => by
    cases h with
    | cons h r => cases h; rw [VRs.bls r]; rfl
theorem VRs.strs : ∀ {vs : List V} {ns : List Str}, VRs K G vs (ns.map D.str) → vs = ns.map V.str
  | [], [], _ => rfl
  | _, [], h => by cases h; rfl
  | _, n :: ns, h => by
    cases h with
    | cons h r => cases h; rw [VRs.strs r]; rfl
theorem VRs.ofInts : ∀ (ns : List Int), VRs K G (ns.map V.int) (ns.map D.int)
  | [] => .nil
  | n :: ns => .cons (.int n) (VRs.ofInts ns)
end
inductive DO where
  | lst (xs : List D) | dK (kvs : List (Key × D)) | dT (kvs : List (List Key × D)) | ins (C dx : Addr) (fs : List (Str × D)) | own (x : Addr) | xd (fs : List (Str × D)) | fK (od : Obj) (kvs : List (Key × V)) (es : List (Key × D)) | tab (q : Str)
abbrev Om := Addr → Option DO
def up (O : Om) (a : Addr) (o : DO) : Om := fun b => if b = a then some o else O b
theorem up_same {O : Om} {a : Addr} {o : DO} : up O a o a = some o := if_pos rfl
theorem up_ne {O : Om} {a b : Addr} {o : DO} (h : b ≠ a) : up O a o b = O b := if_neg h
theorem up_up {O : Om} {a : Addr} {o u : DO} : up (up O a o) a u = up O a u := by
  funext b; unfold up; split <;> rfl
def PR {A : Type} (K : PySem.W.Frag) (G : Hp) : List (A × V) → List (A × D) → Prop := Paired fun p q => p.1 = q.1 ∧ VR K G p.2 q.2
theorem PR.mono {A : Type} {K : PySem.W.Frag} {G G' : Hp} (e : Ex G G') {xs : List (A × V)} {ys : List (A × D)} (h : PR K G xs ys) : PR K G' xs ys :=
  Paired.mapP h fun _ _ z => ⟨z.1, z.2.mono e⟩
def OR (K : PySem.W.Frag) (G : Hp) : DO → HO → Prop
  | .lst ds, .lst vs => VRs K G vs ds
  | .dK es, .dK kvs => PR K G kvs es
  | .dT es, .dT kvs => PR K G kvs es
  | .ins C dx fs, .ins C' dx' vs => C = C' ∧ dx = dx' ∧ PR K G vs fs
  | .own x, .own y => x = y
  | .xd fs, .xd vs => PR K G vs fs
  | .tab q, .tbl ps => TriplesOk ps.toList ∧ ∀ (pos : Pos) (cv : Value), codeAmong pos ps.toList = some cv → ∃ c, cv = .ref c ∧ G c = some (LamX.CodeO c q)
  | .fK od kvs es, u => u = .frz od (.dK kvs) ∧ PR K G kvs es
  | _, _ => False
theorem OR.mono {K : PySem.W.Frag} {G G' : Hp} (e : Ex G G') : ∀ {o : DO} {u : HO}, OR K G o u → OR K G' o u := by
  intro o u h
  cases o <;> cases u <;> first
    | exact h.elim
    | exact VRs.mono e h
    | exact PR.mono e h
    | exact ⟨h.1, h.2.1, PR.mono e h.2.2⟩
    | exact ⟨h.1, PR.mono e h.2⟩
    | exact ⟨h.1, fun pos cv hc => let ⟨c, e1, e2⟩ := h.2 pos cv hc; ⟨c, e1, e _ _ e2⟩⟩
    | exact h
structure Rel (K : PySem.W.Frag) (G : Hp) (O : Om) (H : Hp) : Prop where
  g : Ex G H
  o : ∀ a o, O a = some o → G a = none ∧ ∃ u, H a = some u ∧ OR K G o u
/-- a step: what was not owned stands, what is new was owned or fresh -/
structure Go (K : PySem.W.Frag) (G : Hp) (O : Om) (H : Hp) (G' : Hp) (O' : Om) (H' : Hp) : Prop where
  rel : Rel K G' O' H'
  ex : Ex G G'
  fr : ∀ a o, O a = none → H a = some o → H' a = some o
  nwO : ∀ a o, O' a = some o → (∃ u, O a = some u) ∨ H a = none
  nwG : ∀ a o, G' a = some o → (∃ u, O a = some u) ∨ (∃ u, G a = some u) ∨ H a = none ∨ ∃ vs, H a = some (.tup vs)
theorem OR.noTup {K : PySem.W.Frag} {G : Hp} {o : DO} {vs : List V} (h : OR K G o (.tup vs)) : False := by
  cases o <;> first | exact h.elim | exact h | (cases h.1)
section
variable {K : PySem.W.Frag} {G G1 G2 : Hp} {O O1 O2 : Om} {H H1 H2 : Hp}
theorem Go.refl (r : Rel K G O H) : Go K G O H G O H := ⟨r, Ex.refl G, fun _ _ _ h => h, fun a o h => .inl ⟨o, h⟩, fun a o h => .inr (.inl ⟨o, h⟩)⟩
theorem Rel.fresh (r : Rel K G O H) {a : Addr} (h : H a = none) : O a = none ∧ G a = none := by
  refine ⟨?_, Evl.fresh_back r.g h⟩
  cases e : O a with
  | none => rfl
  | some o => obtain ⟨_, u, hu, _⟩ := r.o a o e; rw [h] at hu; cases hu
theorem Go.trans (r : Rel K G O H) (a : Go K G O H G1 O1 H1) (b : Go K G1 O1 H1 G2 O2 H2) : Go K G O H G2 O2 H2 := by
  refine ⟨b.rel, a.ex.trans b.ex, fun x o h1 h2 => ?_, fun x o h => ?_, fun x o h => ?_⟩
  · refine b.fr x o ?_ (a.fr x o h1 h2)
    cases e : O1 x with
    | none => rfl
    | some u =>
      rcases a.nwO x u e with ⟨w, hw⟩ | hn
      · rw [h1] at hw; cases hw
      · rw [h2] at hn; cases hn
  · rcases b.nwO x o h with ⟨w, hw⟩ | hn
    · exact a.nwO x w hw
    · cases e : O x with
      | some u => exact .inl ⟨u, rfl⟩
      | none =>
        cases e2 : H x with
        | none => exact .inr rfl
        | some u => rw [a.fr x u e e2] at hn; cases hn
  · rcases b.nwG x o h with ⟨w, hw⟩ | ⟨w, hw⟩ | hn | ⟨ts, hn⟩
    · rcases a.nwO x w hw with z | z
      · exact .inl z
      · exact .inr (.inr (.inl z))
    · exact a.nwG x w hw
    · cases e : O x with
      | some u => exact .inl ⟨u, rfl⟩
      | none =>
        cases e2 : H x with
        | none => exact .inr (.inr (.inl rfl))
        | some u => rw [a.fr x u e e2] at hn; cases hn
    · cases e : O x with
      | some u => exact .inl ⟨u, rfl⟩
      | none =>
        cases e2 : H x with
        | none => exact .inr (.inr (.inl rfl))
        | some u => rw [a.fr x u e e2] at hn; cases hn; exact .inr (.inr (.inr ⟨ts, rfl⟩))
/-- a new owned thing -/
theorem Go.new (r : Rel K G O H) {a : Addr} {o : DO} {u : HO} (h : H a = none) (q : OR K G o u) : Go K G O H G (up O a o) (upd H a u) := by
  obtain ⟨ho, hg⟩ := r.fresh h
  refine ⟨⟨fun x w e => ?_, fun x w e => ?_⟩, Ex.refl G, fun x w e1 e2 => ?_, fun x w e => ?_, fun x w e => .inr (.inl ⟨w, e⟩)⟩
  · rw [upd_ne (ne_of_none (r.g x w e) h)]; exact r.g x w e
  · by_cases hx : x = a
    · subst hx; rw [up_same] at e; cases e; exact ⟨hg, u, upd_same, q⟩
    · rw [up_ne hx] at e; obtain ⟨h1, v, h2, h3⟩ := r.o x w e; exact ⟨h1, v, by rw [upd_ne hx]; exact h2, h3⟩
  · rw [upd_ne (ne_of_none e2 h)]; exact e2
  · by_cases hx : x = a
    · subst hx; exact .inr h
    · rw [up_ne hx] at e; exact .inl ⟨w, e⟩
/-- an owned thing is written -/
theorem Go.write (r : Rel K G O H) {a : Addr} {o0 o : DO} {u : HO} (h : O a = some o0) (q : OR K G o u) : Go K G O H G (up O a o) (upd H a u) := by
  obtain ⟨hg, u0, hu, _⟩ := r.o a o0 h
  refine ⟨⟨fun x w e => ?_, fun x w e => ?_⟩, Ex.refl G, fun x w e1 e2 => ?_, fun x w e => ?_, fun x w e => .inr (.inl ⟨w, e⟩)⟩
  · rw [upd_ne (ne_of_none e hg)]; exact r.g x w e
  · by_cases hx : x = a
    · subst hx; rw [up_same] at e; cases e; exact ⟨hg, u, upd_same, q⟩
    · rw [up_ne hx] at e; obtain ⟨h1, v, h2, h3⟩ := r.o x w e; exact ⟨h1, v, by rw [upd_ne hx]; exact h2, h3⟩
  · rw [upd_ne]
    · exact e2
    · intro z; subst z; rw [h] at e1; cases e1
  · by_cases hx : x = a
    · subst hx; exact .inl ⟨o0, h⟩
    · rw [up_ne hx] at e; exact .inl ⟨w, e⟩
/-- a new settled thing (a tuple, a list) -/
theorem Go.data (r : Rel K G O H) {a : Addr} {u : HO} (h : H a = none) : Go K G O H (upd G a u) O (upd H a u) := by
  obtain ⟨ho, hg⟩ := r.fresh h
  have e1 : Ex G (upd G a u) := Ex.new hg
  refine ⟨⟨fun x w e => ?_, fun x w e => ?_⟩, e1, fun x w _ e2 => ?_, fun x w e => .inl ⟨w, e⟩, fun x w e => ?_⟩
  · by_cases hx : x = a
    · subst hx; rw [upd_same] at e ⊢; exact e
    · rw [upd_ne hx] at e ⊢; exact r.g x w e
  · have hx : x ≠ a := fun z => by subst z; rw [ho] at e; cases e
    obtain ⟨h1, v, h2, h3⟩ := r.o x w e
    exact ⟨by rw [upd_ne hx]; exact h1, v, by rw [upd_ne hx]; exact h2, h3.mono e1⟩
  · rw [upd_ne (ne_of_none e2 h)]; exact e2
  · by_cases hx : x = a
    · subst hx; exact .inr (.inr (.inl h))
    · rw [upd_ne hx] at e; exact .inr (.inl ⟨w, e⟩)
/-- the frame: one more owned thing that is not touched -/
theorem Go.frame {O' : Om} {H' : Hp} (g : Go K G O H G1 O' H') {a : Addr} {o : DO} {u : HO} (ho : O a = none) (hg : G a = none) (hu : H a = some u) (q : OR K G o u) : O' a = none ∧ H' a = some u ∧ Go K G (up O a o) H G1 (up O' a o) H' := by
  have nO : O' a = none := by
    cases e : O' a with
    | none => rfl
    | some w =>
      rcases g.nwO a w e with ⟨z, hz⟩ | hn
      · rw [ho] at hz; cases hz
      · rw [hu] at hn; cases hn
  have nG : G1 a = none := by
    cases e : G1 a with
    | none => rfl
    | some w =>
      rcases g.nwG a w e with ⟨z, hz⟩ | ⟨z, hz⟩ | hn | ⟨ts, hn⟩
      · rw [ho] at hz; cases hz
      · rw [hg] at hz; cases hz
      · rw [hu] at hn; cases hn
      · rw [hu] at hn; cases hn; exact q.noTup.elim
  have hu' := g.fr a u ho hu
  refine ⟨nO, hu', ⟨g.rel.g, fun b w e => ?_⟩, g.ex, fun b w h1 h2 => ?_, fun b w e => ?_, fun b w e => ?_⟩
  · by_cases hb : b = a
    · subst hb; rw [up_same] at e; cases e; exact ⟨nG, u, hu', q.mono g.ex⟩
    · rw [up_ne hb] at e; exact g.rel.o b w e
  · by_cases hb : b = a
    · subst hb; rw [up_same] at h1; cases h1
    · rw [up_ne hb] at h1; exact g.fr b w h1 h2
  · by_cases hb : b = a
    · subst hb; exact .inl ⟨o, up_same⟩
    · rw [up_ne hb] at e
      rcases g.nwO b w e with ⟨z, hz⟩ | hn
      · exact .inl ⟨z, by rw [up_ne hb]; exact hz⟩
      · exact .inr hn
  · rcases g.nwG b w e with ⟨z, hz⟩ | z | hn
    · exact .inl ⟨z, by rw [up_ne (fun q => by subst q; rw [ho] at hz; cases hz)]; exact hz⟩
    · exact .inr (.inl z)
    · exact .inr (.inr hn)
/-- less is known -/
theorem Rel.less (r : Rel K G O H) (h : ∀ a o, O1 a = some o → O a = some o) : Rel K G O1 H := ⟨r.g, fun a o e => r.o a o (h a o e)⟩
theorem Go.less (g : Go K G O H G1 O1 H1) (h : ∀ a o, O2 a = some o → O1 a = some o) : Go K G O H G1 O2 H1 := ⟨g.rel.less h, g.ex, g.fr, fun a o e => g.nwO a o (h a o e), g.nwG⟩
end
def seqOf (O : Om) : D → Option (List D)
  | .tup xs => some xs
  | .lst xs => some xs
  | .ref a => match O a with | some (.lst xs) => some xs | _ => none
  | _ => none
/-- a list -/
def lstOf (O : Om) : D → Option (List D)
  | .lst xs => some xs
  | .ref a => match O a with | some (.lst xs) => some xs | _ => none
  | _ => none
section
variable {K : PySem.W.Frag} {G : Hp} {O : Om} {H : Hp}
theorem Rel.lst (r : Rel K G O H) {a : Addr} {xs : List D} (h : O a = some (.lst xs)) : ∃ vs, H a = some (.lst vs) ∧ VRs K G vs xs := by
  obtain ⟨_, u, hu, q⟩ := r.o a _ h
  cases u <;> first | exact q.elim | exact ⟨_, hu, q⟩
theorem Rel.lstOf (r : Rel K G O H) {v : V} {x : D} {xs : List D} (hv : VR K G v x) (h : DL.lstOf O x = some xs) : ∃ a vs, v = .ref a ∧ SqL K H a vs ∧ VRs K G vs xs := by
  cases hv with
  | lst h1 h2 =>
    cases h
    exact ⟨_, _, rfl, Evl.ex_l r.g h1, h2⟩
  | ref a =>
    unfold DL.lstOf at h
    cases e : O a with
    | none => simp only [e] at h; cases h
    | some o =>
      cases o <;> simp only [e] at h <;> cases h
      obtain ⟨vs, h1, h2⟩ := r.lst e
      exact ⟨a, vs, rfl, SqL.of h1, h2⟩
  | _ => cases h
theorem Rel.seqOf (r : Rel K G O H) {v : V} {x : D} {xs : List D} (hv : VR K G v x) (h : DL.seqOf O x = some xs) : ∃ a vs, v = .ref a ∧ (SqL K H a vs ∨ SqT K H a vs) ∧ VRs K G vs xs := by
  cases hv with
  | lst h1 h2 =>
    cases h
    exact ⟨_, _, rfl, .inl (Evl.ex_l r.g h1), h2⟩
  | tup h1 h2 =>
    cases h
    exact ⟨_, _, rfl, .inr (Evl.ex_t r.g h1), h2⟩
  | ref a =>
    unfold DL.seqOf at h
    cases e : O a with
    | none => simp only [e] at h; cases h
    | some o =>
      cases o <;> simp only [e] at h <;> cases h
      obtain ⟨vs, h1, h2⟩ := r.lst e
      exact ⟨a, vs, rfl, .inl (SqL.of h1), h2⟩
  | _ => cases h
end
abbrev Gm := List (Option D)
abbrev DE := Gm → Om → (D → Om → Prop) → Prop
abbrev DT := Gm → Om → (Bool → Om → Prop) → Prop
abbrev DA := Gm → Om → (List D → Om → Prop) → Prop
structure DEnds where
  nx : Gm → Om → Prop
  rt : D → Om → Prop
  bk : Gm → Om → Prop := fun _ _ => False
  ct : Gm → Om → Prop := fun _ _ => False
  xc : Value → Option Addr → Gm → Om → Prop := fun _ _ _ _ => False
abbrev DS := DEnds → Gm → Om → Prop
structure GR (K : PySem.W.Frag) (G : Hp) (s : St) (g : Gm) : Prop where
  len : s.length = g.length
  get : ∀ (i : Nat) (d : D), g[i]? = some (some d) → ∃ v, s[i]? = some (some v) ∧ VR K G v d
theorem GR.mono {K : PySem.W.Frag} {G G' : Hp} {s : St} {g : Gm} (e : Ex G G') (h : GR K G s g) : GR K G' s g := ⟨h.len, fun i d q => by
  obtain ⟨v, h1, h2⟩ := h.get i d q
  exact ⟨v, h1, h2.mono e⟩⟩
theorem GR.set {K : PySem.W.Frag} {G : Hp} {s : St} {g : Gm} {v : V} {d : D} (h : GR K G s g) (i : Nat) (hv : VR K G v d) : GR K G (s.set i (some v)) (g.set i (some d)) := by
  refine ⟨by rw [List.length_set, List.length_set]; exact h.len, fun j e q => ?_⟩
  by_cases hj : i = j
  · subst hj
    by_cases hl : i < g.length
    · rw [List.getElem?_set_self hl] at q
      cases q
      exact ⟨v, List.getElem?_set_self (by rw [h.len]; exact hl), hv⟩
    · rw [List.getElem?_eq_none (by simpa using hl)] at q; cases q
  · rw [List.getElem?_set_ne hj] at q ⊢
    exact h.get j e q
theorem GR.forget {K : PySem.W.Frag} {G : Hp} {s : St} {g : Gm} (h : GR K G s g) (i : Nat) (w : Option V) : GR K G (s.set i w) (g.set i none) := by
  refine ⟨by rw [List.length_set, List.length_set]; exact h.len, fun j e q => ?_⟩
  by_cases hj : i = j
  · subst hj
    by_cases hl : i < g.length
    · rw [List.getElem?_set_self hl] at q; cases q
    · rw [List.getElem?_eq_none (by simpa using hl)] at q; cases q
  · rw [List.getElem?_set_ne hj] at q ⊢
    exact h.get j e q
def lowE (K : PySem.W.Frag) (t : DE) : TE := fun s H Q => ∃ (G : Hp) (O : Om) (g : Gm) (R : D → Om → Prop), Rel K G O H ∧ GR K G s g ∧ t g O R ∧ ∀ x O' v G' H', Go K G O H G' O' H' → VR K G' v x → R x O' → Q v H'
def lowT (K : PySem.W.Frag) (t : DT) : TT := fun s H Q => ∃ (G : Hp) (O : Om) (g : Gm) (R : Bool → Om → Prop), Rel K G O H ∧ GR K G s g ∧ t g O R ∧ ∀ b O' G' H', Go K G O H G' O' H' → R b O' → Q b H'
def lowA (K : PySem.W.Frag) (n : Nat) (t : DA) : TA := fun s H Q => ∃ (G : Hp) (O : Om) (g : Gm) (R : List D → Om → Prop), Rel K G O H ∧ GR K G s g ∧ t g O R ∧ ∀ xs O' vs G' H', Go K G O H G' O' H' → VRs K G' vs xs → xs.length = n → R xs O' → Q vs H'
structure EndsR (K : PySem.W.Frag) (W : WX) (G : Hp) (O : Om) (H : Hp) (F : DEnds) (E : Ends) : Prop where
  nx : ∀ s' g' O' G' H', Go K G O H G' O' H' → GR K G' s' g' → F.nx g' O' → E.nx s' H'
  bk : ∀ s' g' O' G' H', Go K G O H G' O' H' → GR K G' s' g' → F.bk g' O' → E.bk s' H'
  ct : ∀ s' g' O' G' H', Go K G O H G' O' H' → GR K G' s' g' → F.ct g' O' → E.ct s' H'
  rt : ∀ x O' v G' H', Go K G O H G' O' H' → VR K G' v x → F.rt x O' → E.rt v H'
  xc : ∀ c d s' g' O' G' H', Go K G O H G' O' H' → GR K G' s' g' → F.xc c d g' O' → W c d s' H'
theorem EndsR.from {K : PySem.W.Frag} {W : WX} {G G1 : Hp} {O O1 : Om} {H H1 : Hp} {F : DEnds} {E : Ends} (r : Rel K G O H) (h : EndsR K W G O H F E) (g : Go K G O H G1 O1 H1) : EndsR K W G1 O1 H1 F E :=
  ⟨fun s' g' O' G' H' z => h.nx s' g' O' G' H' (g.trans r z), fun s' g' O' G' H' z => h.bk s' g' O' G' H' (g.trans r z), fun s' g' O' G' H' z => h.ct s' g' O' G' H' (g.trans r z),
   fun x O' v G' H' z => h.rt x O' v G' H' (g.trans r z), fun c d s' g' O' G' H' z => h.xc c d s' g' O' G' H' (g.trans r z)⟩
def lowS (K : PySem.W.Frag) (W : WX) (t : DS) : TS := fun E s H => ∃ (G : Hp) (O : Om) (g : Gm) (F : DEnds), Rel K G O H ∧ GR K G s g ∧ t F g O ∧ EndsR K W G O H F E
end DL
set_option Elab.async false
set_option linter.all false
set_option maxRecDepth 100000
set_option maxHeartbeats 2000000
namespace DL
open PySem L2
open Evl (Ex)
theorem PE.by {X : Cx} {e : Expr} {t t' : TE} (h : PE X e t) (k : ∀ s H Q, t' s H Q → t s H Q) : PE X e t' := ⟨fun pins s σ H Q I q => h.run pins s σ H Q I (k σ H Q q)⟩
theorem PT.by {X : Cx} {e : Expr} {t t' : TT} (h : PT X e t) (k : ∀ s H Q, t' s H Q → t s H Q) : PT X e t' := ⟨fun pins s σ H Q I q => h.run pins s σ H Q I (k σ H Q q)⟩
theorem PW.by {X : Cx} {e : Expr} {t t' : TT} (h : PW X e t) (k : ∀ s H Q, t' s H Q → t s H Q) : PW X e t' := ⟨fun w pins s σ H Q I q => h.run w pins s σ H Q I (k σ H Q q)⟩
theorem PA.by {X : Cx} {e : List Expr} {t t' : TA} (h : PA X e t) (k : ∀ s H Q, t' s H Q → t s H Q) : PA X e t' := ⟨fun p pins s σ H Q I q => h.run p pins s σ H Q I (k σ H Q q)⟩
theorem OpR.or {X : Cx} {f : Value → Value → Sem Value} {r r' : R2} (h : OpR X f r) (h' : OpR X f r') : OpR X f (fun x y H Q => r x y H Q ∨ r' x y H Q) := by
  intro pins s σ H x y v u Q I rx ry q
  rcases q with q | q
  · exact h pins s σ H x y v u Q I rx ry q
  · exact h' pins s σ H x y v u Q I rx ry q
theorem CallR.or {X : Cx} {f : Value} {r r' : List V → Hp → VK → Prop} (h : CallR X f r) (h' : CallR X f r') : CallR X f (fun x H Q => r x H Q ∨ r' x H Q) := by
  intro pins s σ H x v Q I rx q
  rcases q with q | q
  · exact h pins s σ H x v Q I rx q
  · exact h' pins s σ H x v Q I rx q
abbrev D2 := D → D → Om → (D → Om → Prop) → Prop
abbrev D1 := D → Om → (D → Om → Prop) → Prop
abbrev DC := List D → Om → (D → Om → Prop) → Prop
def Bk (K : PySem.W.Frag) (G : Hp) (O : Om) (H : Hp) (R : D → Om → Prop) (Q : VK) : Prop := ∀ x O' v G' H', Go K G O H G' O' H' → VR K G' v x → R x O' → Q v H'
def OpS (K : PySem.W.Frag) (r : R2) (d : D2) : Prop := ∀ {G O H x y v u R Q}, Rel K G O H → VR K G v x → VR K G u y → d x y O R → Bk K G O H R Q → r v u H Q
def CaS (K : PySem.W.Frag) (r : List V → Hp → VK → Prop) (d : DC) : Prop := ∀ {G O H xs vs R Q}, Rel K G O H → VRs K G vs xs → d xs O R → Bk K G O H R Q → r vs H Q
theorem Bk.here {K : PySem.W.Frag} {G : Hp} {O : Om} {H : Hp} {R : D → Om → Prop} {Q : VK} {x : D} {v : V} (k : Bk K G O H R Q) (r : Rel K G O H) (hv : VR K G v x) (h : R x O) : Q v H := k x O v G H (Go.refl r) hv h
theorem Bk.lst {K : PySem.W.Frag} {G : Hp} {O : Om} {H : Hp} {R : D → Om → Prop} {Q : VK} {xs : List D} {vs : List V} (k : Bk K G O H R Q) (r : Rel K G O H) (hv : VRs K G vs xs) (h : ∀ p, O p = none → R (.ref p) (up O p (.lst xs))) : ∀ p, H p = none → Q (.ref p) (upd H p (.lst vs)) := fun p hp =>
  k _ _ _ _ _ (Go.new r (o := .lst xs) (u := .lst vs) hp hv) (.ref p) (h p (r.fresh hp).1)
theorem Bk.tup {K : PySem.W.Frag} {G : Hp} {O : Om} {H : Hp} {R : D → Om → Prop} {Q : VK} {xs : List D} {vs : List V} (k : Bk K G O H R Q) (r : Rel K G O H) (hv : VRs K G vs xs) (h : R (.tup xs) O) : ∀ p, H p = none → Q (.ref p) (upd H p (.tup vs)) := fun p hp => by
  have g := Go.data r (u := .tup vs) hp
  exact k _ _ _ _ _ g (.tup (SqT.of upd_same) (hv.mono g.ex)) h
section
variable {X : Cx} {a b c : Expr} {ta tb tc : DE} {pos : Pos}
def dVar (i : Nat) : DE := fun g O R => match g[i]? with | some (some d) => R d O | _ => False
def dC (d : D) : DE := fun _ O R => R d O
theorem e_v (i : Nat) {x : Str} {pos : Pos} (hN : X.N[i]? = some x := by rfl) (hv : Vis X.env.scope x := by first | exact Or.inl rfl | exact Or.inr (Or.inl rfl) | exact Or.inr (Or.inr rfl)) (hd : (x == ("__debug__" : Str)) = false := by decide)
    (hcd : (x == ("__classdict__" : Str)) = false := by decide) : PE X (.Name x pos) (lowE X.K (dVar i)) :=
  PE.by (pe_var hN hv hd hcd) fun s H Q ⟨G, O, g, R, r, gr, h, k⟩ => by
    unfold dVar at h
    split at h
    · rename_i d e
      obtain ⟨v, h1, h2⟩ := gr.get i d e
      exact ⟨v, h1, k _ _ _ _ _ (Go.refl r) h2 h⟩
    · exact h.elim
theorem low_c {K : PySem.W.Frag} {v : V} {d : D} (hv : ∀ G, VR K G v d) : ∀ s H Q, lowE K (dC d) s H Q → tC v s H Q := fun s H Q ⟨G, O, g, R, r, gr, h, k⟩ => k _ _ _ _ _ (Go.refl r) (hv G) h
theorem e_int {i j pos} : PE X (.Constant (.int i) j pos) (lowE X.K (dC (.int i))) := PE.by pe_int (low_c fun _ => .int i)
theorem e_bl {i j pos} : PE X (.Constant (.bool i) j pos) (lowE X.K (dC (.bl i))) := PE.by pe_bl (low_c fun _ => .bl i)
theorem e_non {j pos} : PE X (.Constant .none j pos) (lowE X.K (dC .non)) := PE.by pe_non (low_c fun _ => .non)
theorem e_str {i j pos} : PE X (.Constant (.str i) j pos) (lowE X.K (dC (.str i))) := PE.by pe_str (low_c fun _ => .str i)
def dOp (d : D2) (ta tb : DE) : DE := fun g O R => ta g O fun x O1 => tb g O1 fun y O2 => d x y O2 R
def dUn (d : D1) (ta : DE) : DE := fun g O R => ta g O fun x O1 => d x O1 R
theorem low_op {K : PySem.W.Frag} {r : R2} {d : D2} {ta tb : DE} (hr : OpS K r d) : ∀ s H Q, lowE K (dOp d ta tb) s H Q → tOp r (lowE K ta) (lowE K tb) s H Q := fun s H Q ⟨G, O, g, R, rl, gr, h, k⟩ =>
  ⟨G, O, g, _, rl, gr, h, fun x O1 v G1 H1 go1 vr1 q1 => ⟨G1, O1, g, _, go1.rel, gr.mono go1.ex, q1, fun y O2 u G2 H2 go2 vr2 q2 =>
    hr go2.rel (vr1.mono go2.ex) vr2 q2 fun z O3 w G3 H3 go3 vr3 q3 => k z O3 w G3 H3 ((go1.trans rl go2).trans rl go3) vr3 q3⟩⟩
theorem e_op {op : Operator} {r : R2} {d : D2} (ho : OpR X (binaryOp op) r) (hr : OpS X.K r d) (ha : PE X a (lowE X.K ta)) (hb : PE X b (lowE X.K tb)) : PE X (.BinOp a op b pos) (lowE X.K (dOp d ta tb)) := PE.by (pe_op ho ha hb) (low_op hr)
theorem e_cmp {op : CmpOp} {r : R2} {d : D2} (ho : OpR X (compareOp op) r) (hr : OpS X.K r d) (ha : PE X a (lowE X.K ta)) (hb : PE X b (lowE X.K tb)) (hm : behindInMarks op b = false) : PE X (.Compare a [op] [b] pos) (lowE X.K (dOp d ta tb)) := PE.by (pe_cmpR ho ha hb hm) (low_op hr)
theorem e_ix {r : R2} {d : D2} (ho : IxR X r) (hr : OpS X.K r d) (ha : PE X a (lowE X.K ta)) (hb : PE X b (lowE X.K tb)) (hs : PlainIx b := by exact fun _ _ => rfl) : PE X (.Subscript a b pos) (lowE X.K (dOp d ta tb)) := PE.by (pe_ix ho ha hb hs) (low_op hr)
def dTest (t : DE) : DT := fun g O R => t g O fun x O1 => match x with | .bl b => R b O1 | _ => False
theorem low_test {K : PySem.W.Frag} {t : DE} : ∀ s H Q, lowT K (dTest t) s H Q → tTest (lowE K t) s H Q := fun s H Q ⟨G, O, g, R, rl, gr, h, k⟩ =>
  ⟨G, O, g, _, rl, gr, h, fun x O1 v G1 H1 go1 vr1 q1 => by
    cases vr1 <;> first | exact q1.elim | exact ⟨_, rfl, k _ _ _ _ go1 q1⟩⟩
theorem t_cmp {op : CmpOp} {r : R2} {d : D2} (ho : OpR X (compareOp op) r) (hr : OpS X.K r d) (ha : PE X a (lowE X.K ta)) (hb : PE X b (lowE X.K tb)) (hm : behindInMarks op b = false) : PT X (.Compare a [op] [b] pos) (lowT X.K (dTest (dOp d ta tb))) :=
  PT.by (pt_cmpR ho ha hb hm) fun s H Q h => by
    obtain ⟨G, O, g, R, rl, gr, h, k⟩ := low_test s H Q h
    exact low_op hr s H _ ⟨G, O, g, R, rl, gr, h, k⟩
theorem t_val (ha : PE X a (lowE X.K ta)) (he : ∀ whole, isTrue a X.env whole = (do let v ← whole; standAt a.pos; holding [v] (truthy v)) := by intro _; rfl) : PT X a (lowT X.K (dTest ta)) :=
  PT.by (pt_val ha he) fun s H Q h => low_test s H Q h
def dAndT (t u : DT) : DT := fun g O R => t g O fun c O1 => if c = true then u g O1 R else R false O1
def dOrT (t u : DT) : DT := fun g O R => t g O fun c O1 => if c = true then R true O1 else u g O1 R
def dNotT (t : DT) : DT := fun g O R => t g O fun c O1 => R (!c) O1
variable {e e' : Expr} {rest : List Expr} {tt tu : DT}
theorem w_and1 (ha : PT X a (lowT X.K tt)) : PW X (.BoolOp .And [a] pos) (lowT X.K tt) := pw_and1 ha
theorem w_or1 (ha : PT X a (lowT X.K tt)) : PW X (.BoolOp .Or [a] pos) (lowT X.K tt) := pw_or1 ha
theorem w_and (ha : PT X a (lowT X.K tt)) (hb : PW X (.BoolOp .And (b :: rest) pos) (lowT X.K tu)) : PW X (.BoolOp .And (a :: b :: rest) pos) (lowT X.K (dAndT tt tu)) := PW.by (pw_and ha hb) fun s H Q ⟨G, O, g, R, rl, gr, h, k⟩ =>
  ⟨G, O, g, _, rl, gr, h, fun x O1 G1 H1 go1 q1 => by
    cases x with
    | true => exact ⟨G1, O1, g, R, go1.rel, gr.mono go1.ex, q1, fun x O2 G2 H2 go2 q2 => k _ _ _ _ (go1.trans rl go2) q2⟩
    | false => exact k _ _ _ _ go1 q1⟩
theorem w_or (ha : PT X a (lowT X.K tt)) (hb : PW X (.BoolOp .Or (b :: rest) pos) (lowT X.K tu)) : PW X (.BoolOp .Or (a :: b :: rest) pos) (lowT X.K (dOrT tt tu)) := PW.by (pw_or ha hb) fun s H Q ⟨G, O, g, R, rl, gr, h, k⟩ =>
  ⟨G, O, g, _, rl, gr, h, fun x O1 G1 H1 go1 q1 => by
    cases x with
    | false => exact ⟨G1, O1, g, R, go1.rel, gr.mono go1.ex, q1, fun x O2 G2 H2 go2 q2 => k _ _ _ _ (go1.trans rl go2) q2⟩
    | true => exact k _ _ _ _ go1 q1⟩
theorem t_not (ha : PT X a (lowT X.K tt)) : PT X (.UnaryOp .Not a pos) (lowT X.K (dNotT tt)) := PT.by (pt_not ha) fun s H Q ⟨G, O, g, R, rl, gr, h, k⟩ =>
  ⟨G, O, g, _, rl, gr, h, fun x O1 G1 H1 go1 q1 => k _ _ _ _ go1 q1⟩
def dTru (O : Om) (x : D) (R : Bool → Prop) : Prop := match x with
  | .non => R false
  | .bl b => R b
  | .int i => R (i != 0)
  | .str y => y.length ≤ sizeLine ∧ R ((y.length : Int) != 0)
  | .tup xs => R (!xs.isEmpty)
  | .lst xs => R (!xs.isEmpty)
  | .ref a => match O a with | some (.lst xs) => R (!xs.isEmpty) | some (.dK kvs) => R (!kvs.isEmpty) | _ => False
  | _ => False
def dTruth (t : DE) : DT := fun g O R => t g O fun x O1 => dTru O1 x fun b => R b O1
def dAndV (ta tb : DE) : DE := fun g O R => ta g O fun x O1 => match x with | .bl true => tb g O1 R | .bl false => R (.bl false) O1 | _ => False
def dOrV (ta tb : DE) : DE := fun g O R => ta g O fun x O1 => match x with | .bl false => tb g O1 R | .bl true => R (.bl true) O1 | _ => False
def dNotV (ta : DE) : DE := fun g O R => ta g O fun x O1 => match x with | .bl b => R (.bl (!b)) O1 | _ => False
theorem e_one {op} (ha : PE X a (lowE X.K ta)) : PE X (.BoolOp op [a] pos) (lowE X.K ta) := pe_one ha
theorem e_and (ha : PE X a (lowE X.K ta)) (hb : PE X (.BoolOp .And (b :: rest) pos) (lowE X.K tb)) : PE X (.BoolOp .And (a :: b :: rest) pos) (lowE X.K (dAndV ta tb)) := PE.by (pe_and ha hb) fun s H Q ⟨G, O, g, R, rl, gr, h, k⟩ =>
  ⟨G, O, g, _, rl, gr, h, fun x O1 v G1 H1 go1 vr1 q1 => by
    cases vr1 with
    | bl b =>
      cases b with
      | true => exact ⟨true, rfl, by rw [if_pos rfl]; exact ⟨G1, O1, g, R, go1.rel, gr.mono go1.ex, q1, fun x O2 v G2 H2 go2 vr q2 => k _ _ _ _ _ (go1.trans rl go2) vr q2⟩⟩
      | false => exact ⟨false, rfl, by rw [if_neg Bool.false_ne_true]; exact k _ _ _ _ _ go1 (.bl false) q1⟩
    | _ => exact False.elim q1⟩
theorem e_not (ha : PE X a (lowE X.K ta)) : PE X (.UnaryOp .Not a pos) (lowE X.K (dNotV ta)) := PE.by (pe_not ha) fun s H Q ⟨G, O, g, R, rl, gr, h, k⟩ =>
  ⟨G, O, g, _, rl, gr, h, fun x O1 v G1 H1 go1 vr1 q1 => by
    cases vr1 with
    | bl b => exact ⟨b, rfl, k _ _ _ _ _ go1 (.bl _) q1⟩
    | _ => exact False.elim q1⟩
def dIf (t : DT) (ta tb : DE) : DE := fun g O R => t g O fun c O1 => if c = true then ta g O1 R else tb g O1 R
def dNil : DA := fun _ O R => R [] O
def dCons (t : DE) (u : DA) : DA := fun g O R => t g O fun x O1 => u g O1 fun xs O2 => R (x :: xs) O2
def dTup (t : DA) : DE := fun g O R => t g O fun xs O1 => R (.tup xs) O1
def dLst (t : DA) : DE := fun g O R => t g O fun xs O1 => ∀ p, O1 p = none → R (.ref p) (up O1 p (.lst xs))
variable {es : List Expr} {tA : DA} {n : Nat}
theorem a_nil : PA X [] (lowA X.K 0 dNil) := PA.by pa_nil fun s H Q ⟨G, O, g, R, rl, gr, h, k⟩ => k [] O [] G H (Go.refl rl) .nil rfl h
theorem a_cons (ha : PE X e (lowE X.K ta)) (hr : PA X es (lowA X.K n tA)) (hs : starEach (e :: es) X.env = (false, eval e X.env) :: starEach es X.env := by rfl) : PA X (e :: es) (lowA X.K (n + 1) (dCons ta tA)) :=
  PA.by (pa_cons ha hr hs) fun s H Q ⟨G, O, g, R, rl, gr, h, k⟩ => ⟨G, O, g, _, rl, gr, h, fun x O1 v G1 H1 go1 vr1 q1 => ⟨G1, O1, g, _, go1.rel, gr.mono go1.ex, q1, fun xs O2 vs G2 H2 go2 vr2 hl q2 =>
    k _ _ _ _ _ (go1.trans rl go2) (.cons (vr1.mono go2.ex) vr2) (by rw [List.length_cons, hl]) q2⟩⟩
theorem e_tup {x1} (h : PA X es (lowA X.K n tA)) (hn : n ≤ 1000 := by decide) : PE X (.Tuple es x1 pos) (lowE X.K (dTup tA)) := PE.by (pe_tup h) fun s H Q ⟨G, O, g, R, rl, gr, h, k⟩ =>
  ⟨G, O, g, _, rl, gr, h, fun xs O1 vs G1 H1 go1 vr1 hl q1 => ⟨by rw [vr1.length, hl]; exact Nat.le_trans hn (by decide), fun p hp => by
    have b : Bk X.K G1 O1 H1 R Q := fun x O2 v G2 H2 go2 vr q2 => k _ _ _ _ _ (go1.trans rl go2) vr q2
    exact b.tup go1.rel vr1 q1 p hp⟩⟩
theorem e_lst (h : PA X es (lowA X.K n tA)) (hn : n ≤ 1000 := by decide) : PE X (.List es pos) (lowE X.K (dLst tA)) := PE.by (pe_lst h) fun s H Q ⟨G, O, g, R, rl, gr, h, k⟩ =>
  ⟨G, O, g, _, rl, gr, h, fun xs O1 vs G1 H1 go1 vr1 hl q1 => ⟨by rw [vr1.length, hl]; exact Nat.le_trans hn (by decide), fun p hp => by
    have b : Bk X.K G1 O1 H1 R Q := fun x O2 v G2 H2 go2 vr q2 => k _ _ _ _ _ (go1.trans rl go2) vr q2
    exact b.lst go1.rel vr1 q1 p hp⟩⟩
end
section
variable {K : PySem.W.Frag}
def dI (g : Int → Int → D) : D2 := fun x y O R => match x, y with | .int i, .int j => R (g i j) O | _, _ => False
def dIc (C : Int → Int → Prop) (g : Int → Int → D) : D2 := fun x y O R => match x, y with | .int i, .int j => C i j ∧ R (g i j) O | _, _ => False
theorem sI {f : Int → Int → V} {g : Int → Int → D} (h : ∀ G i j, VR K G (f i j) (g i j)) : OpS K (rI0 f) (dI g) := fun {G O H x y v u R Q} rl hx hy h' k => by
  cases hx <;> cases hy <;> first | exact h'.elim | exact ⟨_, _, rfl, rfl, k.here rl (h _ _ _) h'⟩
theorem sIc {C C' : Int → Int → Prop} {f : Int → Int → V} {g : Int → Int → D} (h : ∀ G i j, VR K G (f i j) (g i j)) (hc : ∀ i j, C i j → C' i j) : OpS K (rI C' f) (dIc C g) := fun {G O H x y v u R Q} rl hx hy h' k => by
  cases hx <;> cases hy <;> first | exact h'.elim | exact ⟨_, _, rfl, rfl, hc _ _ h'.1, k.here rl (h _ _ _) h'.2⟩
end
end DL
set_option Elab.async false
set_option linter.all false
set_option maxRecDepth 100000
set_option maxHeartbeats 2000000
namespace DL
open PySem L2
open Evl (Ex)
theorem PS.by {X : Cx} {e : Stmt} {t t' : TS} (h : PS X e t) (k : ∀ D s H, t' D s H → t D s H) : PS X e t' := ⟨fun pins s σ H D I q => h.run pins s σ H D I (k D σ H q)⟩
theorem PSs.by {X : Cx} {e : List Stmt} {t t' : TS} (h : PSs X e t) (k : ∀ D s H, t' D s H → t D s H) : PSs X e t' := ⟨fun pins s σ H D I q => h.run pins s σ H D I (k D σ H q)⟩
theorem PG.by {X : Cx} {e : Expr} {t t' : TG} (h : PG X e t) (k : ∀ v s H Q, t' v s H Q → t v s H Q) : PG X e t' := ⟨fun pins s σ H v u Q I r q => h.run pins s σ H v u Q I r (k v σ H Q q)⟩
theorem PGs.by {X : Cx} {e : List Expr} {t t' : TGs} (h : PGs X e t) (k : ∀ v s H Q, t' v s H Q → t v s H Q) : PGs X e t' := ⟨fun pins s σ H v u Q I r q => h.run pins s σ H v u Q I r (k v σ H Q q)⟩
theorem PI.by {X : Cx} {tg e : Expr} {t t' : TI} (h : PI X tg e t) (k : ∀ s H R, t' s H R → t s H R) : PI X tg e t' := ⟨fun pins s σ H R I q => h.run pins s σ H R I (k σ H R q)⟩
def dNext : DS := fun F g O => F.nx g O
def dSeq (t u : DS) : DS := fun F g O => t { F with nx := u F } g O
def dBreak : DS := fun F g O => F.bk g O
def dCont : DS := fun F g O => F.ct g O
def dDrop (t : DE) : DS := fun F g O => t g O fun _ O1 => F.nx g O1
def dRet (t : DE) : DS := fun F g O => t g O F.rt
def dRetN : DS := fun F _ O => F.rt .non O
def dIfS (c : DT) (t u : DS) : DS := fun F g O => c g O fun b O1 => if b = true then t F g O1 else u F g O1
abbrev DG := D → Gm → Om → (Gm → Om → Prop) → Prop
abbrev DGs := List D → Gm → Om → (Gm → Om → Prop) → Prop
def gN (i : Nat) : DG := fun x g O R => R (g.set i (some x)) O
def gsNil : DGs := fun xs g O R => match xs with | [] => R g O | _ => False
def gsCons (t : DG) (u : DGs) : DGs := fun xs g O R => match xs with | x :: xs => t x g O fun g1 O1 => u xs g1 O1 R | _ => False
def gT (n : Nat) (t : DGs) : DG := fun x g O R => match x with | .tup xs => xs.length = n ∧ t xs g O R | _ => False
def dAsg (t : DE) (u : DG) : DS := fun F g O => t g O fun x O1 => u x g O1 F.nx
abbrev dSet (i : Nat) (t : DE) : DS := dAsg t (gN i)
def dPar (i j : Nat) (t : DA) : DS := fun F g O => t g O fun xs O1 => match xs with | [x, y] => F.nx ((g.set i (some x)).set j (some y)) O1 | _ => False
def lowG (K : PySem.W.Frag) (t : DG) : TG := fun v s H Q => ∃ (G : Hp) (O : Om) (g : Gm) (x : D) (R : Gm → Om → Prop), Rel K G O H ∧ GR K G s g ∧ VR K G v x ∧ t x g O R ∧ ∀ s' g' O' G' H', Go K G O H G' O' H' → GR K G' s' g' → R g' O' → Q s' H'
section
variable {X : Cx} {W : WX} {st : Stmt} {rest : List Stmt} {t u : DS} {e : Expr} {te : DE} {pos : Pos}
theorem EndsR.with {K : PySem.W.Frag} {W : WX} {G : Hp} {O : Om} {H : Hp} {F : DEnds} {E : Ends} (h : EndsR K W G O H F E) {n : Gm → Om → Prop} {n' : St → Hp → Prop} (k : ∀ s' g' O' G' H', Go K G O H G' O' H' → GR K G' s' g' → n g' O' → n' s' H') : EndsR K W G O H { F with nx := n } { E with nx := n' } := ⟨k, h.bk, h.ct, h.rt, h.xc⟩
theorem s_nil : PSs X [] (lowS X.K W dNext) := PSs.by pss_nil fun E s H ⟨G, O, g, F, rl, gr, h, k⟩ => k.nx _ _ _ _ _ (Go.refl rl) gr h
theorem s_cons (h1 : PS X st (lowS X.K W t)) (h2 : PSs X rest (lowS X.K W u)) : PSs X (st :: rest) (lowS X.K W (dSeq t u)) := PSs.by (pss_cons h1 h2) fun E s H ⟨G, O, g, F, rl, gr, h, k⟩ =>
  ⟨G, O, g, _, rl, gr, h, k.with fun s' g' O' G' H' go gr' q => ⟨G', O', g', F, go.rel, gr', q, k.from rl go⟩⟩
theorem s_one (h1 : PS X st (lowS X.K W t)) : PSs X [st] (lowS X.K W t) := pss_one h1
theorem s_expr (he : PE X e (lowE X.K te)) (hs : swapsWith e none pos.line X.env = pure false := by rfl) : PS X (.Expr e pos) (lowS X.K W (dDrop te)) := PS.by (ps_expr he hs) fun E s H ⟨G, O, g, F, rl, gr, h, k⟩ =>
  ⟨G, O, g, _, rl, gr, h, fun x O1 v G1 H1 go1 vr1 q1 => k.nx _ _ _ _ _ go1 (gr.mono go1.ex) q1⟩
theorem s_ret (he : PE X e (lowE X.K te)) : PS X (.Return (some e) pos) (lowS X.K W (dRet te)) := PS.by (ps_ret he) fun E s H ⟨G, O, g, F, rl, gr, h, k⟩ =>
  ⟨G, O, g, _, rl, gr, h, fun x O1 v G1 H1 go1 vr1 q1 => k.rt _ _ _ _ _ go1 vr1 q1⟩
theorem s_if {c : Expr} {a b : List Stmt} {tc : DT} (hc : PT X c (lowT X.K tc)) (ha : PSs X a (lowS X.K W t)) (hb : PSs X b (lowS X.K W u)) : PS X (.If c a b pos) (lowS X.K W (dIfS tc t u)) := PS.by (ps_if hc ha hb) fun E s H ⟨G, O, g, F, rl, gr, h, k⟩ =>
  ⟨G, O, g, _, rl, gr, h, fun x O1 G1 H1 go1 q1 => by
    cases x with
    | true => exact ⟨G1, O1, g, F, go1.rel, gr.mono go1.ex, q1, k.from rl go1⟩
    | false => exact ⟨G1, O1, g, F, go1.rel, gr.mono go1.ex, q1, k.from rl go1⟩⟩
theorem g_name {i : Nat} {x : Str} (hN : X.N.Nodup) (hi : X.N[i]? = some x) (hx : Loc X.env.scope x) (hf : X.fn x = true ∨ X.env.scope.names.lookup x = some .local := by first | exact .inl rfl | exact .inr rfl | assumption) : PG X (.Name x pos) (lowG X.K (gN i)) :=
  PG.by (pg_name hN hi hx hf) fun v s H Q ⟨G, O, g, x, R, rl, gr, vr, h, k⟩ => k _ _ _ _ _ (Go.refl rl) (gr.set i vr) h
theorem s_asg {tg : Expr} {u : DG} (he : PE X e (lowE X.K te)) (hg : PG X tg (lowG X.K u)) (hs : swapsWithSole [tg] e pos.line X.env = pure false := by rfl) (hw : swappedStores [tg] e X.env = pure none := by rfl)
    (h1 : (assignEach [tg] X.env).map (·.2) = [assign tg X.env] := by rfl) : PS X (.Assign [tg] e pos) (lowS X.K W (dAsg te u)) := PS.by (ps_asg he hg hs hw h1) fun E s H ⟨G, O, g, F, rl, gr, h, k⟩ =>
  ⟨G, O, g, _, rl, gr, h, fun x O1 v G1 H1 go1 vr1 q1 => ⟨G1, O1, g, x, _, go1.rel, gr.mono go1.ex, vr1, q1, fun s2 g2 O2 G2 H2 go2 gr2 q2 => k.nx _ _ _ _ _ (go1.trans rl go2) gr2 q2⟩⟩
theorem s_set {i : Nat} {x : Str} {pos' : Pos} (hN : X.N.Nodup) (hi : X.N[i]? = some x) (hx : Loc X.env.scope x) (he : PE X e (lowE X.K te)) (hs : swapsWith e (some (.Name x pos')) pos.line X.env = pure false := by rfl) (hf : X.fn x = true ∨ X.env.scope.names.lookup x = some .local := by first | exact .inl rfl | exact .inr rfl | assumption) :
    PS X (.Assign [.Name x pos'] e pos) (lowS X.K W (dSet i te)) := PS.by (ps_set hN hi hx he hs hf) fun E s H ⟨G, O, g, F, rl, gr, h, k⟩ =>
  ⟨G, O, g, _, rl, gr, h, fun x O1 v G1 H1 go1 vr1 q1 => k.nx _ _ _ _ _ go1 ((gr.mono go1.ex).set i vr1) q1⟩
theorem s_par {i j : Nat} {x y : Str} {a b : Expr} {tA : DA} {px py pt : Pos} {kt k2 pt2} {n : Nat} (hc : X.calm = true) (hN : X.N.Nodup) (hi : X.N[i]? = some x) (hj : X.N[j]? = some y) (hij : i ≠ j)
    (hx : X.env.scope.names.lookup x = some .local) (hy : X.env.scope.names.lookup y = some .local) (ha : PA X [a, b] (lowA X.K n tA))
    (hw : swappedStores [.Tuple [.Name x px, .Name y py] kt pt] (.Tuple [a, b] k2 pt2) X.env = pure (some [x, y]))
    (hs : swapsWithSole [.Tuple [.Name x px, .Name y py] kt pt] (.Tuple [a, b] k2 pt2) pos.line X.env = pure false := by rfl) :
    PS X (.Assign [.Tuple [.Name x px, .Name y py] kt pt] (.Tuple [a, b] k2 pt2) pos) (lowS X.K W (dPar i j tA)) := PS.by (ps_par hc hN hi hj hij hx hy ha hw hs) fun E s H ⟨G, O, g, F, rl, gr, h, k⟩ =>
  ⟨G, O, g, _, rl, gr, h, fun xs O1 vs G1 H1 go1 vr1 hl q1 => by
    match xs, vr1, q1 with
    | [x, y], vr1, q1 =>
      obtain ⟨v, u, rfl, hv, hu⟩ := vr1.two
      exact ⟨v, u, rfl, k.nx _ _ _ _ _ go1 (((gr.mono go1.ex).set i hv).set j hu) q1⟩⟩
def dAug (i : Nat) (te : DE) (d : D2) : DS := fun F g O => match g[i]? with | some (some x) => (te g O fun y O1 => d x y O1 fun z O2 => F.nx (g.set i (some z)) O2) | _ => False
abbrev D3 := D → D → D → Om → (Om → Prop) → Prop
def SeS (K : PySem.W.Frag) (r : TSet) (d : D3) : Prop := ∀ {G O H x y z v u w} {R : Om → Prop} {Q : Hp → Prop}, Rel K G O H → VR K G v x → VR K G u y → VR K G w z → d x y z O R → (∀ O' G' H', Go K G O H G' O' H' → R O' → Q H') → r v u w H Q
def gSubD (to ti : DE) (d : D3) : DG := fun x g O R => to g O fun o O1 => ti g O1 fun i O2 => d o i x O2 fun O3 => R g O3
theorem g_sub {o i : Expr} {to ti : DE} {t : TSet} {d : D3} (ho : PE X o (lowE X.K to)) (hi : PE X i (lowE X.K ti)) (hs : PSet X t) (hr : SeS X.K t d)
    (ha : ∀ v, assign (.Subscript o i pos) X.env v = (do
      let ov ← holding [v] (eval o X.env)
      let iv ← holding [v, ov] (eval i X.env)
      standAt pos
      holding [v, ov, iv] (setItem ov iv v)
      release [v, ov, iv] []) := by intro _; rfl) : PG X (.Subscript o i pos) (lowG X.K (gSubD to ti d)) := PG.by (pg_sub ho hi hs ha) fun v s H Q ⟨G, O, g, x, R, rl, gr, vr, h, k⟩ =>
  ⟨G, O, g, _, rl, gr, h, fun x1 O1 v1 G1 H1 go1 vr1 q1 => ⟨G1, O1, g, _, go1.rel, gr.mono go1.ex, q1, fun x2 O2 v2 G2 H2 go2 vr2 q2 =>
    have e12 := go1.ex.trans go2.ex
    hr go2.rel (vr1.mono go2.ex) vr2 (vr.mono e12) q2 fun O3 G3 H3 go3 q3 => k _ _ _ _ _ ((go1.trans rl go2).trans rl go3) (gr.mono (e12.trans go3.ex)) q3⟩⟩
def dSetL : D3 := fun o i v O R => match o, i with | .ref a, .int k => (match O a with | some (.lst xs) => (match ixN xs.length k with | some j => R (up O a (.lst (xs.set j v))) | none => False) | _ => False) | _, _ => False
theorem sSetL {K : PySem.W.Frag} : SeS K rSetL dSetL := fun {G O H x y z v u w R Q} rl hx hy hz h k => by
  cases hx <;> cases hy <;> first | exact h.elim | skip
  rename_i a i
  have h : (match O a with | some (.lst xs) => (match ixN xs.length i with | some j => R (up O a (.lst (xs.set j z))) | none => False) | _ => False) := h
  cases e : O a with
  | none => simp only [e] at h
  | some o =>
    cases o with
    | lst xs =>
      simp only [e] at h
      obtain ⟨vs, h1, h2⟩ := rl.lst e
      cases e2 : ixN xs.length i with
      | none => simp only [e2] at h
      | some j =>
        simp only [e2] at h
        exact ⟨a, vs, i, j, rfl, rfl, h1, by rw [h2.length]; exact e2, k _ _ _ (Go.write rl e (o := .lst (xs.set j z)) (u := .lst (vs.set j w)) (h2.set hz j)) h⟩
    | _ => simp only [e] at h
end
abbrev DI := Gm → Om → (List D → (Om → Prop) → Om → Prop) → Prop
structure ItR (K : PySem.W.Frag) (J : It) (G0 : Hp) (xs : List D) (ok : Om → Prop) : Prop where
  stop : ∀ G O H, Ex G0 G → Rel K G O H → ok O → J.stop xs.length H
  go : ∀ (i : Nat) (d : D) G O H, xs[i]? = some d → Ex G0 G → Rel K G O H → ok O → J.go i H
  yld : ∀ (i : Nat) (d : D) G O H x H', xs[i]? = some d → Ex G0 G → Rel K G O H → ok O → J.yld i H x H' → ∃ G', Go K G O H G' O H' ∧ VR K G' x d
def lowI (K : PySem.W.Frag) (t : DI) : TI := fun s H R => ∃ (G : Hp) (O : Om) (g : Gm) (R' : List D → (Om → Prop) → Om → Prop), Rel K G O H ∧ GR K G s g ∧ t g O R' ∧ ∀ xs ok O' J G' H', Go K G O H G' O' H' → ItR K J G' xs ok → R' xs ok O' → R J H'
def dLoop (u : DG) (tb : DS) (ok : Om → Prop) (F : DEnds) : List D → Gm → Om → Prop
  | [], g, O => ok O ∧ F.nx g O
  | x :: xs, g, O => ok O ∧ u x g O fun g1 O1 => tb { F with nx := dLoop u tb ok F xs, ct := dLoop u tb ok F xs, bk := F.nx } g1 O1
def dFor (it : DI) (u : DG) (tb : DS) : DS := fun F g O => it g O fun xs ok O1 => dLoop u tb ok F xs g O1
section
variable {X : Cx} {W : WX} {pos : Pos} {tg : Expr}
theorem drop_cons {A : Type} : ∀ {xs : List A} {i : Nat} {x : A} {r : List A}, xs.drop i = x :: r → xs[i]? = some x ∧ xs.drop (i + 1) = r
  | [], i, _, _, h => by simp at h
  | y :: ys, 0, x, r, h => by simp at h; exact ⟨by simp [h.1], by simp [h.2]⟩
  | y :: ys, i + 1, x, r, h => by simpa using drop_cons (xs := ys) (i := i) (by simpa using h)
theorem s_for {iter : Expr} {body : List Stmt} {it : DI} {u : DG} {tb : DS} (hp : PassesOwn (model X.prog X.w) X.A X.env X.xe) (hc : X.calm = true) (hi : PI X tg iter (lowI X.K it)) (hg : PG X tg (lowG X.K u)) (hb : PSs X body (lowS X.K W tb))
    (hs : ∀ x, foldedSetIterable iter X.env x = pure x := by intro _; rfl) : PS X (.For tg iter body [] pos) (lowS X.K W (dFor it u tb)) := PS.by (ps_for hp hc hi hg hb hs) fun E s H ⟨G, O, g, F, rl, gr, h, k⟩ => by
  refine ⟨G, O, g, _, rl, gr, h, fun xs ok O1 J G1 H1 go1 ir q1 => ?_⟩
  refine ⟨fun i m s' H' => ∃ G' O' g', Go X.K G1 O1 H1 G' O' H' ∧ GR X.K G' s' g' ∧ dLoop u tb ok F (xs.drop i) g' O' ∧ m = xs.length - i ∧ i ≤ xs.length, ⟨_, G1, O1, g, Go.refl go1.rel, gr.mono go1.ex, q1, rfl, Nat.zero_le _⟩, ?_⟩
  rintro i m s2 H2 ⟨G2, O2, g2, go2, gr2, q2, hm, hi⟩
  have g12 := go1.trans rl go2
  cases e : xs.drop i with
  | nil =>
    rw [e] at q2
    have hl : xs.length = i := by
      have := congrArg List.length e
      rw [List.length_drop, List.length_nil] at this
      omega
    refine .inl ⟨?_, k.nx _ _ _ _ _ g12 gr2 q2.2⟩
    rw [← hl]
    exact ir.stop G2 O2 H2 go2.ex go2.rel q2.1
  | cons x r =>
    rw [e] at q2
    obtain ⟨hx, hr⟩ := drop_cons e
    have hlt : i < xs.length := (List.getElem?_eq_some_iff.mp hx).1
    refine .inr ⟨ir.go i x G2 O2 H2 hx go2.ex go2.rel q2.1, fun s' H' => ∃ G' O' g', Go X.K G1 O1 H1 G' O' H' ∧ GR X.K G' s' g' ∧ dLoop u tb ok F r g' O', ?_, fun v H3 hy => ?_⟩
    · rintro s3 H3 ⟨G3, O3, g3, go3, gr3, q3⟩
      exact ⟨xs.length - (i + 1), by omega, G3, O3, g3, go3, gr3, by rw [hr]; exact q3, rfl, hlt⟩
    · obtain ⟨G3, go3, vr3⟩ := ir.yld i x G2 O2 H2 v H3 hx go2.ex go2.rel q2.1 hy
      refine ⟨G3, O2, g2, x, _, go3.rel, gr2.mono go3.ex, vr3, q2.2, fun s4 g4 O4 G4 H4 go4 gr4 q4 => ⟨G4, O4, g4, _, go4.rel, gr4, q4, ?_⟩⟩
      have g14 := (go2.trans go1.rel go3).trans go1.rel go4
      have k4 := k.from rl (go1.trans rl g14)
      exact ⟨fun s' g' O' G' H' go gr q => ⟨G', O', g', g14.trans go1.rel go, gr, q⟩, k4.nx, fun s' g' O' G' H' go gr q => ⟨G', O', g', g14.trans go1.rel go, gr, q⟩, k4.rt, k4.xc⟩
/-- a loop by its invariant over what was taken -/
theorem loop_by {u : DG} {tb : DS} {ok : Om → Prop} {F : DEnds} (I : List D → Gm → Om → Prop) {xs : List D} {g : Gm} {O : Om} (h0 : I [] g O) (hok : ∀ pre g O, I pre g O → ok O)
    (hs : ∀ pre x post g O (N : Gm → Om → Prop), xs = pre ++ x :: post → I pre g O → (∀ g' O', I (pre ++ [x]) g' O' → N g' O') → u x g O fun g1 O1 => tb { F with nx := N, ct := N, bk := F.nx } g1 O1)
    (hd : ∀ g O, I xs g O → F.nx g O) : dLoop u tb ok F xs g O := by
  have key : ∀ (post pre : List D) (g : Gm) (O : Om), xs = pre ++ post → I pre g O → dLoop u tb ok F post g O := by
    intro post
    induction post with
    | nil =>
      intro pre g O e h
      rw [List.append_nil] at e
      subst e
      exact ⟨hok _ _ _ h, hd g O h⟩
    | cons x post ih =>
      intro pre g O e h
      exact ⟨hok _ _ _ h, hs pre x post g O _ e h fun g1 O1 h1 => ih (pre ++ [x]) g1 O1 (by rw [e, List.append_assoc]; rfl) h1⟩
  exact key xs [] g O rfl h0
end
end DL
set_option Elab.async false
set_option linter.all false
set_option maxRecDepth 100000
set_option maxHeartbeats 2000000
namespace DL
open PySem L2
open Evl (Ex)
abbrev Tr : Om → Prop := fun _ => True
section
variable {X : Cx} {tg : Expr} {K : PySem.W.Frag} {G : Hp}
theorem ItR.tup {a : Addr} {vs : List V} {xs : List D} (h : SqT K G a vs) (r : VRs K G vs xs) : ItR K (Itt K a) G xs Tr where
  stop := fun G1 O H ex rl _ => ⟨vs, Evl.ex_t rl.g (Evl.ex_t ex h), Nat.le_of_eq r.length⟩
  go := fun i d G1 O H e ex rl _ => by
    obtain ⟨v, h1, _⟩ := r.get e
    exact ⟨vs, v, Evl.ex_t rl.g (Evl.ex_t ex h), h1⟩
  yld := fun i d G1 O H x H' e ex rl _ y => by
    obtain ⟨rfl, hy⟩ := y
    obtain ⟨v, h1, h2⟩ := r.get e
    have := hy vs (Evl.ex_t rl.g (Evl.ex_t ex h))
    rw [h1] at this; cases this
    exact ⟨G1, Go.refl rl, h2.mono ex⟩
theorem ItR.lst {a : Addr} {vs : List V} {xs : List D} (h : SqL K G a vs) (r : VRs K G vs xs) : ItR K (Itl K a) G xs Tr where
  stop := fun G1 O H ex rl _ => ⟨vs, Evl.ex_l rl.g (Evl.ex_l ex h), Nat.le_of_eq r.length⟩
  go := fun i d G1 O H e ex rl _ => by
    obtain ⟨v, h1, _⟩ := r.get e
    exact ⟨vs, v, Evl.ex_l rl.g (Evl.ex_l ex h), h1⟩
  yld := fun i d G1 O H x H' e ex rl _ y => by
    obtain ⟨rfl, hy⟩ := y
    obtain ⟨v, h1, h2⟩ := r.get e
    have := hy vs (Evl.ex_l rl.g (Evl.ex_l ex h))
    rw [h1] at this; cases this
    exact ⟨G1, Go.refl rl, h2.mono ex⟩
theorem ItR.own {a : Addr} {xs : List D} : ItR K (Itl K a) G xs (fun O => O a = some (.lst xs)) where
  stop := fun G1 O H ex rl e => by
    obtain ⟨vs, h1, h2⟩ := rl.lst e
    exact ⟨vs, SqL.of h1, Nat.le_of_eq h2.length⟩
  go := fun i d G1 O H e ex rl eo => by
    obtain ⟨vs, h1, h2⟩ := rl.lst eo
    obtain ⟨v, h3, _⟩ := h2.get e
    exact ⟨vs, v, SqL.of h1, h3⟩
  yld := fun i d G1 O H x H' e ex rl eo y => by
    obtain ⟨rfl, hy⟩ := y
    obtain ⟨vs, h1, h2⟩ := rl.lst eo
    obtain ⟨v, h3, h4⟩ := h2.get e
    have := hy vs (SqL.of h1)
    rw [h3] at this; cases this
    exact ⟨G1, Go.refl rl, h4⟩
theorem ItR.rng {lo : Int} {n : Nat} : ItR K (Itr lo n) G ((List.range n).map fun k => D.int (lo + (k : Nat))) Tr where
  stop := fun G1 O H ex rl e => by simp [Itr]
  go := fun i d G1 O H e ex rl eo => by
    have := (List.getElem?_eq_some_iff.mp e).1
    simpa [Itr] using this
  yld := fun i d G1 O H x H' e ex rl eo y => by
    obtain ⟨rfl, rfl⟩ := y
    have hi : i < n := by simpa using (List.getElem?_eq_some_iff.mp e).1
    rw [List.getElem?_map, List.getElem?_range hi] at e
    cases e
    exact ⟨G1, Go.refl rl, .int _⟩
theorem ItR.str {z : Str} : ItR K (Its z) G (z.cps.toList.map fun c => D.str ⟨#[c]⟩) Tr where
  stop := fun G1 O H ex rl e => by simp [Its]
  go := fun i d G1 O H e ex rl eo => by
    have := (List.getElem?_eq_some_iff.mp e).1
    simpa [Its] using this
  yld := fun i d G1 O H x H' e ex rl eo y => by
    obtain ⟨rfl, c, hc, rfl⟩ := y
    rw [List.getElem?_map, Array.getElem?_toList, hc] at e
    cases e
    exact ⟨G1, Go.refl rl, .str _⟩
/-- a list, a tuple, a text -/
def dSeqI (te : DE) : DI := fun g O R => te g O fun x O1 => match x with
  | .tup xs => R xs Tr O1
  | .lst xs => R xs Tr O1
  | .str z => R (z.cps.toList.map fun c => D.str ⟨#[c]⟩) Tr O1
  | .ref a => match O1 a with | some (.lst xs) => R xs (fun O => O a = some (.lst xs)) O1 | _ => False
  | _ => False
def iSeq (K : PySem.W.Frag) (tl : TE) : TI := fun σ H R => tl σ H fun x H1 => (∃ a, x = .ref a ∧ (∃ xs, SqL K H1 a xs) ∧ R (Itl K a) H1) ∨ (∃ a, x = .ref a ∧ (∃ xs, SqT K H1 a xs) ∧ R (Itt K a) H1) ∨ (∃ z, x = .str z ∧ R (Its z) H1)
theorem pi_seq {l : Expr} {tl : TE} (hl : PE X l tl) : PI X tg l (iSeq X.K tl) := by
  refine ⟨fun pins s σ H R I h => ?_⟩
  refine thn (hl.run pins s σ H _ I h) fun v s1 ⟨x, H1, I1, r1, q1⟩ => ?_
  rcases q1 with ⟨a, e, ⟨xs, hq⟩, q⟩ | ⟨a, e, ⟨xs, hq⟩, q⟩ | ⟨z, e, q⟩
  · subst e
    cases r1
    obtain ⟨its, rv, p, hz⟩ := I1.list hq
    refine wpAny_pyIter_list p.isList ?_
    refine ⟨s1.heap.objs.size, [s1.heap.objs.size], _, _, H1, rfl, I1.kept (t' := s1.toks) fun b o e => Heap.get?_push_of_some _ e, turn_list a _, ⟨_, Heap.get?_push_size _ rfl, rfl, rfl⟩, fun b hb => ?_, q⟩
    have e : b = s1.heap.objs.size := by simpa using hb
    subst e
    exact I1.fpOk (Nat.le_refl _) (I1.hok.fresh (Nat.le_refl _))
  · subst e
    cases r1
    obtain ⟨its, rv, p, hz⟩ := I1.tuple hq
    refine wpAny_pyIter_tuple (show s1.heap.IsTuple a its.toArray from p) ?_
    refine ⟨s1.heap.objs.size, [s1.heap.objs.size], _, _, H1, rfl, I1.kept (t' := s1.toks) fun b o e => Heap.get?_push_of_some _ e, turn_tuple a _, ⟨_, Heap.get?_push_size _ rfl, rfl, rfl⟩, fun b hb => ?_, q⟩
    have e : b = s1.heap.objs.size := by simpa using hb
    subst e
    exact I1.fpOk (Nat.le_refl _) (I1.hok.fresh (Nat.le_refl _))
  · subst e
    obtain ⟨t, rfl⟩ := r1
    cases ha : z.cps.all (· < 128)
    · exact wpAny_pyIter_wide ha (pi_one (tk := s1.toks) I1 _ (turn_str _ z t "str_iterator" (.inr rfl)) ⟨_, Heap.get?_push_size _ rfl, rfl, rfl⟩ q)
    · exact wpAny_pyIter_ascii ha (pi_one (tk := s1.toks) I1 _ (turn_str _ z t "str_ascii_iterator" (.inl rfl)) ⟨_, Heap.get?_push_size _ rfl, rfl, rfl⟩ q)
theorem i_seq {l : Expr} {te : DE} (hl : PE X l (lowE X.K te)) : PI X tg l (lowI X.K (dSeqI te)) := PI.by (pi_seq hl) fun s H R ⟨G, O, g, R', rl, gr, h, k⟩ =>
  ⟨G, O, g, _, rl, gr, h, fun x O1 v G1 H1 go1 vr1 q1 => by
    cases vr1 with
    | tup h1 h2 => exact .inr (.inl ⟨_, rfl, ⟨_, Evl.ex_t go1.rel.g h1⟩, k _ _ _ _ _ _ go1 (ItR.tup h1 h2) q1⟩)
    | lst h1 h2 => exact .inl ⟨_, rfl, ⟨_, Evl.ex_l go1.rel.g h1⟩, k _ _ _ _ _ _ go1 (ItR.lst h1 h2) q1⟩
    | str z => exact .inr (.inr ⟨z, rfl, k _ _ _ _ _ _ go1 ItR.str q1⟩)
    | ref a =>
      have q1 : (match O1 a with | some (.lst xs) => R' xs (fun O => O a = some (.lst xs)) O1 | _ => False) := q1
      cases e : O1 a with
      | none => simp only [e] at q1
      | some o =>
        cases o with
        | lst xs =>
          simp only [e] at q1
          obtain ⟨vs, h1, h2⟩ := go1.rel.lst e
          exact .inl ⟨a, rfl, ⟨vs, SqL.of h1⟩, k _ _ _ _ _ _ go1 ItR.own q1⟩
        | _ => simp only [e] at q1
    | _ => exact False.elim q1⟩
def rgD (lo : Int) (n : Nat) : List D := (List.range n).map fun k => D.int (lo + (k : Nat))
def dRng1 (t : DA) : DI := fun g O R => t g O fun xs O1 => match xs with | [.int j] => -(2 ^ 62) ≤ j ∧ j < 2 ^ 62 ∧ R (rgD 0 j.toNat) Tr O1 | _ => False
def dRng2 (t : DA) : DI := fun g O R => t g O fun xs O1 => match xs with | [.int i, .int j] => (-(2 ^ 62) ≤ i ∧ i < 2 ^ 62 ∧ -(2 ^ 62) ≤ j ∧ j < 2 ^ 62) ∧ R (rgD i (j - i).toNat) Tr O1 | _ => False
def dRng3 (t : DA) : DI := fun g O R => t g O fun xs O1 => match xs with | [.int i, .int j, .int c] => c = -1 ∧ (-(2 ^ 62) ≤ i ∧ i < 2 ^ 62 ∧ -(2 ^ 62) ≤ j ∧ j < 2 ^ 62) ∧ R ((List.range (i - j).toNat).map fun k => D.int (i - (k : Nat))) Tr O1 | _ => False
theorem i_range1 {a : Expr} {ta : DA} {p pos : Pos} {n : Nat} (hm : X.mg "range" = none) (ha : PA X [a] (lowA X.K n ta)) (hg : Gl X "range" := by rfl) (hs : starEach [a] X.env = [(false, eval a X.env)] := by rfl) : PI X tg (.Call (.Name "range" p) [a] [] pos) (lowI X.K (dRng1 ta)) :=
  PI.by (pi_range1 hg hm ha hs) fun s H R ⟨G, O, g, R', rl, gr, h, k⟩ => ⟨G, O, g, _, rl, gr, h, fun xs O1 vs G1 H1 go1 vr1 hl q1 => by
    match xs, vr1, q1 with
    | [.int j], vr1, q1 =>
      obtain ⟨v, rfl, hv⟩ := vr1.one
      cases hv
      exact ⟨j, rfl, q1.1, q1.2.1, k _ _ _ _ _ _ go1 ItR.rng q1.2.2⟩⟩
/-- enumerate(list) -/
def enD (xs : List D) : List D := (xs.zipIdx).map fun p => D.tup [.int (p.2 : Nat), p.1]
def dEnum (t : DE) : DI := fun g O R => t g O fun x O1 => match x with
  | .lst xs => R (enD xs) Tr O1
  | .ref a => match O1 a with | some (.lst xs) => R (enD xs) (fun O => O a = some (.lst xs)) O1 | _ => False
  | _ => False
end
def wipeD (g : Gm) : List Nat → Gm
  | [] => g
  | v :: vs => (wipeD g vs).set v none
theorem GR.wipe {K : PySem.W.Frag} {G : Hp} {s : St} {g : Gm} (h : GR K G s g) : ∀ vs : List Nat, GR K G (wipe s vs) (wipeD g vs)
  | [] => h
  | v :: vs => (GR.wipe h vs).forget v none
theorem wipe_set {s : St} {v : Option V} {i : Nat} : ∀ {vs : List Nat}, i ∈ vs → L2.wipe (s.set i v) vs = L2.wipe s vs
  | [], h => by simp at h
  | w :: vs, h => by
    unfold L2.wipe
    by_cases e : i ∈ vs
    · rw [wipe_set e]
    · have hw : i = w := by simpa [e] using h
      subst hw
      have comm : ∀ (us : List Nat), i ∉ us → L2.wipe (s.set i v) us = (L2.wipe s us).set i v := by
        intro us
        induction us with
        | nil => intro _; rfl
        | cons u us ih =>
          intro hu
          unfold L2.wipe
          rw [ih (fun z => hu (List.mem_cons_of_mem _ z)), List.set_comm _ _ (fun z => hu (by rw [z]; exact List.mem_cons_self))]
      rw [comm vs e, List.set_set]
def lowGw (K : PySem.W.Frag) (vs : List Nat) (t : DG) : TG := fun v s H Q => ∃ (G : Hp) (O : Om) (g : Gm) (x : D) (R : Gm → Om → Prop), Rel K G O H ∧ GR K G s g ∧ VR K G v x ∧ t x g O R ∧ ∀ s' g' O' G' H', Go K G O H G' O' H' → GR K G' s' g' → L2.wipe s' vs = L2.wipe s vs → R g' O' → Q s' H'
def lowGsw (K : PySem.W.Frag) (vs : List Nat) (t : DGs) : TGs := fun v s H Q => ∃ (G : Hp) (O : Om) (g : Gm) (x : List D) (R : Gm → Om → Prop), Rel K G O H ∧ GR K G s g ∧ VRs K G v x ∧ t x g O R ∧ ∀ s' g' O' G' H', Go K G O H G' O' H' → GR K G' s' g' → L2.wipe s' vs = L2.wipe s vs → R g' O' → Q s' H'
section
variable {X : Cx} {pos : Pos} {vs : List Nat}
theorem gw_name {i : Nat} {x : Str} (hN : X.N.Nodup) (hi : X.N[i]? = some x) (hx : Loc X.env.scope x) (hv : i ∈ vs := by decide) (hf : X.fn x = true ∨ X.env.scope.names.lookup x = some .local := by first | exact .inl rfl | exact .inr rfl | assumption) : PG X (.Name x pos) (lowGw X.K vs (gN i)) :=
  PG.by (pg_name hN hi hx hf) fun v s H Q ⟨G, O, g, x, R, rl, gr, vr, h, k⟩ => k _ _ _ _ _ (Go.refl rl) (gr.set i vr) (wipe_set hv) h
theorem gsw_nil : PGs X [] (lowGsw X.K vs gsNil) := PGs.by pgs_nil fun v s H Q ⟨G, O, g, x, R, rl, gr, vr, h, k⟩ => by
  cases vr with
  | nil => exact ⟨rfl, k _ _ _ _ _ (Go.refl rl) gr rfl h⟩
  | cons _ _ => exact False.elim h
theorem gsw_cons {e : Expr} {es : List Expr} {t : DG} {u : DGs} (h1 : PG X e (lowGw X.K vs t)) (h2 : PGs X es (lowGsw X.K vs u))
    (hs : (assignEach (e :: es) X.env).map (·.2) = assign e X.env :: (assignEach es X.env).map (·.2) := by rfl) : PGs X (e :: es) (lowGsw X.K vs (gsCons t u)) := PGs.by (pgs_cons h1 h2 hs) fun v s H Q ⟨G, O, g, x, R, rl, gr, vr, h, k⟩ => by
  cases vr with
  | nil => exact False.elim h
  | cons hv hr => exact ⟨_, _, rfl, G, O, g, _, _, rl, gr, hv, h, fun s1 g1 O1 G1 H1 go1 gr1 w1 q1 => ⟨G1, O1, g1, _, R, go1.rel, gr1, hr.mono go1.ex, q1, fun s2 g2 O2 G2 H2 go2 gr2 w2 q2 => k _ _ _ _ _ (go1.trans rl go2) gr2 (w2.trans w1) q2⟩⟩
theorem gw_tup {es : List Expr} {k : Nat} {t : DGs} {n : Nat} (hc : X.calm = true) (h : PGs X es (lowGsw X.K vs t))
    (hn : (assignEach es X.env).length = n := by rfl) (hst : (assignEach es X.env).findIdx? (·.1) = none := by rfl) : PG X (.Tuple es k pos) (lowGw X.K vs (gT n t)) := PG.by (pg_tup hc h hn hst) fun v s H Q ⟨G, O, g, x, R, rl, gr, vr, h, k⟩ => by
  cases vr with
  | tup h1 h2 => exact ⟨_, _, rfl, Evl.ex_t rl.g h1, h2.length.trans h.1, G, O, g, _, R, rl, gr, h2, h.2, k⟩
  | _ => exact False.elim h
def dYes : DT := fun _ O R => R true O
theorem PTs.by {X : Cx} {e : List Expr} {t t' : TT} (h : PTs X e t) (k : ∀ s H Q, t' s H Q → t s H Q) : PTs X e t' := ⟨fun pins s σ H Q I q => h.run pins s σ H Q I (k σ H Q q)⟩
theorem ts_nil : PTs X [] (lowT X.K dYes) := PTs.by pts_nil fun s H Q ⟨G, O, g, R, rl, gr, h, k⟩ => k _ _ _ _ (Go.refl rl) h
end
def dComp (u : DG) (tt : DT) (te : DE) (ok : Om → Prop) (g : Gm) (R : List D → Om → Prop) : List D → List D → Om → Prop
  | [], acc, O => ok O ∧ R acc O
  | x :: xs, acc, O => ok O ∧ u x g O fun g1 O1 => tt g1 O1 fun b O2 => if b = true then te g1 O2 fun y O3 => acc.length < sizeLine ∧ dComp u tt te ok g R xs (acc ++ [y]) O3 else dComp u tt te ok g R xs acc O2
def dLc (it : DI) (u : DG) (tt : DT) (te : DE) (vs : List Nat) : DE := fun g O R => it g O fun xs ok O1 => dComp u tt te ok (wipeD g vs) (fun ys O2 => ∀ p, O2 p = none → R (.ref p) (up O2 p (.lst ys))) xs [] O1
section
variable {X : Cx} {pos : Pos} {tg : Expr}
theorem low_lc {K : PySem.W.Frag} {it : DI} {u : DG} {tt : DT} {te : DE} {vs : List Nat} : ∀ s H Q, lowE K (dLc it u tt te vs) s H Q → tLc (lowI K it) (lowGw K vs u) (lowT K tt) (lowE K te) vs s H Q := fun s H Q ⟨G, O, g, R, rl, gr, h, k⟩ => by
  refine ⟨G, O, g, _, rl, gr, h, fun xs ok O1 J G1 H1 go1 ir q1 => ?_⟩
  intro Dl hD
  obtain ⟨hO, hG⟩ := go1.rel.fresh hD
  have g0 : Go K G1 O1 H1 G1 (up O1 Dl (.lst [])) (upd H1 Dl (.lst [])) := Go.new go1.rel (o := .lst []) (u := .lst []) hD .nil
  have less : ∀ {O' : Om} {o : DO}, O' Dl = none → ∀ a w, O' a = some w → up O' Dl o a = some w := fun {O' o} n a w e => by rw [up_ne (fun z => by subst z; rw [n] at e; cases e)]; exact e
  refine ⟨fun i m H' => ∃ G' O' acc, Go K G1 O1 H1 G' (up O' Dl (.lst acc)) H' ∧ O' Dl = none ∧ dComp u tt te ok (wipeD g vs) (fun ys O2 => ∀ p, O2 p = none → R (.ref p) (up O2 p (.lst ys))) (xs.drop i) acc O' ∧ m = xs.length - i ∧ i ≤ xs.length,
    ⟨_, G1, O1, [], g0, hO, q1, rfl, Nat.zero_le _⟩, ?_⟩
  rintro i m H2 ⟨G2, O2, acc, go2, nO2, q2, hm, hi⟩
  have r2 : Rel K G2 O2 H2 := go2.rel.less (less nO2)
  obtain ⟨nG2, uu, hh, qq⟩ := go2.rel.o Dl _ up_same
  cases e : xs.drop i with
  | nil =>
    rw [e] at q2
    have hl : xs.length = i := by
      have := congrArg List.length e
      rw [List.length_drop, List.length_nil] at this
      omega
    refine .inl ⟨?_, k _ _ _ _ _ (go1.trans rl go2) (.ref Dl) (q2.2 Dl nO2)⟩
    rw [← hl]
    exact ir.stop G2 O2 H2 go2.ex r2 q2.1
  | cons x r =>
    rw [e] at q2
    obtain ⟨hx, hr⟩ := drop_cons e
    have hlt : i < xs.length := (List.getElem?_eq_some_iff.mp hx).1
    refine .inr ⟨ir.go i x G2 O2 H2 hx go2.ex r2 q2.1, fun H' => ∃ G' O' acc, Go K G1 O1 H1 G' (up O' Dl (.lst acc)) H' ∧ O' Dl = none ∧ dComp u tt te ok (wipeD g vs) (fun ys O2 => ∀ p, O2 p = none → R (.ref p) (up O2 p (.lst ys))) r acc O', ?_, fun v H3 hy => ?_⟩
    · rintro H3 ⟨G3, O3, acc3, go3, n3, q3⟩
      exact ⟨xs.length - (i + 1), by omega, G3, O3, acc3, go3, n3, by rw [hr]; exact q3, rfl, hlt⟩
    · obtain ⟨G3, go3, vr3⟩ := ir.yld i x G2 O2 H2 v H3 hx go2.ex r2 q2.1 hy
      refine ⟨G3, O2, wipeD g vs, x, _, go3.rel, (gr.mono (go1.ex.trans (go2.ex.trans go3.ex))).wipe vs, vr3, q2.2, fun s4 g4 O4 G4 H4 go4 gr4 w4 q4 => ⟨w4.trans ?_, G4, O4, g4, _, go4.rel, gr4, q4, fun b O5 G5 H5 go5 q5 => ?_⟩⟩
      · have wipe2 : ∀ us : List Nat, (∀ a ∈ us, a ∈ vs) → L2.wipe (L2.wipe s us) vs = L2.wipe s vs := by
          intro us
          induction us with
          | nil => intro _; rfl
          | cons a us ih =>
            intro ha
            show L2.wipe ((L2.wipe s us).set a none) vs = _
            rw [wipe_set (ha a List.mem_cons_self)]
            exact ih fun b hb => ha b (List.mem_cons_of_mem _ hb)
        exact wipe2 vs fun _ z => z
      · have g25 : Go K G2 O2 H2 G5 O5 H5 := (go3.trans r2 go4).trans r2 go5
        cases b with
        | false =>
          obtain ⟨n5, h5, f5⟩ := g25.frame nO2 nG2 hh qq
          exact ⟨G5, O5, acc, go2.trans go1.rel f5, n5, q5⟩
        | true =>
          refine ⟨G5, O5, g4, _, go5.rel, gr4.mono go5.ex, q5, fun y O6 w G6 H6 go6 vr6 q6 => ?_⟩
          have g26 := g25.trans r2 go6
          obtain ⟨n6, h6, f6⟩ := g26.frame nO2 nG2 hh qq
          have g16 := go2.trans go1.rel f6
          obtain ⟨_, u6, h6', q6'⟩ := g16.rel.o Dl _ up_same
          cases u6 with
          | lst vacc =>
            have hv : VRs K G6 vacc acc := q6'
            have gw := Go.write g16.rel (a := Dl) (o := .lst (acc ++ [y])) (u := .lst (vacc ++ [w])) up_same (hv.append (.cons vr6 .nil))
            rw [up_up] at gw
            exact ⟨vacc, h6', by rw [hv.length]; exact q6.1, G6, O6, acc ++ [y], g16.trans go1.rel gw, n6, q6.2⟩
          | _ => exact False.elim q6'
theorem e_lc {elt iter : Expr} {ifs : List Expr} {scope : Scope} {own : List (Str × Nat)} {it : DI} {u : DG} {tt : DT} {te : DE} (hc : X.calm = true) (hN : X.N.Nodup) (hi : PI X tg iter (lowI X.K it)) (ok : BlkOk X.N X.env.scope scope own)
    (hg : ∀ (s : Shared) (H : Hp) (C : Addr) (cl : List (Str × Addr)) (fp : List Addr), PG (X.blk s H scope (compEnvC scope cl C X.env) fp) tg (lowGw X.K (own.map (·.2)) u)) (ht : ∀ (s : Shared) (H : Hp) (C : Addr) (cl : List (Str × Addr)) (fp : List Addr), PTs (X.blk s H scope (compEnvC scope cl C X.env) fp) ifs (lowT X.K tt))
    (he : ∀ (s : Shared) (H : Hp) (C : Addr) (cl : List (Str × Addr)) (fp : List Addr), PE (X.blk s H scope (compEnvC scope cl C X.env) fp) elt (lowE X.K te)) (hs : ∀ x, foldedSetIterable iter X.env x = pure x := by intro _; rfl) :
    PE X (.ListComp elt [⟨tg, iter, ifs, 0⟩] scope pos) (lowE X.K (dLc it u tt te (own.map (·.2)))) := PE.by (pe_lc hc hN hi ok hg ht he hs) low_lc
theorem s_setLc {W : WX} {i : Nat} {y : Str} {py : Pos} {elt iter : Expr} {ifs : List Expr} {scope : Scope} {own : List (Str × Nat)} {spos : Pos} {it : DI} {u : DG} {tt : DT} {te : DE} (hc : X.calm = true) (hN : X.N.Nodup) (hy : X.N[i]? = some y) (hyl : X.env.scope.names.lookup y = some .local)
    (hsw : swapsWith (.ListComp elt [⟨tg, iter, ifs, 0⟩] scope pos) (some (.Name y py)) spos.line X.env = pure true) (hi : PI X tg iter (lowI X.K it)) (ok : BlkOk X.N X.env.scope scope own)
    (hg : ∀ (s : Shared) (H : Hp) (C : Addr) (cl : List (Str × Addr)) (fp : List Addr), PG (X.blk s H scope (compEnvC scope cl C X.env) fp) tg (lowGw X.K (own.map (·.2)) u)) (ht : ∀ (s : Shared) (H : Hp) (C : Addr) (cl : List (Str × Addr)) (fp : List Addr), PTs (X.blk s H scope (compEnvC scope cl C X.env) fp) ifs (lowT X.K tt))
    (he : ∀ (s : Shared) (H : Hp) (C : Addr) (cl : List (Str × Addr)) (fp : List Addr), PE (X.blk s H scope (compEnvC scope cl C X.env) fp) elt (lowE X.K te)) (hs : ∀ x, foldedSetIterable iter X.env x = pure x := by intro _; rfl) :
    PS X (.Assign [.Name y py] (.ListComp elt [⟨tg, iter, ifs, 0⟩] scope pos) spos) (lowS X.K W (dSet i (dLc it u tt te (own.map (·.2))))) := PS.by (ps_setLc hc hN hy hyl hsw hi ok hg ht he hs) fun E s H ⟨G, O, g, F, rl, gr, h, k⟩ =>
  low_lc s H _ ⟨G, O, g, _, rl, gr, h, fun x O1 v G1 H1 go1 vr1 q1 => k.nx _ _ _ _ _ go1 ((gr.mono go1.ex).set i vr1) q1⟩
end
/-- a comprehension whose every turn keeps I and gives f of the item -/
theorem comp_by {u : DG} {tt : DT} {te : DE} {ok : Om → Prop} {g : Gm} {R : List D → Om → Prop} (I : List D → List D → Om → Prop) {xs : List D} {O : Om} (h0 : I [] [] O) (hok : ∀ pre acc O, I pre acc O → ok O)
    (hs : ∀ pre x post acc O (N : List D → Om → Prop), xs = pre ++ x :: post → I pre acc O → (∀ acc' O', I (pre ++ [x]) acc' O' → N acc' O') → u x g O fun g1 O1 => tt g1 O1 fun b O2 => if b = true then te g1 O2 fun y O3 => acc.length < sizeLine ∧ N (acc ++ [y]) O3 else N acc O2)
    (hd : ∀ acc O, I xs acc O → R acc O) : dComp u tt te ok g R xs [] O := by
  have key : ∀ (post pre acc : List D) (O : Om), xs = pre ++ post → I pre acc O → dComp u tt te ok g R post acc O := by
    intro post
    induction post with
    | nil =>
      intro pre acc O e h
      rw [List.append_nil] at e
      subst e
      exact ⟨hok _ _ _ h, hd acc O h⟩
    | cons x post ih =>
      intro pre acc O e h
      exact ⟨hok _ _ _ h, hs pre x post acc O _ e h fun acc1 O1 h1 => ih (pre ++ [x]) acc1 O1 (by rw [e, List.append_assoc]; rfl) h1⟩
  exact key xs [] [] O rfl h0
end DL
set_option Elab.async false
set_option linter.all false
set_option maxRecDepth 100000
set_option maxHeartbeats 2000000
namespace DL
open PySem PySem.Spec PyProof.Rows L2
open Evl (Ex)
abbrev XD := Value → Option Addr → Om → Prop
abbrev DSp := List D → Om → (D → Om → Prop) → XD → Prop
abbrev X0 : XD := fun _ _ _ => False
abbrev W0 : WX := fun _ _ _ _ => False
def toSp (K : PySem.W.Frag) (d : DSp) : Sp := fun vs H Q E => ∃ (G : Hp) (O : Om) (xs : List D) (R : D → Om → Prop) (Z : XD), Rel K G O H ∧ VRs K G vs xs ∧ d xs O R Z ∧
  (∀ x O' v G' H', Go K G O H G' O' H' → VR K G' v x → R x O' → Q v H') ∧ ∀ c e O' G' H', Go K G O H G' O' H' → Z c e O' → E c e H'
/-- forgetting at the end -/
def Fin (R : D → Om → Prop) (x : D) (O : Om) : Prop := ∃ O', (∀ a o, O' a = some o → O a = some o) ∧ R x O'
theorem Fin.here {R : D → Om → Prop} {x : D} {O : Om} (h : R x O) : Fin R x O := ⟨O, fun _ _ e => e, h⟩
def ends (R : D → Om → Prop) : DEnds := { nx := fun _ O => Fin R .non O, rt := Fin R }
def startD (N : List Str) (xs : List D) : Gm := xs.map some ++ List.replicate (N.length - xs.length) none
theorem VRs.map_get {K : PySem.W.Frag} {G : Hp} {vs : List V} {xs : List D} (h : VRs K G vs xs) {i : Nat} {d : D} (e : (xs.map some)[i]? = some (some d)) : ∃ v, (vs.map some)[i]? = some (some v) ∧ VR K G v d := by
  rw [List.getElem?_map] at e
  cases q : xs[i]? with
  | none => rw [q] at e; cases e
  | some x =>
    rw [q] at e
    cases e
    obtain ⟨v, h1, h2⟩ := h.get q
    exact ⟨v, by rw [List.getElem?_map, h1]; rfl, h2⟩
theorem GR.start {K : PySem.W.Frag} {G : Hp} {N : List Str} {vs : List V} {xs : List D} (h : VRs K G vs xs) : GR K G (L2.start N vs) (startD N xs) := by
  have hl := h.length
  refine ⟨by unfold L2.start startD; simp [hl], fun i d e => ?_⟩
  unfold startD at e
  by_cases hi : i < xs.length
  · rw [List.getElem?_append_left (by simpa using hi)] at e
    obtain ⟨v, h1, h2⟩ := h.map_get e
    exact ⟨v, by unfold L2.start; rw [List.getElem?_append_left (by simpa [hl] using hi)]; exact h1, h2⟩
  · rw [List.getElem?_append_right (by simpa using hi), List.getElem?_replicate] at e
    split at e <;> cases e
section
variable {P : Program} {w : World} {K : PySem.W.Frag} {mg : Str → Option Value} {base : Heap}
/-- THE RULE: a def that lets nothing out -/
theorem fn_ok {x qual : Str} {params : Arguments} {body : List Stmt} {scope : Scope} {dvs : List V} {kws : List (Str × V)} {f : Addr} {fd : FuncData} {N ps : List Str} {k : Nat} {dsp : DSp} {t : DS} (F : FunD K x qual params body scope dvs kws f fd) (S : FnScope N ps scope)
    (len : ∀ xs O R Z, dsp xs O R Z → xs.length = ps.length)
    (hb : ∀ (cdv : Value) (A : Around) (outer : List Env) (s : Shared) (H : Hp) (E : XK), Room k (A.deeper (envOfC qual scope s.heap.objs.size f cdv)) → PSs (cxOf CX0 P w K mg base N qual scope f cdv A outer s H E).nox body (lowS K W0 t))
    (hd : ∀ xs O R Z, dsp xs O R Z → t (ends R) (startD N xs) O) : FnOk P w K mg base CX0 (k + 1) f fd ps (toSp K dsp) := by
  refine FunD.ok F S (fun vs H Q E h => ?_) (fun cdv A outer s H vs Q E hr h => ⟨lowS K W0 t, (hb cdv A outer s H E hr).nox, ?_⟩)
  · obtain ⟨G, O, xs, R, Z, rl, vr, hs, _⟩ := h
    rw [vr.length]
    exact len _ _ _ _ hs
  · obtain ⟨G, O, xs, R, Z, rl, vr, hs, k, _⟩ := h
    refine ⟨G, O, startD N xs, ends R, rl, GR.start vr, hd _ _ _ _ hs, ⟨fun s' g' O' G' H' go gr q => ?_, fun _ _ _ _ _ _ _ q => q, fun _ _ _ _ _ _ _ q => q, fun x O' v G' H' go vr q => ?_, fun _ _ _ _ _ _ _ _ _ q => q⟩⟩
    · obtain ⟨O2, h1, h2⟩ := q
      exact k _ _ _ _ _ (go.less h1) .non h2
    · obtain ⟨O2, h1, h2⟩ := q
      exact k _ _ _ _ _ (go.less h1) vr h2
end
inductive Src where
  | p (i : Nat) | k (i : Nat) | d (i : Nat)
def Src.get {A : Type} (us ws ds : List A) : Src → Option A
  | .p i => us[i]?
  | .k i => ws[i]?
  | .d i => ds[i]?
def pick {A : Type} (us ws ds : List A) (l : List Src) : List A := l.filterMap (Src.get us ws ds)
structure Bnd (K : PySem.W.Frag) (fd : FuncData) (ps : List Str) (n : Nat) (ks : List Str) (srcs : List Src) (dvs : List V) : Prop where
  to : ∃ ds : List Value, Vals dvs ds ∧ ∀ (s : Shared) (us ws : List Value), K.In s.heap → us.length = n → ws.length = ks.length → BindsTo s fd ⟨us, ks.zip ws⟩ (ps.zip (pick us ws ds srcs))
theorem Vals.ixO {vs : List V} {us : List Value} (h : Vals vs us) (i : Nat) : match vs[i]?, us[i]? with | some v, some u => RelV v u | none, none => True | _, _ => False := by
  cases e : vs[i]? with
  | none => rw [h.none_of e]; trivial
  | some v => obtain ⟨u, h1, h2⟩ := h.get e; rw [h1]; exact h2
theorem pick_vals {vs zs dvs : List V} {us ws ds : List Value} (h1 : Vals vs us) (h2 : Vals zs ws) (h3 : Vals dvs ds) : ∀ l : List Src, Vals (pick vs zs dvs l) (pick us ws ds l)
  | [] => .nil
  | x :: l => by
    have ih := pick_vals h1 h2 h3 l
    have q : match x.get vs zs dvs, x.get us ws ds with | some v, some u => RelV v u | none, none => True | _, _ => False := by
      cases x
      · exact Vals.ixO h1 _
      · exact Vals.ixO h2 _
      · exact Vals.ixO h3 _
    unfold pick
    rw [List.filterMap_cons, List.filterMap_cons]
    cases e1 : x.get vs zs dvs <;> cases e2 : x.get us ws ds <;> rw [e1, e2] at q
    · exact ih
    · exact q.elim
    · exact q.elim
    · exact .cons q ih
theorem VRs.ixO {K : PySem.W.Frag} {G : Hp} {vs : List V} {us : List D} (h : VRs K G vs us) (i : Nat) : match vs[i]?, us[i]? with | some v, some u => VR K G v u | none, none => True | _, _ => False := by
  cases e : us[i]? with
  | none =>
    have hl : vs[i]? = none := List.getElem?_eq_none (by rw [h.length]; exact List.getElem?_eq_none_iff.mp e)
    rw [hl]; trivial
  | some v => obtain ⟨u, h1, h2⟩ := h.get e; rw [h1]; exact h2
theorem pick_vrs {K : PySem.W.Frag} {G : Hp} {vs zs dvs : List V} {us ws ds : List D} (h1 : VRs K G vs us) (h2 : VRs K G zs ws) (h3 : VRs K G dvs ds) : ∀ l : List Src, VRs K G (pick vs zs dvs l) (pick us ws ds l)
  | [] => .nil
  | x :: l => by
    have ih := pick_vrs h1 h2 h3 l
    have q : match x.get vs zs dvs, x.get us ws ds with | some v, some u => VR K G v u | none, none => True | _, _ => False := by
      cases x
      · exact VRs.ixO h1 _
      · exact VRs.ixO h2 _
      · exact VRs.ixO h3 _
    unfold pick
    rw [List.filterMap_cons, List.filterMap_cons]
    cases e1 : x.get vs zs dvs <;> cases e2 : x.get us ws ds <;> rw [e1, e2] at q
    · exact ih
    · exact q.elim
    · exact q.elim
    · exact .cons q ih
section
variable {K : PySem.W.Frag} {x qual : Str} {params : Arguments} {body : List Stmt} {scope : Scope} {dvs : List V} {kws : List (Str × V)} {f : Addr} {fd : FuncData} {ps ks : List Str} {n : Nat} {srcs : List Src}
/-- nothing is filled up -/
theorem bnd0 (F : FunD K x qual params body scope [] kws f fd)
    (h : ∀ (kV doc pm : Value) (an : Option Addr) (cdv ct : Value) (us ws : List Value), us.length = n → ws.length = ks.length → bindArgs (PySem.W.fnOf x qual params body scope .none kV doc pm an cdv ct) ⟨us, ks.zip ws⟩ = pure (ps.zip (pick us ws [] srcs))) : Bnd K fd ps n ks srcs [] := by
  obtain ⟨oc, od, dV, kV, doc, pm, an, cdv, ct, osl, rfl, lk, hcd, hD, hK⟩ := F.ex
  rcases hD with ⟨_, rfl⟩ | ⟨z, _⟩
  · exact ⟨[], .nil, fun s us ws _ h1 h2 => .of_eq (h kV doc pm an cdv ct us ws h1 h2)⟩
  · exact absurd rfl z
end
def dCall (d : DSp) (srcs : List Src) (ds : List D) (t tk : DA) : DE := fun g O R => t g O fun xs O1 => tk g O1 fun ys O2 => d (pick xs ys ds srcs) O2 R X0
section
variable {X : Cx} {CX : CXT} {k : Nat} {f : Addr} {fd : FuncData} {ps ks : List Str} {dsp : DSp} {srcs : List Src} {dvs : List V} {ds : List D} {x : Str} {p pos kpos : Pos} {e : Expr} {es : List Expr} {kws : List Keyword} {te : DE} {t tk : DA} {n m : Nat} {nm : Option Str}
theorem PK.by {X : Cx} {e : List Keyword} {t t' : TA} (h : PK X e t) (k : ∀ s H Q, t' s H Q → t s H Q) : PK X e t' := ⟨fun p pins s σ H Q I q => h.run p pins s σ H Q I (k σ H Q q)⟩
theorem k_nil : PK X [] (lowA X.K 0 dNil) := PK.by pk_nil fun s H Q ⟨G, O, g, R, rl, gr, h, k⟩ => k [] O [] G H (Go.refl rl) .nil rfl h
theorem k_cons (ha : PE X e (lowE X.K te)) (hr : PK X kws (lowA X.K n t)) : PK X (⟨nm, e, kpos⟩ :: kws) (lowA X.K (n + 1) (dCons te t)) :=
  PK.by (pk_cons ha hr) fun s H Q ⟨G, O, g, R, rl, gr, h, k⟩ => ⟨G, O, g, _, rl, gr, h, fun x O1 v G1 H1 go1 vr1 q1 => ⟨G1, O1, g, _, go1.rel, gr.mono go1.ex, q1, fun xs O2 vs G2 H2 go2 vr2 hl q2 =>
    k _ _ _ _ _ (go1.trans rl go2) (.cons (vr1.mono go2.ex) vr2) (by rw [List.length_cons, hl]) q2⟩⟩
/-- the callee runs -/
theorem run_call {pins : List (Addr × Obj)} {σ : L2.St} {H : Hp} {s : Shared} {Q : VK} {us ws : List Value} {vs zs : List V} {E : XK} (F : FnOk X.prog X.w X.K X.mg X.base CX k f fd ps (toSp X.K dsp)) (hr : Room k X.A) (hb : Bnd X.K fd ps n ks srcs dvs) (hx : Passes CX X E)
    (I : Inv X pins σ H s) (r : Vals vs us) (rz : Vals zs ws) (hn : vs.length = n) (hm : zs.length = ks.length) (h : toSp X.K dsp (pick vs zs dvs srcs) H Q E) : wpAny (model X.prog X.w) X.A (call (.ref f) us (ks.zip ws)) (EP X pins σ Q) X.xe s := by
  obtain ⟨ds, rd, hb⟩ := hb.to
  have r2 := pick_vals r rz rd srcs
  refine wpAny_call (codeAny_mono (F.run X.A X.stack s H ⟨us, ks.zip ws⟩ (pick us ws ds srcs) (pick vs zs dvs srcs) Q E hr I.env0 (hb s us ws I.kIn (by rw [← r.length]; exact hn) (by rw [← rz.length]; exact hm)) r2 h) fun r s' hq => ?_)
  cases r with
  | error e => exact hx pins σ H s e s' I hq
  | ok fl =>
    cases fl with
    | ret u => exact I.after hq
    | next => exact False.elim hq
    | brk => exact False.elim hq
    | cont => exact False.elim hq
theorem low_call {K : PySem.W.Frag} {hn : n = n} (hd : ∀ G, VRs K G dvs ds) : ∀ s H Q, lowE K (dCall dsp srcs ds t tk) s H Q → lowA K n t s H fun vs H1 => lowA K m tk s H1 fun zs H2 => vs.length = n ∧ zs.length = m ∧ toSp K dsp (pick vs zs dvs srcs) H2 Q E0 := fun s H Q ⟨G, O, g, R, rl, gr, h, k⟩ =>
  ⟨G, O, g, _, rl, gr, h, fun xs O1 vs G1 H1 go1 vr1 hl1 q1 => ⟨G1, O1, g, _, go1.rel, gr.mono go1.ex, q1, fun ys O2 zs G2 H2 go2 vr2 hl2 q2 =>
    ⟨by rw [vr1.length, hl1], by rw [vr2.length, hl2], G2, O2, _, _, _, go2.rel, pick_vrs (vr1.mono go2.ex) vr2 (hd G2) srcs, q2, fun x O3 v G3 H3 go3 vr3 q3 => k _ _ _ _ _ ((go1.trans rl go2).trans rl go3) vr3 q3, fun _ _ _ _ _ _ z => z⟩⟩⟩
/-- f(e, .., k = v, ..) -/
theorem e_call (F : FnOk X.prog X.w X.K X.mg X.base CX0 k f fd ps (toSp X.K dsp)) (hr : Room k X.A) (hm : X.mg x = some (.ref f)) (hk : PySem.W.keepIn X.K (.ref f) = true) (hb : Bnd X.K fd ps n ks srcs dvs) (hd : ∀ G, VRs X.K G dvs ds)
    (ha : PA X (e :: es) (lowA X.K n t)) (hkw : PK X kws (lowA X.K m tk)) (hmk : m = ks.length := by rfl) (hg : Gl X x := by rfl) (hall : (backToKw pos (keywordEach kws X.env)).all (·.1.isSome) = true := by rfl) (hks : (backToKw pos (keywordEach kws X.env)).filterMap (·.1) = ks := by rfl)
    (hdb : (x == ("__debug__" : Str)) = false := by decide) (he : starEach (e :: es) X.env = (false, eval e X.env) :: starEach es X.env := by rfl)
    (hpl : ((backTo pos (starEach (e :: es) X.env)).any (·.1) || (backToKw pos (keywordEach kws X.env)).any (·.1.isNone)) = false := by rfl) :
    PE X (.Call (.Name x p) (e :: es) kws pos) (lowE X.K (dCall dsp srcs ds t tk)) := by
  refine ⟨fun pins s σ H Q I h => ?_⟩
  refine wpAny_Call_Name_kw (ld_glob I hg hm ?_ hdb)
  refine PySem.W.callWith_KW (h₀ := X.base) I.ok.mod.kin hk hall (thn (ha.run pos pins s σ H _ I (low_call (m := m) (hn := rfl) hd σ H Q h)) fun us s1 ⟨vs, H1, I1, r, q⟩ => ?_) hpl he
  refine thn (hkw.run pos pins s1 σ H1 _ I1 q) fun ws s2 ⟨zs, H2, I2, rz, q2⟩ => ⟨I2.kIn, ?_⟩
  rw [hks]
  exact run_call F hr hb pass0 I2 r rz q2.1 (q2.2.1.trans hmk) q2.2.2
end
end DL
set_option Elab.async false
set_option linter.all false
set_option maxRecDepth 100000
set_option maxHeartbeats 2000000
namespace DL
open PySem PySem.Spec PyProof.Rows L2
open Evl (Ex)
def Mok (i j : Int) : Prop := CMul i j ∨ i.natAbs.log2 + j.natAbs.log2 < 130000000
theorem Mok.ok {i j : Int} (h : Mok i j) : IntMulOk i j := by
  rcases h with h | h
  · exact h.ok
  have b : ∀ x : Int, Builtin.Int.intBits x ≤ x.natAbs.log2 + 1 := fun x => by
    unfold Builtin.Int.intBits
    split <;> omega
  have h1 := b i
  have h2 := b j
  have h3 : i.natAbs.log2 + j.natAbs.log2 < 130000000 := h
  have e : bitsLine = 134217728 := by decide
  unfold IntMulOk
  intro z
  rw [Bool.and_eq_true] at z
  have z2 := z.2
  unfold Builtin.Int.intTooBig at z2
  have z3 := of_decide_eq_true z2
  rw [e] at z3
  omega
theorem log2_lt {i : Int} {a : Nat} (h0 : 0 < a) (h : i.natAbs < 2 ^ a) : i.natAbs.log2 < a := PySem.Flt.log2_lt_of h0 h
theorem Mok.of {i j : Int} {a b : Nat} (ha : i.natAbs < 2 ^ a) (hb : j.natAbs < 2 ^ b) (h0 : 0 < a) (h1 : 0 < b) (h : a + b ≤ 130000000) : Mok i j := by
  have x := log2_lt h0 ha
  have y := log2_lt h1 hb
  exact .inr (by omega)
theorem Mok.l {i j : Int} (h1 : -1000000000000000000 ≤ i) (h2 : i ≤ 1000000000000000000) : Mok i j := .inl (.inl ⟨by omega, by omega⟩)
theorem Mok.r {i j : Int} (h1 : -1000000000000000000 ≤ j) (h2 : j ≤ 1000000000000000000) : Mok i j := .inl (.inr ⟨by omega, by omega⟩)
/-- // by a positive divisor -/
def Dok (i j : Int) : Prop := 0 < j ∧ Builtin.divisionGoesByPylong i j = false
theorem Dok.of {i j : Int} (h : 0 < j) (hb : j.natAbs.log2 < 9000) : Dok i j := ⟨h, PyProof.noPylong_of_log2 hb⟩
theorem Dok.small {i j : Int} (h : 0 < j) (hb : j < 1073741824) : Dok i j := ⟨h, PyProof.noPylong_small (by omega)⟩
section
variable {X : Cx}
theorem op_mulX : OpR X (binaryOp .Mult) (rI Mok fun i j => .int (i * j)) := opI fun _ _ _ _ _ _ _ hc q => mul_int q hc.ok
theorem op_fdivX : OpR X (binaryOp .FloorDiv) (rI Dok fun i j => .int (i / j)) := opI fun i j _ _ _ _ _ hc q => by
  have h1 : (0 : Int) < j := hc.1
  exact floordiv_int (by omega) (by rw [Int.fdiv_eq_ediv_of_nonneg i (by omega)]; exact q) (.inl hc.2)
end
def Pok (i j : Int) : Prop := CPow i j
def dAdd : D2 := fun x y O R => match x, y with
  | .int i, .int j => R (.int (i + j)) O
  | .str a, .str b => a.length + b.length ≤ sizeLine ∧ R (.str (a ++ b)) O
  | .tup xs, .tup ys => xs.length + ys.length ≤ sizeLine ∧ R (.tup (xs ++ ys)) O
  | .ref a, .ref b => (match O a, O b with | some (.lst xs), some (.lst ys) => xs.length + ys.length ≤ sizeLine ∧ ∀ p, O p = none → R (.ref p) (up O p (.lst (xs ++ ys))) | _, _ => False)
  | _, _ => False
def dSub : D2 := dI fun i j => .int (i - j)
def dMul : D2 := dIc Mok fun i j => .int (i * j)
def dFd : D2 := dIc Dok fun i j => .int (i / j)
def dMod : D2 := dIc (fun _ j => 0 < j) fun i j => .int (i % j)
def dPow : D2 := dIc Pok fun i j => .int (i ^ j.toNat)
section
variable {X : Cx} {a b : Expr} {ta tb : DE} {pos : Pos} {K : PySem.W.Frag}
abbrev rPlus (K : PySem.W.Frag) : R2 := fun x y H Q => (rI0 fun i j => .int (i + j)) x y H Q ∨ (fun x y H Q => (∃ a b : Str, x = .str a ∧ y = .str b ∧ a.length + b.length ≤ sizeLine ∧ Q (.str (a ++ b)) H) ∨ (fun x y H Q => rCatA K x y H Q ∨ rCat x y H Q) x y H Q) x y H Q
theorem sAdd : OpS K (rPlus K) dAdd := fun {G O H x y v u R Q} rl hx hy h k => by
  cases hx with
  | int i => cases hy <;> first | exact h.elim | exact .inl ⟨_, _, rfl, rfl, k.here rl (.int _) h⟩
  | str i => cases hy <;> first | exact h.elim | exact .inr (.inl ⟨_, _, rfl, rfl, h.1, k.here rl (.str _) h.2⟩)
  | tup h1 h2 =>
    cases hy with
    | tup h3 h4 =>
      obtain ⟨hz, h⟩ := h
      refine .inr (.inr (.inl ⟨_, _, _, _, rfl, rfl, Evl.ex_t rl.g h1, Evl.ex_t rl.g h3, by rw [h2.length, h4.length]; exact hz, fun e => ?_, fun e1 e2 => ?_, fun _ _ => ?_⟩))
      · subst e; cases h2; exact k.here rl (.tup h3 h4) h
      · subst e2; cases h4; rw [List.append_nil] at h; exact k.here rl (.tup h1 h2) h
      · exact k.tup rl (h2.append h4) h
    | _ => exact h.elim
  | ref a =>
    cases hy with
    | ref b =>
      have h : (match O a, O b with | some (.lst xs), some (.lst ys) => xs.length + ys.length ≤ sizeLine ∧ ∀ p, O p = none → R (.ref p) (up O p (.lst (xs ++ ys))) | _, _ => False) := h
      cases e1 : O a with
      | none => simp only [e1] at h
      | some o1 =>
        cases e2 : O b with
        | none => simp only [e1, e2] at h
        | some o2 =>
          cases o1 with
          | lst xs =>
            cases o2 with
            | lst ys =>
              simp only [e1, e2] at h
              obtain ⟨vs, h1, h2⟩ := rl.lst e1
              obtain ⟨us, h3, h4⟩ := rl.lst e2
              exact .inr (.inr (.inr ⟨a, b, vs, us, rfl, rfl, h1, h3, by rw [h2.length, h4.length]; exact h.1, k.lst rl (h2.append h4) h.2⟩))
            | _ => simp only [e1, e2] at h
          | _ => simp only [e1, e2] at h
    | _ => exact h.elim
  | _ => cases hy <;> exact h.elim
theorem opPlus : OpR X (binaryOp .Add) (rPlus X.K) := OpR.or op_add (OpR.or op_add_str (OpR.or op_catA op_cat))
theorem e_add (ha : PE X a (lowE X.K ta)) (hb : PE X b (lowE X.K tb)) : PE X (.BinOp a .Add b pos) (lowE X.K (dOp dAdd ta tb)) := e_op opPlus sAdd ha hb
theorem e_mul (ha : PE X a (lowE X.K ta)) (hb : PE X b (lowE X.K tb)) : PE X (.BinOp a .Mult b pos) (lowE X.K (dOp dMul ta tb)) := e_op op_mulX (sIc (fun _ _ _ => .int _) fun _ _ h => h) ha hb
theorem e_fd (ha : PE X a (lowE X.K ta)) (hb : PE X b (lowE X.K tb)) : PE X (.BinOp a .FloorDiv b pos) (lowE X.K (dOp dFd ta tb)) := e_op op_fdivX (sIc (fun _ _ _ => .int _) fun _ _ h => h) ha hb
theorem e_mod (ha : PE X a (lowE X.K ta)) (hb : PE X b (lowE X.K tb)) : PE X (.BinOp a .Mod b pos) (lowE X.K (dOp dMod ta tb)) := e_op op_mod (sIc (fun _ _ _ => .int _) fun _ _ h => h) ha hb
theorem e_pow (ha : PE X a (lowE X.K ta)) (hb : PE X b (lowE X.K tb)) : PE X (.BinOp a .Pow b pos) (lowE X.K (dOp dPow ta tb)) := e_op op_pow (sIc (fun _ _ _ => .int _) fun _ _ h => h) ha hb
def dNeg : D1 := fun x O R => match x with | .int i => R (.int (-i)) O | _ => False
def dLt : D2 := dI fun i j => .bl (decide (i < j))
def dLe : D2 := dI fun i j => .bl (decide (i ≤ j))
def dGt : D2 := dI fun i j => .bl (decide (i > j))
def dGe : D2 := dI fun i j => .bl (decide (i ≥ j))
end
end DL
set_option Elab.async false
set_option linter.all false
set_option maxRecDepth 100000
set_option maxHeartbeats 2000000
namespace DL
open PySem PySem.Spec PyProof.Rows L2
open Evl (Ex)
section
variable {X : Cx} {a b : Expr} {ta tb : DE} {pos : Pos} {K : PySem.W.Frag}
theorem sLt : OpS K (rI0 fun i j => .bl (decide (i < j))) dLt := sI fun _ _ _ => .bl _
theorem sGt : OpS K (rI0 fun i j => .bl (decide (j < i))) dGt := sI fun _ _ _ => .bl _
theorem sGe : OpS K (rI0 fun i j => .bl (decide (j ≤ i))) dGe := sI fun _ _ _ => .bl _
mutual
inductive Vw (O : Om) : D → PyData → Prop
  | non : Vw O .non .none
  | bl (b : Bool) : Vw O (.bl b) (.bool b)
  | int (i : Int) : Vw O (.int i) (.int i)
  | str (x : Str) : Vw O (.str x) (.str x)
  | tup {xs : List D} {ds : List PyData} : Vws O xs ds → Vw O (.tup xs) (.tuple ds)
  | lst {xs : List D} {ds : List PyData} : Vws O xs ds → Vw O (.lst xs) (.list ds)
  | ref {a : Addr} {xs : List D} {ds : List PyData} : O a = some (.lst xs) → Vws O xs ds → Vw O (.ref a) (.list ds)
inductive Vws (O : Om) : List D → List PyData → Prop
  | nil : Vws O [] []
  | cons {x : D} {xs : List D} {d : PyData} {ds : List PyData} : Vw O x d → Vws O xs ds → Vws O (x :: xs) (d :: ds)
end
mutual
theorem Vw.dp {G : Hp} {O : Om} {H : Hp} (rl : Rel K G O H) : ∀ {x : D} {d : PyData} {v : V}, Vw O x d → VR K G v x → Dp K H v d
  | _, _, _, .non, h => by cases h; exact .non
  | _, _, _, .bl b, h => by cases h; exact .bl b
  | _, _, _, .int b, h => by cases h; exact .int b
  | _, _, _, .str b, h => by cases h; exact .str b
  | _, _, _, .tup q, h => by
    cases h with
    | tup h1 h2 => exact .tup (Evl.ex_t rl.g h1) (Vws.dp rl q h2)
  | _, _, _, .lst q, h => by
    cases h with
    | lst h1 h2 => exact .lst (Evl.ex_l rl.g h1) (Vws.dp rl q h2)
  | _, _, _, .ref e q, h => by
    cases h
    obtain ⟨vs, h1, h2⟩ := rl.lst e
    exact .lst (SqL.of h1) (Vws.dp rl q h2)
theorem Vws.dp {G : Hp} {O : Om} {H : Hp} (rl : Rel K G O H) : ∀ {xs : List D} {ds : List PyData} {vs : List V}, Vws O xs ds → VRs K G vs xs → DpAll K H vs ds
  | _, _, _, .nil, h => by cases h; exact .nil
  | _, _, _, .cons q r, h => by
    cases h with
    | cons h1 h2 => exact .cons (Vw.dp rl q h1) (Vws.dp rl r h2)
end
def dEqD (n : Bool) : D2 := fun x y O R => ∃ d e, Vw O x d ∧ Vw O y e ∧ SeqAt.shaped d = true ∧ SeqAt.shaped e = true ∧ R (.bl (PyData.eqv d e != n)) O
def dEq : D2 := fun x y O R => match x, y with
  | .int i, .int j => R (.bl (decide (i = j))) O
  | .str i, .str j => R (.bl (decide (i = j))) O
  | .bl i, .bl j => R (.bl (decide (i = j))) O
  | x, y => dEqD false x y O R
def dNe : D2 := fun x y O R => match x, y with
  | .int i, .int j => R (.bl (!decide (i = j))) O
  | .str i, .str j => R (.bl (!decide (i = j))) O
  | .bl i, .bl j => R (.bl (!decide (i = j))) O
  | x, y => dEqD true x y O R
theorem dec_inj {A B : Type} [DecidableEq A] [DecidableEq B] {f : A → B} (hf : ∀ x y, f x = f y → x = y) (x y : A) : decide (f x = f y) = decide (x = y) := by
  rw [Bool.eq_iff_iff]
  simp only [decide_eq_true_eq]
  exact ⟨hf x y, fun e => by rw [e]⟩
theorem sEqD : OpS K (rEqD K) (dEqD false) := fun {G O H x y v u R Q} rl hx hy h k => by
  obtain ⟨d, e, h1, h2, h3, h4, h5⟩ := h
  exact ⟨d, e, h1.dp rl hx, h2.dp rl hy, h3, h4, k.here rl (.bl _) (by simpa using h5)⟩
theorem sNeD : OpS K (rNeD K) (dEqD true) := fun {G O H x y v u R Q} rl hx hy h k => by
  obtain ⟨d, e, h1, h2, h3, h4, h5⟩ := h
  exact ⟨d, e, h1.dp rl hx, h2.dp rl hy, h3, h4, k.here rl (.bl _) (by simpa using h5)⟩
abbrev rEqA (K : PySem.W.Frag) : R2 := fun x y H Q => rEq x y H Q ∨ rEqD K x y H Q
abbrev rNeA (K : PySem.W.Frag) : R2 := fun x y H Q => rNe x y H Q ∨ rNeD K x y H Q
theorem sEq : OpS K (rEqA K) dEq := fun {G O H x y v u R Q} rl hx hy h k => by
  have fb : dEqD false x y O R → rEqA K v u H Q := fun h => .inr (sEqD rl hx hy h k)
  cases hx with
  | int i => cases hy with
    | int j => exact .inl ⟨rfl, by rw [dec_inj (f := V.int) (fun _ _ e => by cases e; rfl)]; exact k.here rl (.bl _) h⟩
    | _ => exact fb h
  | str i => cases hy with
    | str j => exact .inl ⟨rfl, by rw [dec_inj (f := V.str) (fun _ _ e => by cases e; rfl)]; exact k.here rl (.bl _) h⟩
    | _ => exact fb h
  | bl i => cases hy with
    | bl j => exact .inl ⟨rfl, by rw [dec_inj (f := V.bl) (fun _ _ e => by cases e; rfl)]; exact k.here rl (.bl _) h⟩
    | _ => exact fb h
  | _ => cases hy <;> exact fb h
theorem sNe : OpS K (rNeA K) dNe := fun {G O H x y v u R Q} rl hx hy h k => by
  have fb : dEqD true x y O R → rNeA K v u H Q := fun h => .inr (sNeD rl hx hy h k)
  cases hx with
  | int i => cases hy with
    | int j => exact .inl ⟨rfl, by rw [dec_inj (f := V.int) (fun _ _ e => by cases e; rfl)]; exact k.here rl (.bl _) h⟩
    | _ => exact fb h
  | str i => cases hy with
    | str j => exact .inl ⟨rfl, by rw [dec_inj (f := V.str) (fun _ _ e => by cases e; rfl)]; exact k.here rl (.bl _) h⟩
    | _ => exact fb h
  | bl i => cases hy with
    | bl j => exact .inl ⟨rfl, by rw [dec_inj (f := V.bl) (fun _ _ e => by cases e; rfl)]; exact k.here rl (.bl _) h⟩
    | _ => exact fb h
  | _ => cases hy <;> exact fb h
theorem opEq {k : Nat} (hr : Room k X.A) : OpR X (compareOp .Eq) (rEqA X.K) := OpR.or op_eq (op_eqD (by have := hr.un; omega))
theorem opNe {k : Nat} (hr : Room k X.A) : OpR X (compareOp .NotEq) (rNeA X.K) := OpR.or op_ne (op_neD (by have := hr.un; omega))
def isNon : D → Bool
  | .non => true
  | _ => false
def dIsN : D2 := fun x y O R => match y with | .non => R (.bl (isNon x)) O | _ => False
def dNotN : D2 := fun x y O R => match y with | .non => R (.bl (!isNon x)) O | _ => False
theorem isNon_vr {G : Hp} {v : V} {x : D} (h : VR K G v x) : decide (v = .non) = isNon x := by
  cases h <;> first | rfl | exact decide_eq_false (fun z => by cases z)
theorem sIsN : OpS K (fun x y H Q => y = .non ∧ Q (.bl (decide (x = .non))) H) dIsN := fun {G O H x y v u R Q} rl hx hy h k => by
  cases hy <;> first | exact h.elim | exact ⟨rfl, by rw [isNon_vr hx]; exact k.here rl (.bl _) h⟩
def dIx : D2 := fun x y O R => match y with
  | .int i => (match x with
    | .str z => z.length ≤ sizeLine ∧ (match atI z.cps.toList i with | some c => R (.str ⟨#[c]⟩) O | none => False)
    | x => (match seqOf O x with | some xs => (match atI xs i with | some z => R z O | none => False) | none => False))
  | _ => False
theorem atI_vr {G : Hp} {vs : List V} {xs : List D} {i : Int} {z : D} (h : VRs K G vs xs) (e : atI xs i = some z) : ∃ v, atI vs i = some v ∧ VR K G v z := by
  unfold atI at e ⊢
  rw [h.length]
  cases q : ixN xs.length i with
  | none => rw [q] at e; cases e
  | some j =>
    rw [q] at e
    exact h.get e
theorem sIx : OpS K (rIx K) dIx := fun {G O H x y v u R Q} rl hx hy h k => by
  cases hy with
  | int i =>
    have gen : (match seqOf O x with | some xs => (match atI xs i with | some z => R z O | none => False) | none => False) → rIx K v (.int i) H Q := fun h => by
      cases e : seqOf O x with
      | none => simp only [e] at h
      | some xs =>
        simp only [e] at h
        cases e2 : atI xs i with
        | none => simp only [e2] at h
        | some z =>
          simp only [e2] at h
          obtain ⟨a, vs, rfl, hq, hv⟩ := rl.seqOf hx e
          obtain ⟨w, hw, hz⟩ := atI_vr hv e2
          rcases hq with hq | hq
          · exact .inl ⟨a, vs, i, w, rfl, rfl, hq, hw, k.here rl hz h⟩
          · exact .inr (.inl ⟨a, vs, i, w, rfl, rfl, hq, hw, k.here rl hz h⟩)
    cases hx with
    | str z =>
      obtain ⟨h1, h⟩ := h
      cases e : atI z.cps.toList i with
      | none => simp only [e] at h
      | some c => simp only [e] at h; exact .inr (.inr ⟨z, i, c, rfl, rfl, h1, e, k.here rl (.str _) h⟩)
    | _ => exact gen h
  | _ => exact h.elim
theorem e_ixS (ha : PE X a (lowE X.K ta)) (hb : PE X b (lowE X.K tb)) (hs : PlainIx b := by exact fun _ _ => rfl) : PE X (.Subscript a b pos) (lowE X.K (dOp dIx ta tb)) := e_ix ix_seq sIx ha hb hs
abbrev DOp := Gm → Om → (Option Int → Om → Prop) → Prop
def dNoPart : DOp := fun _ O R => R none O
def dPart (t : DE) : DOp := fun g O R => t g O fun x O1 => match x with | .int i => R (some i) O1 | _ => False
def lowO (K : PySem.W.Frag) (t : DOp) : TO := fun s H Q => ∃ (G : Hp) (O : Om) (g : Gm) (R : Option Int → Om → Prop), Rel K G O H ∧ GR K G s g ∧ t g O R ∧ ∀ b O' G' H', Go K G O H G' O' H' → R b O' → Q b H'
theorem PO.by {X : Cx} {e : Option Expr} {t t' : TO} (h : PO X e t) (k : ∀ s H Q, t' s H Q → t s H Q) : PO X e t' := ⟨fun pins s σ H Q I q => h.run pins s σ H Q I (k σ H Q q)⟩
theorem o_none : PO X none (lowO X.K dNoPart) := PO.by po_none fun s H Q ⟨G, O, g, R, rl, gr, h, k⟩ => k _ _ _ _ (Go.refl rl) h
theorem o_some (ha : PE X a (lowE X.K ta)) : PO X (some a) (lowO X.K (dPart ta)) := PO.by (po_some ha) fun s H Q ⟨G, O, g, R, rl, gr, h, k⟩ => ⟨G, O, g, _, rl, gr, h, fun x O1 v G1 H1 go1 vr1 q1 => by
  cases vr1 <;> first | exact q1.elim | exact ⟨_, rfl, k _ _ _ _ go1 q1⟩⟩
def cutD (xs : List D) (lo hi : Option Int) : List D := (xs.drop (HT.sIx xs.length 0 lo)).take (HT.sIx xs.length xs.length hi - HT.sIx xs.length 0 lo)
theorem cut_vr {G : Hp} {vs : List V} {xs : List D} {lo hi : Option Int} (h : VRs K G vs xs) : VRs K G (cutV vs lo hi) (cutD xs lo hi) := by
  unfold cutV cutD
  rw [h.length]
  exact (h.drop _).take _
def dSl (te : DE) (tl th : DOp) : DE := fun g O R => te g O fun x O1 => tl g O1 fun l O2 => th g O2 fun u O3 => match x with
  | .str z => z.length ≤ sizeLine ∧ R (.str (cutS z l u)) O3
  | .tup xs => R (.tup (cutD xs l u)) O3
  | x => match lstOf O3 x with | some xs => ∀ p, O3 p = none → R (.ref p) (up O3 p (.lst (cutD xs l u))) | none => False
theorem e_slice {lo hi : Option Expr} {tl th : DOp} {p2 : Pos} (he : PE X a (lowE X.K ta)) (hl : PO X lo (lowO X.K tl)) (hu : PO X hi (lowO X.K th)) : PE X (.Subscript a (.Slice lo hi none p2) pos) (lowE X.K (dSl ta tl th)) :=
  PE.by (pe_slice (SlR.or sl_list (SlR.or sl_tupA sl_str)) he hl hu) fun s H Q ⟨G, O, g, R, rl, gr, h, k⟩ => ⟨G, O, g, _, rl, gr, h, fun x O1 v G1 H1 go1 vr1 q1 => ⟨G1, O1, g, _, go1.rel, gr.mono go1.ex, q1, fun l O2 G2 H2 go2 q2 =>
    ⟨G2, O2, g, _, go2.rel, gr.mono (go1.ex.trans go2.ex), q2, fun u O3 G3 H3 go3 q3 => by
      have g13 := (go1.trans rl go2).trans rl go3
      have bk : Bk X.K G3 O3 H3 R Q := fun x O4 v G4 H4 go4 vr q4 => k _ _ _ _ _ (g13.trans rl go4) vr q4
      have vr3 := vr1.mono (go2.ex.trans go3.ex)
      have gen : (match lstOf O3 x with | some xs => ∀ p, O3 p = none → R (.ref p) (up O3 p (.lst (cutD xs l u))) | none => False) → rSlL X.K v l u H3 Q := fun h => by
        cases e : lstOf O3 x with
        | none => simp only [e] at h
        | some xs =>
          simp only [e] at h
          obtain ⟨a, vs, rfl, hq, hv⟩ := go3.rel.lstOf vr3 e
          exact ⟨a, vs, rfl, hq, bk.lst go3.rel (cut_vr hv) h⟩
      cases vr3 with
      | str z => exact .inr (.inr ⟨z, rfl, q3.1, bk.here go3.rel (.str _) q3.2⟩)
      | tup h1 h2 =>
        refine .inr (.inl ⟨_, _, rfl, Evl.ex_t go3.rel.g h1, fun hw => ?_, fun _ => bk.tup go3.rel (cut_vr h2) q3⟩)
        rename_i aa vs ds
        have q3' : R (.tup (cutD ds l u)) O3 := q3
        have hc : cutD ds l u = ds := by
          unfold cutD
          rw [← h2.length, hw.1, hw.2, List.drop_zero, Nat.sub_zero, h2.length, List.take_length]
        rw [hc] at q3'
        exact bk.here go3.rel (.tup h1 h2) q3'
      | _ => exact .inl (gen q3)⟩⟩⟩
def dCB (d : DC) (t : DA) : DE := fun g O R => t g O fun xs O1 => d xs O1 R
theorem low_cb {K : PySem.W.Frag} {n : Nat} {r : List V → Hp → VK → Prop} {d : DC} {t : DA} (hr : CaS K r d) : ∀ s H Q, lowE K (dCB d t) s H Q → tCB r (lowA K n t) s H Q := fun s H Q ⟨G, O, g, R, rl, gr, h, k⟩ =>
  ⟨G, O, g, _, rl, gr, h, fun xs O1 vs G1 H1 go1 vr1 hl q1 => hr go1.rel vr1 q1 fun z O3 w G3 H3 go3 vr3 q3 => k z O3 w G3 H3 (go1.trans rl go3) vr3 q3⟩
variable {x : Str} {p : Pos} {e : Expr} {es : List Expr} {t : DA} {id T : String} {r : List V → Hp → VK → Prop} {d : DC} {n : Nat}
theorem e_callB (hc : CallR X (.builtin id) r) (hr : CaS X.K r d) (hm : X.mg x = none) (hv : bootBuiltins x = some (.builtin id)) (ha : PA X (e :: es) (lowA X.K n t)) (hg : Gl X x := by rfl) (hn : x ≠ "__name__" := by decide) (hdb : (x == ("__debug__" : Str)) = false := by decide)
    (he : starEach (e :: es) X.env = (false, eval e X.env) :: starEach es X.env := by rfl) (hpl : (backTo pos (starEach es X.env)).any (·.1) = false := by rfl) : PE X (.Call (.Name x p) (e :: es) [] pos) (lowE X.K (dCB d t)) := PE.by (pe_callB hc hg hm hv ha hn hdb he hpl) (low_cb hr)
theorem e_callTy (hc : CallR X (.type T) r) (hr : CaS X.K r d) (hm : X.mg x = none) (hv : bootBuiltins x = some (.type T)) (ha : PA X (e :: es) (lowA X.K n t)) (hg : Gl X x := by rfl) (hn : x ≠ "__name__" := by decide) (hdb : (x == ("__debug__" : Str)) = false := by decide)
    (he : starEach (e :: es) X.env = (false, eval e X.env) :: starEach es X.env := by rfl) (hpl : (backTo pos (starEach es X.env)).any (·.1) = false := by rfl) : PE X (.Call (.Name x p) (e :: es) [] pos) (lowE X.K (dCB d t)) := PE.by (pe_callTy hc hg hm hv ha hn hdb he hpl) (low_cb hr)
theorem e_bltn {x : Str} {v : V} {u : Value} {d : D} {pos : Pos} (hm : X.mg x = none) (hv : bootBuiltins x = some u) (r : RelV v u) (hvr : ∀ G, VR X.K G v d) (hg : Gl X x := by rfl) (hn : x ≠ "__name__" := by decide) (hd : (x == ("__debug__" : Str)) = false := by decide) : PE X (.Name x pos) (lowE X.K (dC d)) :=
  PE.by (pe_bltn hg hm hv r hn hd) (low_c hvr)
/-- len -/
def dLen : DC := fun xs O R => match xs with
  | [x] => (match x with
    | .str y => y.length ≤ sizeLine ∧ R (.int (y.length : Nat)) O
    | .ref a => (match O a with | some (.lst xs) => R (.int (xs.length : Nat)) O | some (.dK kvs) => R (.int (kvs.length : Nat)) O | _ => False)
    | .tup xs => R (.int (xs.length : Nat)) O
    | .lst xs => R (.int (xs.length : Nat)) O
    | _ => False)
  | _ => False
abbrev rLenA (K : PySem.W.Frag) : List V → Hp → VK → Prop := fun xs H Q => (∃ x n, xs = [x] ∧ LenV K x H n ∧ Q (.int n) H) ∨ (∃ a kvs, xs = [V.ref a] ∧ H a = some (.dK kvs) ∧ Q (.int kvs.length) H)
theorem callLen : CallR X (.builtin "len") (rLenA X.K) := CallR.or call_len call_lenD
theorem sLen : CaS K (rLenA K) dLen := fun {G O H xs vs R Q} rl hv h k => by
  match xs, hv, h with
  | [x], hv, h =>
    obtain ⟨v, rfl, hw⟩ := hv.one
    cases hw with
    | str y => exact .inl ⟨_, _, rfl, ⟨h.1, rfl⟩, k.here rl (.int _) h.2⟩
    | tup h1 h2 => exact .inl ⟨_, _, rfl, .inr ⟨_, Evl.ex_t rl.g h1, rfl⟩, k.here rl (.int _) (by rw [h2.length]; exact h)⟩
    | lst h1 h2 => exact .inl ⟨_, _, rfl, .inl ⟨_, Evl.ex_l rl.g h1, rfl⟩, k.here rl (.int _) (by rw [h2.length]; exact h)⟩
    | ref a =>
      have h : (match O a with | some (.lst xs) => R (.int (xs.length : Nat)) O | some (.dK kvs) => R (.int (kvs.length : Nat)) O | _ => False) := h
      cases e : O a with
      | none => simp only [e] at h
      | some o =>
        cases o with
        | lst xs =>
          simp only [e] at h
          obtain ⟨vs, h1, h2⟩ := rl.lst e
          exact .inl ⟨_, _, rfl, .inl ⟨_, SqL.of h1, rfl⟩, k.here rl (.int _) (by rw [h2.length]; exact h)⟩
        | dK kvs =>
          simp only [e] at h
          obtain ⟨_, u, hu, q⟩ := rl.o _ _ e
          cases u with
          | dK ks =>
            refine .inr ⟨a, ks, rfl, hu, k.here rl (.int _) ?_⟩
            have hl : ks.length = kvs.length := Paired.length (show PR K G ks kvs from q)
            rw [hl]; exact h
          | _ => exact False.elim q
        | _ => simp only [e] at h
    | _ => exact False.elim h
/-- abs -/
def dAbs : DC := fun xs O R => match xs with | [.int i] => R (.int (if i < 0 then -i else i)) O | _ => False
/-- list(x), tuple(x) -/
def dList : DC := fun xs O R => match xs with | [x] => (match seqOf O x with | some ys => ∀ p, O p = none → R (.ref p) (up O p (.lst ys)) | none => False) | _ => False
theorem sList : CaS K (fun xs H Q => ∃ p ys, xs = [.ref p] ∧ (SqL K H p ys ∨ SqT K H p ys) ∧ ∀ l, H l = none → Q (.ref l) (upd H l (.lst ys))) dList := fun {G O H xs vs R Q} rl hv h k => by
  match xs, hv, h with
  | [x], hv, h =>
    obtain ⟨v, rfl, hw⟩ := hv.one
    have h : (match seqOf O x with | some ys => ∀ p, O p = none → R (.ref p) (up O p (.lst ys)) | none => False) := h
    cases e : seqOf O x with
    | none => simp only [e] at h
    | some ys =>
      simp only [e] at h
      obtain ⟨a, vs, rfl, hq, hv2⟩ := rl.seqOf hw e
      exact ⟨a, vs, rfl, hq, k.lst rl hv2 h⟩
def dTuple : DC := fun xs O R => match xs with | [x] => (match seqOf O x with | some ys => R (.tup ys) O | none => False) | _ => False
/-- bools of a row, ints of a row -/
def blsOf : List D → Option (List Bool)
  | [] => some []
  | .bl b :: r => (blsOf r).map (b :: ·)
  | _ => none
def intsOf : List D → Option (List Int)
  | [] => some []
  | .int b :: r => (intsOf r).map (b :: ·)
  | _ => none
theorem blsOf_eq : ∀ {xs : List D} {bs : List Bool}, blsOf xs = some bs → xs = bs.map D.bl
  | [], _, h => by cases h; rfl
  | .bl b :: r, _, h => by
    unfold blsOf at h
    cases e : blsOf r with
    | none => rw [e] at h; cases h
    | some bs => rw [e] at h; cases h; rw [blsOf_eq e]; rfl
  | .non :: _, _, h => by cases h
  | .int _ :: _, _, h => by cases h
  | .str _ :: _, _, h => by cases h
  | .tup _ :: _, _, h => by cases h
  | .lst _ :: _, _, h => by cases h
  | .ref _ :: _, _, h => by cases h
  | .ty _ :: _, _, h => by cases h
  | .ptup _ :: _, _, h => by cases h
theorem blsOf_map (bs : List Bool) : blsOf (bs.map D.bl) = some bs := by
  induction bs with
  | nil => rfl
  | cons b bs ih => show (blsOf (bs.map D.bl)).map (b :: ·) = _; rw [ih]; rfl
def dBls (f : List Bool → Bool) : DC := fun xs O R => match xs with | [x] => (match lstOf O x with | some ys => (match blsOf ys with | some bs => R (.bl (f bs)) O | none => False) | none => False) | _ => False
theorem sBls {f : List Bool → Bool} : CaS K (fun vs H Q => ∃ (a : Addr) (bs : List Bool), vs = [V.ref a] ∧ SqL K H a (bs.map V.bl) ∧ Q (.bl (f bs)) H) (dBls f) := fun {G O H xs vs R Q} rl hv h k => by
  match xs, hv, h with
  | [x], hv, h =>
    obtain ⟨v, rfl, hw⟩ := hv.one
    have h : (match lstOf O x with | some ys => (match blsOf ys with | some bs => R (.bl (f bs)) O | none => False) | none => False) := h
    cases e : lstOf O x with
    | none => simp only [e] at h
    | some ys =>
      simp only [e] at h
      cases e2 : blsOf ys with
      | none => simp only [e2] at h
      | some bs =>
        simp only [e2] at h
        obtain ⟨a, vs, rfl, hq, hv2⟩ := rl.lstOf hw e
        rw [blsOf_eq e2] at hv2
        exact ⟨a, bs, rfl, by rw [← hv2.bls]; exact hq, k.here rl (.bl _) h⟩
theorem callAll (hc : X.calm = true) : CallR X (.builtin "all") (fun vs H Q => ∃ (a : Addr) (bs : List Bool), vs = [V.ref a] ∧ SqL X.K H a (bs.map V.bl) ∧ Q (.bl (bs.all (fun b => b))) H) := cr_all hc
def dSum : DC := fun xs O R => match xs with | [x] => (match lstOf O x with | some ys => (match intsOf ys with | some bs => R (.int bs.sum) O | none => False) | none => False) | _ => False
inductive Ct where
  | non | bl | int | str | tup | lst | dct
  deriving DecidableEq
def Ct.name : Ct → String
  | .non => "NoneType" | .bl => "bool" | .int => "int" | .str => "str" | .tup => "tuple" | .lst => "list" | .dct => "dict"
def isC : Ct → Ct → Bool
  | .bl, .int => true
  | .non, .non => true | .bl, .bl => true | .int, .int => true | .str, .str => true | .tup, .tup => true | .lst, .lst => true | .dct, .dct => true
  | _, _ => false
def dtOf (O : Om) : D → Option Ct
  | .non => some .non
  | .bl _ => some .bl
  | .int _ => some .int
  | .str _ => some .str
  | .tup _ => some .tup
  | .lst _ => some .lst
  | .ref a => (match O a with | some (.lst _) => some .lst | some (.dK _) => some .dct | some (.dT _) => some .dct | _ => none)
  | .ty _ => none
  | .ptup _ => none
theorem isC_ok : ∀ (t c : Ct), c ≠ .non → kitB t.name c.name = some (isC t c) := by
  intro t c h
  cases c <;> first | exact absurd rfl h | (cases t <;> decide +kernel)
theorem dtOf_ok {G : Hp} {O : Om} {H : Hp} (rl : Rel K G O H) {v : V} {x : D} {t : Ct} (hv : VR K G v x) (h : dtOf O x = some t) : TyX K H v (.type t.name) := by
  cases hv with
  | non => cases h; exact .base .non
  | bl b => cases h; exact .base (.bl b)
  | int b => cases h; exact .base (.int b)
  | str b => cases h; exact .base (.str b)
  | ty b => cases h
  | ptup _ _ => cases h
  | tup h1 h2 =>
    cases h
    rcases Evl.ex_t rl.g h1 with (q | ⟨o, q⟩) | ⟨o, its, n, q, c, _⟩
    · exact .base (.tup q)
    · exact .fTuple q
    · exact .kTuple q c
  | lst h1 h2 =>
    cases h
    rcases Evl.ex_l rl.g h1 with (q | ⟨o, q⟩) | ⟨o, its, n, q, c, _⟩
    · exact .base (.lst q)
    · exact .base (.frz q)
    · exact .kList q c
  | ref a =>
    have h : (match O a with | some (.lst _) => some Ct.lst | some (.dK _) => some Ct.dct | some (.dT _) => some Ct.dct | _ => none) = some t := h
    cases e : O a with
    | none => rw [e] at h; cases h
    | some o =>
      obtain ⟨_, u, hu, q⟩ := rl.o _ _ e
      cases o with
      | lst xs => rw [e] at h; cases h; cases u <;> first | exact q.elim | exact .base (.lst hu)
      | dK xs => rw [e] at h; cases h; cases u <;> first | exact q.elim | exact .base (.dK hu)
      | dT xs => rw [e] at h; cases h; cases u <;> first | exact q.elim | exact .base (.dT hu)
      | _ => rw [e] at h; cases h
def dIsi (c : Ct) : D1 := fun x O R => match dtOf O x with | some t => R (.bl (isC t c)) O | none => False
def dIsi2 (c c' : Ct) : D1 := fun x O R => match dtOf O x with | some t => R (.bl (isC t c || isC t c')) O | none => False
theorem e_isi (c : Ct) (hc : c ≠ .non) {te : DE} {b : Expr} (hm : X.mg "isinstance" = none) (he : PE X e (lowE X.K te)) (hb : PE X b (lowE X.K (dC (.ty c.name)))) (hg : Gl X "isinstance" := by rfl) (hs : starEach [e, b] X.env = (false, eval e X.env) :: starEach [b] X.env := by rfl) (hs2 : starEach [b] X.env = (false, eval b X.env) :: starEach [] X.env := by rfl) (hpl : (backTo pos (starEach [b] X.env)).any (·.1) = false := by rfl) :
    PE X (.Call (.Name "isinstance" p) [e, b] [] pos) (lowE X.K (dUn (dIsi c) te)) := PE.by (pe_callB call_isi hg hm PyProof.Rows.boot_isinstance (pa_cons he (pa_cons hb pa_nil hs2) hs) (by decide) (by decide) hs hpl) fun s H Q ⟨G, O, g, R, rl, gr, h, k⟩ =>
  ⟨G, O, g, _, rl, gr, h, fun x O1 v G1 H1 go1 vr1 q1 => ⟨G1, O1, g, fun y O2 => y = .ty c.name ∧ O2 = O1, go1.rel, gr.mono go1.ex, ⟨rfl, rfl⟩, fun y O2 u G2 H2 go2 vr2 q2 => by
    obtain ⟨rfl, rfl⟩ := q2
    cases vr2
    have q1 : (match dtOf O2 x with | some t => R (.bl (isC t c)) O2 | none => False) := q1
    cases e : dtOf O2 x with
    | none => simp only [e] at q1
    | some t =>
      simp only [e] at q1
      exact ⟨v, .ty c.name, _, _, _, rfl, .ty _, dtOf_ok go2.rel (vr1.mono go2.ex) e, kit_ty (isC_ok t c hc), k _ _ _ _ _ (go1.trans rl go2) (.bl _) q1⟩⟩⟩
theorem e_isi2 (c c' : Ct) (hc : c ≠ .non) (hc' : c' ≠ .non) {te : DE} {b b' : Expr} {kk : Nat} {tp : Pos} (hm : X.mg "isinstance" = none) (he : PE X e (lowE X.K te)) (hb : PE X b (lowE X.K (dC (.ty c.name)))) (hb' : PE X b' (lowE X.K (dC (.ty c'.name)))) (hg : Gl X "isinstance" := by rfl)
    (hs : starEach [e, .Tuple [b, b'] kk tp] X.env = (false, eval e X.env) :: starEach [.Tuple [b, b'] kk tp] X.env := by rfl) (hs2 : starEach [.Tuple [b, b'] kk tp] X.env = (false, eval (.Tuple [b, b'] kk tp) X.env) :: starEach [] X.env := by rfl) (hpl : (backTo pos (starEach [.Tuple [b, b'] kk tp] X.env)).any (·.1) = false := by rfl)
    (hs3 : starEach [b, b'] X.env = (false, eval b X.env) :: starEach [b'] X.env := by rfl) (hs4 : starEach [b'] X.env = (false, eval b' X.env) :: starEach [] X.env := by rfl) :
    PE X (.Call (.Name "isinstance" p) [e, .Tuple [b, b'] kk tp] [] pos) (lowE X.K (dUn (dIsi2 c c') te)) := PE.by (pe_callB call_isiT hg hm PyProof.Rows.boot_isinstance (pa_cons he (pa_cons (pe_tup (pa_cons hb (pa_cons hb' pa_nil hs4) hs3)) pa_nil hs2) hs) (by decide) (by decide) hs hpl) fun s H Q ⟨G, O, g, R, rl, gr, h, k⟩ =>
  ⟨G, O, g, _, rl, gr, h, fun x O1 v G1 H1 go1 vr1 q1 => ⟨G1, O1, g, fun y O2 => y = .ty c.name ∧ O2 = O1, go1.rel, gr.mono go1.ex, ⟨rfl, rfl⟩, fun y O2 u G2 H2 go2 vr2 q2 => by
    obtain ⟨rfl, rfl⟩ := q2
    cases vr2
    refine ⟨G2, O2, g, fun y O3 => y = .ty c'.name ∧ O3 = O2, go2.rel, gr.mono (go1.ex.trans go2.ex), ⟨rfl, rfl⟩, fun y O3 u G3 H3 go3 vr3 q3 => ?_⟩
    obtain ⟨rfl, rfl⟩ := q3
    cases vr3
    refine ⟨by show 2 ≤ sizeLine; decide, fun tp hp => ?_⟩
    have q1 : (match dtOf O3 x with | some t => R (.bl (isC t c || isC t c')) O3 | none => False) := q1
    have gd := Go.data go3.rel (u := .tup [.ty c.name, .ty c'.name]) hp
    have g13 := ((go1.trans rl go2).trans rl go3).trans rl gd
    cases e : dtOf O3 x with
    | none => simp only [e] at q1
    | some t =>
      simp only [e] at q1
      refine ⟨v, tp, _, _, [.type c.name, .type c'.name], _, rfl, upd_same, .cons (.ty _) (.cons (.ty _) .nil), dtOf_ok gd.rel (((vr1.mono go2.ex).mono go3.ex).mono gd.ex) e, ?_, k _ _ _ _ _ g13 (.bl _) q1⟩
      have k1 : PySem.W.kitOne X.K (.type t.name) (.type c.name) = some (isC t c) := kit_ty (isC_ok t c hc)
      have k2 : PySem.W.kitOne X.K (.type t.name) (.type c'.name) = some (isC t c') := kit_ty (isC_ok t c' hc')
      cases e1 : isC t c with
      | true => exact kitAny_cons k1 (fun z => by rw [e1] at z; cases z) fun _ => rfl
      | false =>
        refine kitAny_cons k1 (fun _ => ?_) fun z => by rw [e1] at z; cases z
        cases e2 : isC t c' with
        | true => exact kitAny_cons k2 (fun z => by rw [e2] at z; cases z) fun _ => rfl
        | false => exact kitAny_cons k2 (fun _ => kitAny_nil) fun z => by rw [e2] at z; cases z⟩⟩
end
end DL
set_option Elab.async false
set_option linter.all false
set_option maxRecDepth 100000
set_option maxHeartbeats 2000000
namespace DL
open PySem PySem.Spec PyProof.Rows L2
open Evl (Ex)
def spBot : DSp := fun _ _ _ _ => False
theorem okBot {P : Program} {w : World} {K : PySem.W.Frag} {mg : Str → Option Value} {base : Heap} {k : Nat} {f : Addr} {fd : FuncData} {ps : List Str} : FnOk P w K mg base CX0 k f fd ps (toSp K spBot) :=
  ⟨fun _ _ _ _ ⟨_, _, _, _, _, _, _, h, _⟩ => h.elim, fun _ _ _ _ _ _ _ _ _ _ _ _ _ ⟨_, _, _, _, _, _, _, h, _⟩ => h.elim⟩
/-- a def of the text, and its promise -/
structure Df (P : Program) (w : World) (K : PySem.W.Frag) (mg : Str → Option Value) (base : Heap) (k : Nat) (st : Stmt) (x : Str) (ps : List Str) (dvs : List V) (kws : List (Str × V)) (dsp : DSp) (f : Addr) (fd : FuncData) : Prop where
  fn : FunD K x x (defArgs st) (defBody st) (defScope st) dvs kws f fd
  ok : FnOk P w K mg base CX0 k f fd ps (toSp K dsp)
  mg : mg x = some (.ref f)
end DL
set_option Elab.async false
set_option linter.all false
set_option maxRecDepth 100000
set_option maxHeartbeats 2000000
namespace DL
open PySem PySem.Spec PyProof.Rows L2
open Evl (Ex)
section
variable {X : Cx} {K : PySem.W.Frag} {a b c : Expr} {ta tb tc : DE} {pos : Pos}
abbrev DM := D → List D → Om → (D → Om → Prop) → Prop
def MtS (K : PySem.W.Frag) (r : V → List V → Hp → VK → Prop) (d : DM) : Prop := ∀ {G O H x xs v vs R Q}, Rel K G O H → VR K G v x → VRs K G vs xs → d x xs O R → Bk K G O H R Q → r v vs H Q
def isL (O : Om) (x : D) : Prop := (lstOf O x).isSome = true
def dLM (d : DM) (to : DE) (t : DA) : DE := fun g O R => to g O fun x O1 => isL O1 x ∧ t g O1 fun xs O2 => d x xs O2 R
def dLM0 (d : DM) (to : DE) : DE := fun g O R => to g O fun x O1 => isL O1 x ∧ d x [] O1 R
theorem tyV_list {G : Hp} {O : Om} {H : Hp} {v : V} {x : D} (rl : Rel K G O H) (hv : VR K G v x) (h : isL O x) : tyV K "list" v H := by
  unfold isL at h
  cases e : lstOf O x with
  | none => rw [e] at h; cases h
  | some xs =>
    obtain ⟨a, vs, rfl, hq, _⟩ := rl.lstOf hv e
    exact .inl ⟨rfl, vs, hq⟩
theorem e_lm {o e : Expr} {es : List Expr} {to : DE} {t : DA} {n : Nat} {name : Str} {apos cpos : Pos} {id : String} {r : V → List V → Hp → VK → Prop} {d : DM} (slot : PySem.Slot "list" name id) (hty : typeOf (.builtin id) = pure (.type "method_descriptor")) (hm : MtM X id r) (hr : MtS X.K r d)
    (ho : PE X o (lowE X.K to)) (ha : PA X (e :: es) (lowA X.K n t)) (hb : attributeBase o name X.env (eval o X.env) = eval o X.env := by rfl)
    (hst : ((((backTo cpos (starEach (e :: es) X.env)).all fun x => !x.fst) && (backToKw cpos (keywordEach [] X.env)).all fun x => x.fst.isSome) && decide (((e :: es).length + ([] : List Keyword).length + if ([] : List Keyword).isEmpty = true then 0 else 1) < 30)) = true := by rfl)
    (hl : (apos.endLine == cpos.line) = true := by rfl) (he : starEach (e :: es) X.env = (false, eval e X.env) :: starEach es X.env := by rfl) (hpl : ((backTo cpos (starEach es X.env)).any fun x => x.fst) = false := by rfl) :
    PE X (.Call (.Attribute o name apos) (e :: es) [] cpos) (lowE X.K (dLM d to t)) :=
  PE.by (pe_bm PySem.F.plainAttrs_list slot hty hm ho ha hb hst hl he hpl) fun s H Q ⟨G, O, g, R, rl, gr, h, k⟩ =>
    ⟨G, O, g, _, rl, gr, h, fun x O1 v G1 H1 go1 vr1 q1 => ⟨tyV_list go1.rel vr1 q1.1, G1, O1, g, _, go1.rel, gr.mono go1.ex, q1.2, fun xs O2 vs G2 H2 go2 vr2 hl q2 =>
      hr go2.rel (vr1.mono go2.ex) vr2 q2 fun z O3 w G3 H3 go3 vr3 q3 => k z O3 w G3 H3 ((go1.trans rl go2).trans rl go3) vr3 q3⟩⟩
theorem e_lm0 {o : Expr} {to : DE} {name : Str} {apos cpos : Pos} {id : String} {r : V → List V → Hp → VK → Prop} {d : DM} (slot : PySem.Slot "list" name id) (hty : typeOf (.builtin id) = pure (.type "method_descriptor")) (hm : MtM X id r) (hr : MtS X.K r d)
    (ho : PE X o (lowE X.K to)) (hb : attributeBase o name X.env (eval o X.env) = eval o X.env := by rfl) (hl : (apos.endLine == cpos.line) = true := by rfl) :
    PE X (.Call (.Attribute o name apos) [] [] cpos) (lowE X.K (dLM0 d to)) :=
  PE.by (pe_bm0 PySem.F.plainAttrs_list slot hty hm ho hb hl) fun s H Q ⟨G, O, g, R, rl, gr, h, k⟩ =>
    ⟨G, O, g, _, rl, gr, h, fun x O1 v G1 H1 go1 vr1 q1 => ⟨tyV_list go1.rel vr1 q1.1, hr go1.rel vr1 .nil q1.2 fun z O3 w G3 H3 go3 vr3 q3 => k z O3 w G3 H3 (go1.trans rl go3) vr3 q3⟩⟩
def dAppend : DM := fun x vs O R => match x, vs with | .ref a, [y] => (match O a with | some (.lst xs) => xs.length < sizeLine ∧ R .non (up O a (.lst (xs ++ [y]))) | _ => False) | _, _ => False
theorem sAppend : MtS K rAppend dAppend := fun {G O H x xs v vs R Q} rl hx hv h k => by
  match x, xs, hx, hv, h with
  | .ref a, [y], hx, hv, h =>
    cases hx
    obtain ⟨u, rfl, hu⟩ := hv.one
    have h : (match O a with | some (.lst xs) => xs.length < sizeLine ∧ R .non (up O a (.lst (xs ++ [y]))) | _ => False) := h
    cases e : O a with
    | none => simp only [e] at h
    | some o =>
      cases o with
      | lst xs =>
        simp only [e] at h
        obtain ⟨ws, h1, h2⟩ := rl.lst e
        exact ⟨a, ws, u, rfl, rfl, h1, by rw [h2.length]; exact h.1, k _ _ _ _ _ (Go.write rl (o := .lst (xs ++ [y])) (u := .lst (ws ++ [u])) e (h2.append (.cons hu .nil))) .non h.2⟩
      | _ => simp only [e] at h
def dInsert : DM := fun x vs O R => match x, vs with | .ref a, [.int i, y] => (match O a with | some (.lst xs) => (xs.length < sizeLine ∧ 0 ≤ i ∧ i < 2 ^ 63) ∧ R .non (up O a (.lst (xs.take i.toNat ++ [y] ++ xs.drop i.toNat))) | _ => False) | _, _ => False
theorem VRs.dropLast {G : Hp} {xs : List V} {us : List D} (h : VRs K G xs us) : VRs K G xs.dropLast us.dropLast := by
  rw [List.dropLast_eq_take, List.dropLast_eq_take, h.length]
  exact h.take _
def dPop : DM := fun x vs O R => match x, vs with | .ref a, [] => (match O a with | some (.lst xs) => (match xs[xs.length - 1]? with | some y => R y (up O a (.lst xs.dropLast)) | none => False) | _ => False) | _, _ => False
def dPopAt : DM := fun x vs O R => match x, vs with | .ref a, [.int i] => (match O a with | some (.lst xs) => (match seqIndex? i xs.length with | some k => (match xs[k]? with | some y => (-(2 ^ 63) ≤ i ∧ i < 2 ^ 63) ∧ R y (up O a (.lst (xs.eraseIdx k))) | none => False) | none => False) | _ => False) | _, _ => False
theorem e_append {o e : Expr} {to : DE} {t : DA} {apos cpos : Pos} (ho : PE X o (lowE X.K to)) (ha : PA X [e] (lowA X.K 1 t)) (hb : attributeBase o "append" X.env (eval o X.env) = eval o X.env := by rfl)
    (hst : ((((backTo cpos (starEach [e] X.env)).all fun x => !x.fst) && (backToKw cpos (keywordEach [] X.env)).all fun x => x.fst.isSome) && decide (([e].length + ([] : List Keyword).length + if ([] : List Keyword).isEmpty = true then 0 else 1) < 30)) = true := by rfl)
    (hl : (apos.endLine == cpos.line) = true := by rfl) (he : starEach [e] X.env = (false, eval e X.env) :: starEach [] X.env := by rfl) (hpl : ((backTo cpos (starEach [] X.env)).any fun x => x.fst) = false := by rfl) :
    PE X (.Call (.Attribute o "append" apos) [e] [] cpos) (lowE X.K (dLM dAppend to t)) := e_lm PySem.F.slot_list_append PySem.F.type_list_append mt_append sAppend ho ha hb hst hl he hpl
def dRevL (t : DE) : DE := fun g O R => t g O fun x O1 => match lstOf O1 x with | some xs => ∀ p, O1 p = none → R (.ref p) (up O1 p (.lst xs.reverse)) | none => False
def dStr : DC := fun xs O R => match xs with | [.int i] => i.natAbs.log2 < 1920 ∧ R (.str (toString i)) O | [.str z] => R (.str z) O | _ => False
theorem callStr : CallR X (.type "str") (fun xs H Q => (∃ i, xs = [.int i] ∧ i.natAbs.log2 < 1920 ∧ Q (.str (toString i)) H) ∨ (∃ a, xs = [.str a] ∧ Q (.str a) H)) := CallR.or call_str_int SkE.call_str_str
theorem sStr : CaS K (fun xs H Q => (∃ i, xs = [.int i] ∧ i.natAbs.log2 < 1920 ∧ Q (.str (toString i)) H) ∨ (∃ a, xs = [.str a] ∧ Q (.str a) H)) dStr := fun {G O H xs vs R Q} rl hv h k => by
  match xs, hv, h with
  | [.int i], hv, h =>
    obtain ⟨v, rfl, hw⟩ := hv.one
    cases hw
    exact .inl ⟨i, rfl, h.1, k.here rl (.str _) h.2⟩
  | [.str i], hv, h =>
    obtain ⟨v, rfl, hw⟩ := hv.one
    cases hw
    exact .inr ⟨i, rfl, k.here rl (.str _) h⟩
def dFmt : D1 := fun x O R => match x with | .str y => y.length ≤ sizeLine ∧ R (.str y) O | .int i => i.natAbs.log2 < 1920 ∧ R (.str (toString i)) O | _ => False
theorem e_fmt (ha : PE X a (lowE X.K ta)) : PE X (.FormattedValue a (-1) none pos) (lowE X.K (dUn dFmt ta)) :=
  PE.by (pe_fmt ha) fun s H Q ⟨G, O, g, R, rl, gr, h, k⟩ => ⟨G, O, g, _, rl, gr, h, fun x O1 v G1 H1 go1 vr1 q1 => by
    match x, vr1, q1 with
    | .str y, vr1, q1 => cases vr1; exact .inl ⟨y, rfl, q1.1, k _ _ _ _ _ go1 (.str _) q1.2⟩
    | .int i, vr1, q1 => cases vr1; exact .inr ⟨i, rfl, q1.1, k _ _ _ _ _ go1 (.str _) q1.2⟩⟩
def dJs : List DE → Str → DE
  | [], acc => fun _ O R => R (.str acc) O
  | t :: ts, acc => fun g O R => t g O fun x O1 => match x with | .str y => (acc ++ y).length ≤ sizeLine ∧ dJs ts (acc ++ y) g O1 R | _ => False
theorem low_js : ∀ (ts : List DE) (acc : Str) {s : L2.St} {G : Hp} {O : Om} {H : Hp} {g : Gm} {R : D → Om → Prop} {Q : Str → Hp → Prop}, Rel K G O H → GR K G s g → dJs ts acc g O R → (∀ y O' G' H', Go K G O H G' O' H' → R (.str y) O' → Q y H') → tJs (ts.map (lowE K)) acc s H Q
  | [], acc, _, _, _, _, _, _, _, rl, gr, h, k => k _ _ _ _ (Go.refl rl) h
  | t :: ts, acc, _, G, O, _, g, R, _, rl, gr, h, k => ⟨G, O, g, _, rl, gr, h, fun x O1 v G1 H1 go1 vr1 q1 => by
    match x, vr1, q1 with
    | .str y, vr1, q1 => cases vr1; exact ⟨y, rfl, q1.1, low_js ts _ go1.rel (gr.mono go1.ex) q1.2 fun z O2 G2 H2 go2 q2 => k z O2 G2 H2 (go1.trans rl go2) q2⟩⟩
theorem e_joined {v1 v2 : Expr} {rest : List Expr} {ts : List DE} (h : PJ X (v1 :: v2 :: rest) (ts.map (lowE X.K))) : PE X (.JoinedStr (v1 :: v2 :: rest) pos) (lowE X.K (dJs ts Str.empty)) :=
  PE.by (pe_joined h) fun s H Q ⟨G, O, g, R, rl, gr, h, k⟩ => low_js ts Str.empty rl gr h fun y O' G' H' go q => k _ _ _ _ _ go (.str y) q
def dMax2 : DC := fun xs O R => match xs with | [.int i, .int j] => R (.int (if j > i then j else i)) O | [x] => (match lstOf O x with | some ys => (match intsOf ys with | some ns => 0 < ns.length ∧ ∀ m, m ∈ ns → (∀ y, y ∈ ns → y ≤ m) → R (.int m) O | none => False) | none => False) | _ => False
def dMin2 : DC := fun xs O R => match xs with | [.int i, .int j] => R (.int (if j < i then j else i)) O | [x] => (match lstOf O x with | some ys => (match intsOf ys with | some ns => 0 < ns.length ∧ ∀ m, m ∈ ns → (∀ y, y ∈ ns → m ≤ y) → R (.int m) O | none => False) | none => False) | _ => False
def dSorted : DC := fun xs O R => match xs with | [x] => (match lstOf O x with | some ys => (match intsOf ys with | some ns => ∀ ms : List Int, ms.Perm ns → ms.Pairwise (· ≤ ·) → ∀ p, O p = none → R (.ref p) (up O p (.lst (ms.map D.int))) | none => False) | none => False) | _ => False
def GC (K : PySem.W.Frag) (mg : Str → Option Value) (x : Str) (d : D) : Prop := ∃ v u, mg x = some u ∧ RelV v u ∧ ∀ G, VR K G v d
theorem GC.int {mg : Str → Option Value} {x : Str} {i : Int} {t : Tok} (h : mg x = some (.int i t)) : GC K mg x (.int i) := ⟨.int i, _, h, ⟨t, rfl⟩, fun _ => .int i⟩
theorem GC.str {mg : Str → Option Value} {x : Str} {i : Str} {t : Tok} (h : mg x = some (.str i t)) : GC K mg x (.str i) := ⟨.str i, _, h, ⟨t, rfl⟩, fun _ => .str i⟩
theorem GC.tup {mg : Str → Option Value} {x : Str} {a : Addr} {od : Option Addr} {its : List Value} {n : Nat} {sl : Array (Option Value)} {vs : List V} {ds : List D} (h : mg x = some (.ref a)) (l : K.lookup a = some ⟨.type "tuple", od, .seq its.toArray n, sl⟩) (hs : its.length ≤ sizeLine) (r : Vals vs its) (v : ∀ G, VRs K G vs ds) : GC K mg x (.tup ds) :=
  ⟨.ref a, _, h, rfl, fun G => .tup (.inr ⟨_, its.toArray, n, l, rfl, rfl, by simpa using hs, by simpa using r⟩) (v G)⟩
end
end DL
set_option Elab.async false
set_option linter.all false
set_option maxRecDepth 100000
set_option maxHeartbeats 2000000
namespace DL
open PySem PySem.Spec PyProof.Rows L2
open Evl (Ex)
def keyOf : D → Option Key
  | .int i => some (.inl i)
  | .str x => some (.inr x)
  | _ => none
def valD {A : Type} [DecidableEq A] : List (A × D) → A → Option D
  | [], _ => none
  | p :: r, k => if p.1 = k then some p.2 else valD r k
def putD {A : Type} [DecidableEq A] (kvs : List (A × D)) (k : A) (v : D) : List (A × D) :=
  if (kvs.any fun kv => decide (kv.1 = k)) = true then kvs.map fun kv => if kv.1 = k then (kv.1, v) else kv else kvs ++ [(k, v)]
def dropD {A : Type} [DecidableEq A] (kvs : List (A × D)) (k : A) : List (A × D) := kvs.filter fun kv => decide (kv.1 ≠ k)
section
variable {A : Type} [DecidableEq A] {K : PySem.W.Frag} {G : Hp}
theorem PR.any {vs : List (A × V)} {ds : List (A × D)} (h : PR K G vs ds) (k : A) : (vs.any fun kv => decide (kv.1 = k)) = (ds.any fun kv => decide (kv.1 = k)) := by
  induction h with
  | nil => rfl
  | cons h1 _ ih => rw [List.any_cons, List.any_cons, ih, h1.1]
theorem PR.append {vs ws : List (A × V)} {ds es : List (A × D)} (h : PR K G vs ds) (k : PR K G ws es) : PR K G (vs ++ ws) (ds ++ es) := by
  induction h with
  | nil => exact k
  | cons h1 _ ih => exact .cons h1 ih
theorem PR.mapK {v : V} {d : D} (k : A) (hv : VR K G v d) : ∀ {vs : List (A × V)} {ds : List (A × D)}, PR K G vs ds → PR K G (vs.map fun kv => if kv.1 = k then (kv.1, v) else kv) (ds.map fun kv => if kv.1 = k then (kv.1, d) else kv)
  | [], [], _ => .nil
  | p :: vs, q :: ds, h => by
    cases h with
    | cons h1 h2 =>
      refine .cons ?_ (PR.mapK k hv h2)
      show (if p.1 = k then (p.1, v) else p).1 = (if q.1 = k then (q.1, d) else q).1 ∧ VR K G (if p.1 = k then (p.1, v) else p).2 (if q.1 = k then (q.1, d) else q).2
      by_cases e : q.1 = k
      · rw [if_pos (h1.1.trans e), if_pos e]; exact ⟨h1.1, hv⟩
      · rw [if_neg (fun z => e (h1.1 ▸ z)), if_neg e]; exact h1
theorem PR.put {vs : List (A × V)} {ds : List (A × D)} {v : V} {d : D} (h : PR K G vs ds) (k : A) (hv : VR K G v d) : PR K G (putK vs k v) (putD ds k d) := by
  unfold putK putD
  rw [h.any k]
  split
  · exact PR.mapK k hv h
  · exact h.append (.cons ⟨rfl, hv⟩ .nil)
theorem PR.drop {vs : List (A × V)} {ds : List (A × D)} (h : PR K G vs ds) (k : A) : PR K G (dropK vs k) (dropD ds k) := by
  unfold dropK dropD
  induction h with
  | nil => exact .nil
  | cons h1 _ ih =>
    rename_i p q _ _ _
    by_cases e : q.1 = k
    · rw [List.filter_cons_of_neg (by simpa using h1.1.trans e), List.filter_cons_of_neg (by simpa using e)]; exact ih
    · rw [List.filter_cons_of_pos (by simpa using fun z => e (h1.1 ▸ z)), List.filter_cons_of_pos (by simpa using e)]; exact .cons h1 ih
theorem PR.len {vs : List (A × V)} {ds : List (A × D)} (h : PR K G vs ds) : vs.length = ds.length := Paired.length h
end
section
variable {X : Cx} {K : PySem.W.Frag} {a b c : Expr} {ta tb tc : DE} {pos : Pos}
theorem Rel.dK {G : Hp} {O : Om} {H : Hp} (r : Rel K G O H) {a : Addr} {es : List (Key × D)} (h : O a = some (.dK es)) : ∃ kvs, H a = some (.dK kvs) ∧ PR K G kvs es := by
  obtain ⟨_, u, hu, q⟩ := r.o a _ h
  cases u <;> first | exact q.elim | exact ⟨_, hu, q⟩
def dNewK : DE := fun _ O R => ∀ p, O p = none → R (.ref p) (up O p (.dK []))
/-- a dict, locked or not -/
def dctOf (O : Om) : D → Option (List (Key × D))
  | .ref a => match O a with | some (.dK es) => some es | some (.fK _ _ es) => some es | _ => none
  | _ => none
theorem Rel.dct {G : Hp} {O : Om} {H : Hp} (r : Rel K G O H) {v : V} {x : D} {es : List (Key × D)} (hv : VR K G v x) (h : dctOf O x = some es) : ∃ a kvs, v = .ref a ∧ Rd H a (.dK kvs) ∧ PR K G kvs es := by
  cases hv with
  | ref a =>
    unfold dctOf at h
    cases e : O a with
    | none => simp only [e] at h; cases h
    | some o =>
      cases o with
      | dK es' =>
        simp only [e] at h
        cases h
        obtain ⟨kvs, h1, h2⟩ := r.dK e
        exact ⟨a, kvs, rfl, .inl h1, h2⟩
      | fK od kvs es' =>
        simp only [e] at h
        cases h
        obtain ⟨_, u, hu, q1, q2⟩ := r.o a _ e
        subst q1
        exact ⟨a, kvs, rfl, .inr ⟨od, hu⟩, q2⟩
      | _ => simp only [e] at h; cases h
  | _ => cases h
/-- what a dict has at a key -/
def dGetK : D2 := fun x y O R => match dctOf O x with | some es => (match keyOf y with | some k => (match valD es k with | some v => R v O | none => False) | none => False) | none => False
def dHasK (f : Bool → Bool) : D2 := fun y x O R => match dctOf O x with | some es => (match keyOf y with | some k => R (.bl (f (valD es k).isSome)) O | none => False) | none => False
/-- d[k] = v -/
def dPutK (td ty tv : DE) : DS := fun F g O => tv g O fun v O1 => td g O1 fun x O2 => ty g O2 fun y O3 => match x with | .ref a => (match O3 a with | some (.dK es) => (match keyOf y with | some k => es.length < sizeLine ∧ F.nx g (up O3 a (.dK (putD es k v))) | none => False) | _ => False) | _ => False
/-- del d[k] -/
def dDelK (td ty : DE) : DS := fun F g O => td g O fun x O2 => ty g O2 fun y O3 => match x with | .ref a => (match O3 a with | some (.dK es) => (match keyOf y with | some k => (valD es k).isSome = true ∧ F.nx g (up O3 a (.dK (dropD es k))) | none => False) | _ => False) | _ => False
/-- sorted(d) for keys that are numbers -/
def intKs : List (Key × D) → Option (List Int)
  | [] => some []
  | (.inl i, _) :: r => (intKs r).map (i :: ·)
  | _ => none
def dSortedD : DC := fun xs O R => match xs with | [x] => (match dctOf O x with | some es => (match intKs es with | some ks => ks.length < 64 ∧ ∀ ms : List Int, ms.Perm ks → ms.Pairwise (· ≤ ·) → ∀ p, O p = none → R (.ref p) (up O p (.lst (ms.map D.int))) | none => False) | none => False) | _ => False
end
end DL
set_option Elab.async false
set_option linter.all false
set_option maxRecDepth 100000
set_option maxHeartbeats 2000000
namespace DL
open PySem PySem.Spec PyProof.Rows L2
open Evl (Ex)
section
variable {X : Cx} {K : PySem.W.Frag} {a b c : Expr} {ta tb tc : DE} {pos : Pos}
def dIpAdd : D2 := DL.dI fun i j => .int (i + j)
def dIpSub : D2 := DL.dI fun i j => .int (i - j)
end
end DL
set_option Elab.async false
set_option linter.all false
set_option maxRecDepth 100000
set_option maxHeartbeats 2000000
namespace DL
open PySem PySem.Spec PyProof.Rows L2
open Evl (Ex)
def del (O : Om) (a : Addr) : Om := fun b => if b = a then none else O b
theorem del_same {O : Om} {a : Addr} : del O a a = none := if_pos rfl
theorem del_ne {O : Om} {a b : Addr} (h : b ≠ a) : del O a b = O b := if_neg h
theorem del_up {O : Om} {a : Addr} {o : DO} (h : O a = none) : del (up O a o) a = O := by
  funext b
  unfold del
  split
  · rename_i e; subst e; exact h.symm
  · rename_i e; exact up_ne e
def FzK (R : D → Om → Prop) : D → Om → Prop := fun x O => match x with
  | .ref a => (match O a with | some (.lst xs) => R (.lst xs) (del O a) | _ => R (.ref a) O)
  | x => R x O
theorem fz_ref {R : D → Om → Prop} {a : Addr} {xs : List D} {O : Om} (e : O a = some (.lst xs)) (h : R (.lst xs) (del O a)) : FzK R (.ref a) O := by
  unfold FzK
  simp only [e]
  exact h
section
variable {K : PySem.W.Frag} {G : Hp} {O : Om} {H : Hp}
theorem Go.freeze (rl : Rel K G O H) {a : Addr} {xs : List D} (h : O a = some (.lst xs)) : ∃ G', Go K G O H G' (del O a) H ∧ VR K G' (.ref a) (.lst xs) := by
  obtain ⟨vs, h1, h2⟩ := rl.lst h
  obtain ⟨hg, _⟩ := rl.o a _ h
  have ex : Ex G (upd G a (.lst vs)) := Ex.new hg
  refine ⟨upd G a (.lst vs), ⟨⟨fun b o e => ?_, fun b o e => ?_⟩, ex, fun b o _ e => e, fun b o e => ?_, fun b o e => ?_⟩, .lst (SqL.of upd_same) (h2.mono ex)⟩
  · by_cases hb : b = a
    · subst hb; rw [upd_same] at e; cases e; exact h1
    · rw [upd_ne hb] at e; exact rl.g b o e
  · by_cases hb : b = a
    · subst hb; rw [del_same] at e; cases e
    · rw [del_ne hb] at e
      obtain ⟨z1, u, z2, z3⟩ := rl.o b o e
      exact ⟨by rw [upd_ne hb]; exact z1, u, z2, z3.mono ex⟩
  · by_cases hb : b = a
    · subst hb; rw [del_same] at e; cases e
    · rw [del_ne hb] at e; exact .inl ⟨o, e⟩
  · by_cases hb : b = a
    · subst hb; exact .inl ⟨_, h⟩
    · rw [upd_ne hb] at e; exact .inr (.inl ⟨o, e⟩)
theorem fz_back {R : D → Om → Prop} {x : D} {v : V} (rl : Rel K G O H) (hv : VR K G v x) (h : FzK R x O) : ∃ x' O' G', Go K G O H G' O' H ∧ VR K G' v x' ∧ R x' O' := by
  unfold FzK at h
  split at h
  · rename_i a
    split at h
    · rename_i xs e
      obtain ⟨G', go, vr⟩ := Go.freeze rl e
      cases hv
      exact ⟨_, _, G', go, vr, h⟩
    · exact ⟨_, _, G, Go.refl rl, hv, h⟩
  · exact ⟨_, _, G, Go.refl rl, hv, h⟩
end
def dFz (t : DE) : DE := fun g O R => t g O (FzK R)
section
variable {X : Cx} {e : Expr} {t : DE}
theorem e_fz (h : PE X e (lowE X.K t)) : PE X e (lowE X.K (dFz t)) := PE.by h fun s H Q ⟨G, O, g, R, rl, gr, h, k⟩ =>
  ⟨G, O, g, _, rl, gr, h, fun x O1 v G1 H1 go1 vr1 q1 => by
    obtain ⟨x', O2, G2, go2, vr2, q2⟩ := fz_back go1.rel vr1 q1
    exact k _ _ _ _ _ (go1.trans rl go2) vr2 q2⟩
end
def flD : D → Bool
  | .non => true
  | .bl _ => true
  | .int _ => true
  | .str _ => true
  | _ => false
def eqF : D → D → Bool
  | .non, .non => true
  | .bl a, .bl b => a == b
  | .bl a, .int b => (if a then 1 else 0) == b
  | .int a, .bl b => a == (if b then 1 else 0)
  | .int a, .int b => decide (a = b)
  | .str a, .str b => decide (a = b)
  | _, _ => false
def inD (x : D) (xs : List D) : Bool := xs.any fun y => eqF y x
def dInS (f : Bool → Bool) : D2 := fun x y O R => match seqOf O y with | some ys => flD x = true ∧ ys.all flD = true ∧ R (.bl (f (inD x ys))) O | none => False
def dLtA : D2 := fun x y O R => match x, y with
  | .int i, .int j => R (.bl (decide (i < j))) O
  | .tup xs, .tup ys => (match intsOf xs, intsOf ys with | some ns, some ms => R (.bl (HT.lexLt ns ms)) O | _, _ => False)
  | _, _ => False
end DL
set_option Elab.async false
set_option linter.all false
set_option maxRecDepth 100000
set_option maxHeartbeats 2000000
namespace DL
open PySem PySem.Spec PyProof.Rows L2
open Evl (Ex)
theorem Bk.lstF {K : PySem.W.Frag} {G : Hp} {O : Om} {H : Hp} {R : D → Om → Prop} {Q : VK} {xs : List D} {vs : List V} (k : Bk K G O H R Q) (r : Rel K G O H) (hv : VRs K G vs xs) (h : R (.lst xs) O) : ∀ p, H p = none → Q (.ref p) (upd H p (.lst vs)) := fun p hp => by
  have g := Go.data r (u := .lst vs) hp
  exact k _ _ _ _ _ g (.lst (SqL.of upd_same) (hv.mono g.ex)) h
def dLstF (t : DA) : DE := fun g O R => t g O fun xs O1 => R (.lst xs) O1
def dRevF (t : DE) : DE := fun g O R => t g O fun x O1 => match lstOf O1 x with | some xs => R (.lst xs.reverse) O1 | none => False
def dSlF (te : DE) (tl th : DOp) : DE := fun g O R => te g O fun x O1 => tl g O1 fun l O2 => th g O2 fun u O3 => match x with
  | .str z => z.length ≤ sizeLine ∧ R (.str (cutS z l u)) O3
  | .tup xs => R (.tup (cutD xs l u)) O3
  | x => match lstOf O3 x with | some xs => R (.lst (cutD xs l u)) O3 | none => False
def dLcF (it : DI) (u : DG) (tt : DT) (te : DE) (vs : List Nat) : DE := fun g O R => it g O fun xs ok O1 => dComp u tt te ok (wipeD g vs) (fun ys O2 => R (.lst ys) O2) xs [] O1
section
variable {X : Cx} {K : PySem.W.Frag} {a b c : Expr} {ta tb tc : DE} {pos : Pos} {es : List Expr} {tA : DA} {n : Nat}
theorem e_lstF (h : PA X es (lowA X.K n tA)) (hn : n ≤ 1000 := by decide) : PE X (.List es pos) (lowE X.K (dLstF tA)) := PE.by (pe_lst h) fun s H Q ⟨G, O, g, R, rl, gr, h, k⟩ =>
  ⟨G, O, g, _, rl, gr, h, fun xs O1 vs G1 H1 go1 vr1 hl q1 => ⟨by rw [vr1.length, hl]; exact Nat.le_trans hn (by decide), fun p hp => by
    have b : Bk X.K G1 O1 H1 R Q := fun x O2 v G2 H2 go2 vr q2 => k _ _ _ _ _ (go1.trans rl go2) vr q2
    exact b.lstF go1.rel vr1 q1 p hp⟩⟩
theorem low_lcF {K : PySem.W.Frag} {it : DI} {u : DG} {tt : DT} {te : DE} {vs : List Nat} : ∀ s H Q, lowE K (dLcF it u tt te vs) s H Q → tLc (lowI K it) (lowGw K vs u) (lowT K tt) (lowE K te) vs s H Q := fun s H Q ⟨G, O, g, R, rl, gr, h, k⟩ => by
  refine ⟨G, O, g, _, rl, gr, h, fun xs ok O1 J G1 H1 go1 ir q1 => ?_⟩
  intro Dl hD
  obtain ⟨hO, hG⟩ := go1.rel.fresh hD
  have g0 : Go K G1 O1 H1 G1 (up O1 Dl (.lst [])) (upd H1 Dl (.lst [])) := Go.new go1.rel (o := .lst []) (u := .lst []) hD .nil
  have less : ∀ {O' : Om} {o : DO}, O' Dl = none → ∀ a w, O' a = some w → up O' Dl o a = some w := fun {O' o} n a w e => by rw [up_ne (fun z => by subst z; rw [n] at e; cases e)]; exact e
  refine ⟨fun i m H' => ∃ G' O' acc, Go K G1 O1 H1 G' (up O' Dl (.lst acc)) H' ∧ O' Dl = none ∧ dComp u tt te ok (wipeD g vs) (fun ys O2 => R (.lst ys) O2) (xs.drop i) acc O' ∧ m = xs.length - i ∧ i ≤ xs.length,
    ⟨_, G1, O1, [], g0, hO, q1, rfl, Nat.zero_le _⟩, ?_⟩
  rintro i m H2 ⟨G2, O2, acc, go2, nO2, q2, hm, hi⟩
  have r2 : Rel K G2 O2 H2 := go2.rel.less (less nO2)
  obtain ⟨nG2, uu, hh, qq⟩ := go2.rel.o Dl _ up_same
  cases e : xs.drop i with
  | nil =>
    rw [e] at q2
    have hl : xs.length = i := by
      have := congrArg List.length e
      rw [List.length_drop, List.length_nil] at this
      omega
    obtain ⟨G3, go3, vr3⟩ := Go.freeze go2.rel (a := Dl) (xs := acc) up_same
    rw [del_up nO2] at go3
    refine .inl ⟨?_, k _ _ _ _ _ ((go1.trans rl go2).trans rl go3) vr3 q2.2⟩
    rw [← hl]
    exact ir.stop G2 O2 H2 go2.ex r2 q2.1
  | cons x r =>
    rw [e] at q2
    obtain ⟨hx, hr⟩ := drop_cons e
    have hlt : i < xs.length := (List.getElem?_eq_some_iff.mp hx).1
    refine .inr ⟨ir.go i x G2 O2 H2 hx go2.ex r2 q2.1, fun H' => ∃ G' O' acc, Go K G1 O1 H1 G' (up O' Dl (.lst acc)) H' ∧ O' Dl = none ∧ dComp u tt te ok (wipeD g vs) (fun ys O2 => R (.lst ys) O2) r acc O', ?_, fun v H3 hy => ?_⟩
    · rintro H3 ⟨G3, O3, acc3, go3, n3, q3⟩
      exact ⟨xs.length - (i + 1), by omega, G3, O3, acc3, go3, n3, by rw [hr]; exact q3, rfl, hlt⟩
    · obtain ⟨G3, go3, vr3⟩ := ir.yld i x G2 O2 H2 v H3 hx go2.ex r2 q2.1 hy
      refine ⟨G3, O2, wipeD g vs, x, _, go3.rel, (gr.mono (go1.ex.trans (go2.ex.trans go3.ex))).wipe vs, vr3, q2.2, fun s4 g4 O4 G4 H4 go4 gr4 w4 q4 => ⟨w4.trans ?_, G4, O4, g4, _, go4.rel, gr4, q4, fun b O5 G5 H5 go5 q5 => ?_⟩⟩
      · have wipe2 : ∀ us : List Nat, (∀ a ∈ us, a ∈ vs) → L2.wipe (L2.wipe s us) vs = L2.wipe s vs := by
          intro us
          induction us with
          | nil => intro _; rfl
          | cons a us ih =>
            intro ha
            show L2.wipe ((L2.wipe s us).set a none) vs = _
            rw [wipe_set (ha a List.mem_cons_self)]
            exact ih fun b hb => ha b (List.mem_cons_of_mem _ hb)
        exact wipe2 vs fun _ z => z
      · have g25 : Go K G2 O2 H2 G5 O5 H5 := (go3.trans r2 go4).trans r2 go5
        cases b with
        | false =>
          obtain ⟨n5, h5, f5⟩ := g25.frame nO2 nG2 hh qq
          exact ⟨G5, O5, acc, go2.trans go1.rel f5, n5, q5⟩
        | true =>
          refine ⟨G5, O5, g4, _, go5.rel, gr4.mono go5.ex, q5, fun y O6 w G6 H6 go6 vr6 q6 => ?_⟩
          have g26 := g25.trans r2 go6
          obtain ⟨n6, h6, f6⟩ := g26.frame nO2 nG2 hh qq
          have g16 := go2.trans go1.rel f6
          obtain ⟨_, u6, h6', q6'⟩ := g16.rel.o Dl _ up_same
          cases u6 with
          | lst vacc =>
            have hv : VRs K G6 vacc acc := q6'
            have gw := Go.write g16.rel (a := Dl) (o := .lst (acc ++ [y])) (u := .lst (vacc ++ [w])) up_same (hv.append (.cons vr6 .nil))
            rw [up_up] at gw
            exact ⟨vacc, h6', by rw [hv.length]; exact q6.1, G6, O6, acc ++ [y], g16.trans go1.rel gw, n6, q6.2⟩
          | _ => exact False.elim q6'
variable {tg : Expr}
theorem e_lcF {elt iter : Expr} {ifs : List Expr} {scope : Scope} {own : List (Str × Nat)} {it : DI} {u : DG} {tt : DT} {te : DE} (hc : X.calm = true) (hN : X.N.Nodup) (hi : PI X tg iter (lowI X.K it)) (ok : BlkOk X.N X.env.scope scope own)
    (hg : ∀ (s : Shared) (H : Hp) (C : Addr) (cl : List (Str × Addr)) (fp : List Addr), PG (X.blk s H scope (compEnvC scope cl C X.env) fp) tg (lowGw X.K (own.map (·.2)) u)) (ht : ∀ (s : Shared) (H : Hp) (C : Addr) (cl : List (Str × Addr)) (fp : List Addr), PTs (X.blk s H scope (compEnvC scope cl C X.env) fp) ifs (lowT X.K tt))
    (he : ∀ (s : Shared) (H : Hp) (C : Addr) (cl : List (Str × Addr)) (fp : List Addr), PE (X.blk s H scope (compEnvC scope cl C X.env) fp) elt (lowE X.K te)) (hs : ∀ x, foldedSetIterable iter X.env x = pure x := by intro _; rfl) :
    PE X (.ListComp elt [⟨tg, iter, ifs, 0⟩] scope pos) (lowE X.K (dLcF it u tt te (own.map (·.2)))) := PE.by (pe_lc hc hN hi ok hg ht he hs) low_lcF
theorem s_setLcG {W : WX} {i : Nat} {y : Str} {py : Pos} {elt iter : Expr} {ifs : List Expr} {scope : Scope} {own : List (Str × Nat)} {spos : Pos} {it : DI} {u : DG} {tt : DT} {te : DE} (hc : X.calm = true) (hN : X.N.Nodup) (hy : X.N[i]? = some y) (hyl : X.env.scope.names.lookup y = some .local)
    (hsw : swapsWith (.ListComp elt [⟨tg, iter, ifs, 0⟩] scope pos) (some (.Name y py)) spos.line X.env = pure true) (hi : PI X tg iter (lowI X.K it)) (ok : BlkOk X.N X.env.scope scope own)
    (hg : ∀ (s : Shared) (H : Hp) (C : Addr) (cl : List (Str × Addr)) (fp : List Addr), PG (X.blk s H scope (compEnvC scope cl C X.env) fp) tg (lowGw X.K (own.map (·.2)) u)) (ht : ∀ (s : Shared) (H : Hp) (C : Addr) (cl : List (Str × Addr)) (fp : List Addr), PTs (X.blk s H scope (compEnvC scope cl C X.env) fp) ifs (lowT X.K tt))
    (he : ∀ (s : Shared) (H : Hp) (C : Addr) (cl : List (Str × Addr)) (fp : List Addr), PE (X.blk s H scope (compEnvC scope cl C X.env) fp) elt (lowE X.K te)) (hs : ∀ x, foldedSetIterable iter X.env x = pure x := by intro _; rfl) :
    PS X (.Assign [.Name y py] (.ListComp elt [⟨tg, iter, ifs, 0⟩] scope pos) spos) (lowS X.K W (dSet i (dLcF it u tt te (own.map (·.2))))) := PS.by (ps_setLc hc hN hy hyl hsw hi ok hg ht he hs) fun E s H ⟨G, O, g, F, rl, gr, h, k⟩ =>
  low_lcF s H _ ⟨G, O, g, _, rl, gr, h, fun x O1 v G1 H1 go1 vr1 q1 => k.nx _ _ _ _ _ go1 ((gr.mono go1.ex).set i vr1) q1⟩
def dListF : DC := fun xs O R => match xs with | [x] => (match seqOf O x with | some ys => R (.lst ys) O | none => False) | _ => False
theorem sListF : CaS K (fun xs H Q => ∃ p ys, xs = [.ref p] ∧ (SqL K H p ys ∨ SqT K H p ys) ∧ ∀ l, H l = none → Q (.ref l) (upd H l (.lst ys))) dListF := fun {G O H xs vs R Q} rl hv h k => by
  match xs, hv, h with
  | [x], hv, h =>
    obtain ⟨v, rfl, hw⟩ := hv.one
    have h : (match seqOf O x with | some ys => R (.lst ys) O | none => False) := h
    cases e : seqOf O x with
    | none => simp only [e] at h
    | some ys =>
      simp only [e] at h
      obtain ⟨a, vs, rfl, hq, hv2⟩ := rl.seqOf hw e
      exact ⟨a, vs, rfl, hq, k.lstF rl hv2 h⟩
def insI (x : Int) : List Int → List Int
  | [] => [x]
  | y :: r => if x ≤ y then x :: y :: r else y :: insI x r
def srtI : List Int → List Int
  | [] => []
  | x :: r => insI x (srtI r)
def dSortedF : DC := fun xs O R => match xs with | [x] => (match lstOf O x with | some ys => (match intsOf ys with | some ns => R (.lst ((srtI ns).map D.int)) O | none => False) | none => False) | _ => False
def dSortedDF : DC := fun xs O R => match xs with | [x] => (match dctOf O x with | some es => (match intKs es with | some ks => ks.length < 64 ∧ R (.lst ((srtI ks).map D.int)) O | none => False) | none => False) | _ => False
def mxI : List Int → Int
  | [] => 0
  | [x] => x
  | x :: r => max x (mxI r)
def mnI : List Int → Int
  | [] => 0
  | [x] => x
  | x :: r => min x (mnI r)
def dMaxF : DC := fun xs O R => match xs with | [.int i, .int j] => R (.int (max i j)) O | [x] => (match lstOf O x with | some ys => (match intsOf ys with | some ns => ns ≠ [] ∧ R (.int (mxI ns)) O | none => False) | none => False) | _ => False
def dMinF : DC := fun xs O R => match xs with | [.int i, .int j] => R (.int (min i j)) O | [x] => (match lstOf O x with | some ys => (match intsOf ys with | some ns => ns ≠ [] ∧ R (.int (mnI ns)) O | none => False) | none => False) | _ => False
end
end DL
set_option Elab.async false
set_option linter.all false
set_option maxRecDepth 100000
set_option maxHeartbeats 2000000
namespace DL
open PySem PySem.Spec PyProof.Rows L2
open Evl (Ex)
def keysOf : List D → Option (List Key)
  | [] => some []
  | x :: r => match DL.keyOf x, keysOf r with | some k, some ks => some (k :: ks) | _, _ => none
def tkOf : D → Option (List Key)
  | .tup xs => keysOf xs
  | .ptup xs => keysOf xs
  | _ => none
def dctT (O : Om) : D → Option (List (List Key × D))
  | .ref a => (match O a with | some (.dT es) => some es | _ => none)
  | _ => none
section
variable {K : PySem.W.Frag} {G : Hp} {O : Om} {H : Hp}
theorem Rel.dT (r : Rel K G O H) {a : Addr} {es : List (List Key × D)} (h : O a = some (.dT es)) : ∃ kvs, H a = some (.dT kvs) ∧ PR K G kvs es := by
  obtain ⟨_, u, hu, q⟩ := r.o a _ h
  cases u <;> first | exact q.elim | exact ⟨_, hu, q⟩
end
def dNewT : DE := fun _ O R => ∀ p, O p = none → R (.ref p) (up O p (.dT []))
def dGetT : D2 := fun x y O R => match dctT O x with | some es => (match tkOf y with | some k => (match valD es k with | some v => R v O | none => False) | none => False) | none => False
def dHasT (f : Bool → Bool) : D2 := fun y x O R => match dctT O x with | some es => (match tkOf y with | some k => R (.bl (f (valD es k).isSome)) O | none => False) | none => False
def dTupP (t : DA) : DE := fun g O R => t g O fun xs O1 => R (.ptup xs) O1
def putTk (x : D) (O : Om) (k : Option (List Key)) (z : D) (N : Om → Prop) : Prop := match x with
  | .ref a => (match O a with | some (.dT es) => (match k with | some k => es.length < sizeLine ∧ N (up O a (.dT (putD es k z))) | none => False) | _ => False)
  | _ => False
def pkOf : D → Option (List Key)
  | .ptup xs => keysOf xs
  | _ => none
/-- d[(e, ..)] = v -/
def dPutT (td : DE) (tA : DA) (tv : DE) : DS := fun F g O => tv g O fun v O1 => td g O1 fun x O2 => tA g O2 fun ys O3 => putTk x O3 (keysOf ys) v (F.nx g)
/-- d[name] = v, name a new tuple -/
def dPutP (td ty tv : DE) : DS := fun F g O => tv g O fun v O1 => td g O1 fun x O2 => ty g O2 fun y O3 => putTk x O3 (pkOf y) v (F.nx g)
end DL
set_option Elab.async false
set_option linter.all false
set_option maxRecDepth 100000
set_option maxHeartbeats 2000000
namespace DL
open PySem PySem.Spec PyProof.Rows L2
open Evl (Ex)
section
variable {K : PySem.W.Frag} {G : Hp} {O : Om} {H : Hp}
def pD2 (p : Int × Int) : D := .tup [.int p.1, .int p.2]
end
def leP (p q : Int × Int) : Bool := !SrtO.lexB q p
def insP (x : Int × Int) : List (Int × Int) → List (Int × Int)
  | [] => [x]
  | y :: r => if leP x y = true then x :: y :: r else y :: insP x r
def srtP : List (Int × Int) → List (Int × Int)
  | [] => []
  | x :: r => insP x (srtP r)
def pairKs : List (List Key × D) → Option (List (Int × Int))
  | [] => some []
  | ([.inl i, .inl j], _) :: r => (pairKs r).map ((i, j) :: ·)
  | _ => none
def dSortedTF : DC := fun xs O R => match xs with | [x] => (match dctT O x with | some es => (match pairKs es with | some ks => R (.lst ((srtP ks).map pD2)) O | none => False) | none => False) | _ => False
end DL
set_option Elab.async false
set_option linter.all false
set_option maxRecDepth 100000
set_option maxHeartbeats 2000000
namespace DL
open PySem PySem.Spec PyProof.Rows L2
open Evl (Ex)
section
variable {X : Cx} {K : PySem.W.Frag} {G : Hp}
def dEnumA (t : DE) : DI := fun g O R => t g O fun x O1 => match x with
  | .lst xs => R (enD xs) Tr O1
  | .tup xs => R (enD xs) Tr O1
  | .ref a => match O1 a with | some (.lst xs) => R (enD xs) (fun O => O a = some (.lst xs)) O1 | _ => False
  | _ => False
end
end DL
set_option Elab.async false
set_option linter.all false
set_option maxRecDepth 100000
set_option maxHeartbeats 2000000
namespace DL
open PySem PySem.Spec PyProof.Rows L2
open Evl (Ex)
def dGet1 (td ty : DE) : DE := fun g O R => td g O fun x O1 => (dctOf O1 x).isSome = true ∧ ty g O1 fun y O2 => match dctOf O2 x with | some es => (match DL.keyOf y with | some k => R ((valD es k).getD .non) O2 | none => False) | none => False
def dGet2 (td ty tx : DE) : DE := fun g O R => td g O fun x O1 => (dctOf O1 x).isSome = true ∧ ty g O1 fun y O2 => tx g O2 fun z O3 => match dctOf O3 x with | some es => (match DL.keyOf y with | some k => R ((valD es k).getD z) O3 | none => False) | none => False
def dGet2T (td ty tx : DE) : DE := fun g O R => td g O fun x O1 => (dctT O1 x).isSome = true ∧ ty g O1 fun y O2 => tx g O2 fun z O3 => match dctT O3 x with | some es => (match tkOf y with | some k => R ((valD es k).getD z) O3 | none => False) | none => False
section
variable {X : Cx} {K : PySem.W.Frag} {a b c : Expr} {ta tb tc : DE} {pos : Pos} {td ty tx : TE} {o e f : Expr} {apos cpos : Pos}
def dDisp1 (tk tv : DE) : DE := fun g O R => ∀ p, O p = none → tk g (up O p (.dK [])) fun x O1 => tv g O1 fun y O2 => O2 p = some (.dK []) ∧ match DL.keyOf x with | some k => R (.ref p) (up O2 p (.dK [(k, y)])) | none => False
def dRep : D2 := fun x y O R => match x, y with
  | .ref a, .int n => (match O a with | some (.lst xs) => (-(2 ^ 63) ≤ n ∧ n < 2 ^ 63 ∧ xs.length * n.toNat ≤ sizeLine) ∧ ∀ p, O p = none → R (.ref p) (up O p (.lst (List.replicate n.toNat xs).flatten)) | _ => False)
  | _, _ => False
def dInt : DC := fun xs O R => match xs with | [.int i] => R (.int i) O | [.bl k] => R (.int (if k = true then 1 else 0)) O | _ => False
def dBits (t : DE) : DE := fun g O R => t g O fun x O1 => match x with | .int i => R (.int (Builtin.Int.intBits i : Nat)) O1 | _ => False
def dExtend : DM := fun x vs O R => match x, vs with | .ref a, [.ref b] => (match O a, O b with | some (.lst xs), some (.lst ys) => xs.length + ys.length ≤ sizeLine ∧ R .non (up O a (.lst (xs ++ ys))) | _, _ => False) | _, _ => False
def dReverse : DM := fun x vs O R => match x, vs with | .ref a, [] => (match O a with | some (.lst xs) => R .non (up O a (.lst xs.reverse)) | _ => False) | _, _ => False
theorem sReverse : MtS K rReverse dReverse := fun {G O H x xs v vs R Q} rl hx hv h k => by
  match x, xs, hx, hv, h with
  | .ref a, [], hx, hv, h =>
    cases hx
    cases hv
    have h : (match O a with | some (.lst xs) => R .non (up O a (.lst xs.reverse)) | _ => False) := h
    cases e : O a with
    | none => simp only [e] at h
    | some o =>
      cases o with
      | lst xs =>
        simp only [e] at h
        obtain ⟨ws, h1, h2⟩ := rl.lst e
        exact ⟨a, ws, rfl, rfl, h1, k _ _ _ _ _ (Go.write rl (o := .lst xs.reverse) (u := .lst ws.reverse) e h2.reverse) .non h⟩
      | _ => simp only [e] at h
end
end DL
set_option Elab.async false
set_option linter.all false
set_option maxRecDepth 100000
set_option maxHeartbeats 2000000
namespace DL
open PySem PySem.Spec PyProof.Rows L2
open Evl (Ex)
def dMaxDf (t tk : DA) : DE := fun g O R => t g O fun xs O1 => tk g O1 fun zs O2 => match xs, zs with | [x], [d] => (match lstOf O2 x with | some ys => (match intsOf ys with | some ns => if ns = [] then R d O2 else R (.int (mxI ns)) O2 | none => False) | none => False) | _, _ => False
end DL
set_option Elab.async false
set_option linter.all false
set_option maxRecDepth 100000
set_option maxHeartbeats 2000000
namespace DL
open PySem PySem.Spec PyProof.Rows L2
open Evl (Ex)
def rCatL (K : PySem.W.Frag) : R2 := fun x y H Q => ∃ l b xs zs, x = .ref l ∧ y = .ref b ∧ SqL K H l xs ∧ SqL K H b zs ∧ xs.length + zs.length ≤ sizeLine ∧ ∀ p, H p = none → Q (.ref p) (upd H p (.lst (xs ++ zs)))
theorem op_catL {X : Cx} : OpR X (binaryOp .Add) (rCatL X.K) := by
  intro pins s σ H x y v u Q I rx ry h
  obtain ⟨l, b, xs, zs, rfl, rfl, hH, hB, hz, q⟩ := h
  cases rx
  cases ry
  obtain ⟨its, r, p, _⟩ := I.list hH
  obtain ⟨its2, r2, p2, _⟩ := I.list hB
  obtain ⟨⟨cls, dd, data, sl⟩, n, ho, hc, hdd, hd⟩ := p
  obtain ⟨⟨cls2, dd2, data2, sl2⟩, n2, ho2, hc2, hdd2, hd2⟩ := p2
  simp only at hc hd hdd hc2 hd2 hdd2
  subst hc hd hc2 hd2
  have l1 := r.length
  have l2 := r2.length
  refine concat_meets ⟨_, ho, rfl⟩ ⟨_, ho2, rfl⟩ noFill_list_add seq_list_add PySem.F.slot_list_add PySem.F.entry_list_add (PySem.F.args_list_add_2 _ _) (list_addW l b its.toArray its2.toArray n n2 dd dd2 sl sl2 (by simp; omega)) ⟨ho, ho2, ?_⟩
  have ea : its.toArray ++ its2.toArray = (its ++ its2).toArray := by simp
  rw [ea]
  exact ⟨.ref _, _, I.lnew (t' := s.toks) (r.append r2) (by rw [List.length_append]; omega), rfl, q _ I.fresh⟩
def dCat : D2 := fun x y O R => match lstOf O x, lstOf O y with | some xs, some ys => xs.length + ys.length ≤ sizeLine ∧ ∀ p, O p = none → R (.ref p) (up O p (.lst (xs ++ ys))) | _, _ => False
def dCatF : D2 := fun x y O R => match lstOf O x, lstOf O y with | some xs, some ys => xs.length + ys.length ≤ sizeLine ∧ R (.lst (xs ++ ys)) O | _, _ => False
section
variable {X : Cx} {K : PySem.W.Frag} {a b c : Expr} {ta tb tc : DE} {pos : Pos}
theorem sCatF : OpS K (rCatL K) dCatF := fun {G O H x y v u R Q} rl hx hy h k => by
  unfold dCatF at h
  cases e1 : lstOf O x with
  | none => simp only [e1] at h
  | some xs =>
    cases e2 : lstOf O y with
    | none => simp only [e1, e2] at h
    | some ys =>
      simp only [e1, e2] at h
      obtain ⟨p, vs, rfl, hq, hv⟩ := rl.lstOf hx e1
      obtain ⟨p2, ws, rfl, hq2, hv2⟩ := rl.lstOf hy e2
      exact ⟨p, p2, vs, ws, rfl, rfl, hq, hq2, by rw [hv.length, hv2.length]; exact h.1, k.lstF rl (hv.append hv2) h.2⟩
theorem e_catF (ha : PE X a (lowE X.K ta)) (hb : PE X b (lowE X.K tb)) : PE X (.BinOp a .Add b pos) (lowE X.K (dOp dCatF ta tb)) := e_op op_catL sCatF ha hb
end
def dExtL : DM := fun x vs O R => match x, vs with | .ref a, [y] => (match O a, lstOf O y with | some (.lst xs), some ys => xs.length + ys.length ≤ sizeLine ∧ R .non (up O a (.lst (xs ++ ys))) | _, _ => False) | _, _ => False
end DL
set_option Elab.async false
set_option linter.all false
set_option maxRecDepth 100000
set_option maxHeartbeats 2000000
namespace DL
open PySem PySem.Spec PyProof.Rows L2
open Evl (Ex)
def dCompT (u : DG) (tt : DT) (tA : DA) (tv : DE) (ok : Om → Prop) (g : Gm) (R : List (List Key × D) → Om → Prop) : List D → List (List Key × D) → Om → Prop
  | [], acc, O => ok O ∧ R acc O
  | x :: xs, acc, O => ok O ∧ u x g O fun g1 O1 => tt g1 O1 fun b O2 => if b = true then tA g1 O2 fun ks O3 => tv g1 O3 fun y O4 => (∃ k, keysOf ks = some k ∧ acc.length < sizeLine ∧ dCompT u tt tA tv ok g R xs (putD acc k y) O4) else dCompT u tt tA tv ok g R xs acc O2
def dDcT (it : DI) (u : DG) (tt : DT) (tA : DA) (tv : DE) (vs : List Nat) : DE := fun g O R => it g O fun xs ok O1 => dCompT u tt tA tv ok (wipeD g vs) (fun es O2 => ∀ p, O2 p = none → R (.ref p) (up O2 p (.dT es))) xs [] O1
def zipD (xs ys : List D) : List D := (xs.zip ys).map fun p => D.tup [p.1, p.2]
section
variable {X : Cx} {K : PySem.W.Frag} {G : Hp}
theorem zipD_get {xs ys : List D} {i : Nat} {d : D} (h : (zipD xs ys)[i]? = some d) : ∃ x y, xs[i]? = some x ∧ ys[i]? = some y ∧ d = .tup [x, y] := by
  unfold zipD at h
  rw [List.getElem?_map] at h
  cases e : (xs.zip ys)[i]? with
  | none => rw [e] at h; cases h
  | some p =>
    rw [e] at h
    cases h
    have := List.getElem?_zip_eq_some.mp e
    exact ⟨p.1, p.2, this.1, this.2, rfl⟩
theorem ItR.zip {a b : Addr} {xs ys : List D} {ok : Om → Prop} (h : ∀ G1 O H, Ex G G1 → Rel K G1 O H → ok O → ∃ vs us, SqL K H a vs ∧ SqL K H b us ∧ VRs K G1 vs xs ∧ VRs K G1 us ys) : ItR K (Itz K a b) G (zipD xs ys) ok where
  stop := fun G1 O H ex rl eo => by
    obtain ⟨vs, us, h1, h2, h3, h4⟩ := h G1 O H ex rl eo
    refine ⟨vs, us, h1, h2, ?_⟩
    have : (zipD xs ys).length = min xs.length ys.length := by unfold zipD; simp
    rw [this, h3.length, h4.length]
    omega
  go := fun i d G1 O H e ex rl eo => by
    obtain ⟨vs, us, h1, h2, h3, h4⟩ := h G1 O H ex rl eo
    obtain ⟨x, y, ex, ey, _⟩ := zipD_get e
    obtain ⟨v, hv, _⟩ := h3.get ex
    obtain ⟨u, hu, _⟩ := h4.get ey
    exact ⟨vs, us, v, u, h1, h2, hv, hu⟩
  yld := fun i d G1 O H x' H' e ex rl eo y' => by
    obtain ⟨T, v', u', rfl, hT, rfl, hv', hu'⟩ := y'
    obtain ⟨vs, us, h1, h2, h3, h4⟩ := h G1 O H ex rl eo
    obtain ⟨x, y, ex, ey, rfl⟩ := zipD_get e
    obtain ⟨v, hv, qv⟩ := h3.get ex
    obtain ⟨u, hu, qu⟩ := h4.get ey
    have e1 := hv' vs h1
    rw [hv] at e1; cases e1
    have e2 := hu' us h2
    rw [hu] at e2; cases e2
    have g := Go.data rl (u := .tup [v', u']) hT
    exact ⟨_, g, .tup (SqT.of upd_same) (.cons (qv.mono g.ex) (.cons (qu.mono g.ex) .nil))⟩
def dZip (t : DA) : DI := fun g O R => t g O fun zs O1 => match zs with
  | [x, y] => (match lstOf O1 x, lstOf O1 y with | some xs, some ys => R (zipD xs ys) (fun O => lstOf O x = some xs ∧ lstOf O y = some ys) O1 | _, _ => False)
  | _ => False
end
end DL
set_option Elab.async false
set_option linter.all false
set_option maxRecDepth 100000
set_option maxHeartbeats 2000000
namespace DL
open PySem L2
open Evl (Ex)
def dComp2 (u : DG) (tt : DT) (it1 : DI) (u1 : DG) (tt1 : DT) (te : DE) (vs1 : List Nat) (ok : Om → Prop) (g : Gm) (R : List D → Om → Prop) : List D → List D → Om → Prop
  | [], acc, O => ok O ∧ R acc O
  | x :: xs, acc, O => ok O ∧ u x g O fun g1 O1 => tt g1 O1 fun b O2 => if b = true then it1 g1 O2 fun ys ok1 O3 => dComp u1 tt1 te ok1 (wipeD g1 vs1) (fun acc' O4 => dComp2 u tt it1 u1 tt1 te vs1 ok g R xs acc' O4) ys acc O3 else dComp2 u tt it1 u1 tt1 te vs1 ok g R xs acc O2
def dLc2 (it : DI) (u : DG) (tt : DT) (it1 : DI) (u1 : DG) (tt1 : DT) (te : DE) (vs vs1 : List Nat) : DE := fun g O R => it g O fun xs ok O1 => dComp2 u tt it1 u1 tt1 te vs1 ok (wipeD g vs) (fun ys O2 => ∀ p, O2 p = none → R (.ref p) (up O2 p (.lst ys))) xs [] O1
theorem wipe_idem (s : L2.St) (vs : List Nat) : L2.wipe (L2.wipe s vs) vs = L2.wipe s vs := by
  have wipe2 : ∀ us : List Nat, (∀ a ∈ us, a ∈ vs) → L2.wipe (L2.wipe s us) vs = L2.wipe s vs := by
    intro us
    induction us with
    | nil => intro _; rfl
    | cons a us ih =>
      intro ha
      show L2.wipe ((L2.wipe s us).set a none) vs = _
      rw [wipe_set (ha a List.mem_cons_self)]
      exact ih fun b hb => ha b (List.mem_cons_of_mem _ hb)
  exact wipe2 vs fun _ z => z
section
variable {X : Cx} {pos : Pos} {tg tg1 : Expr}
theorem low_lc2 {K : PySem.W.Frag} {it it1 : DI} {u u1 : DG} {tt tt1 : DT} {te : DE} {vs vs1 : List Nat} : ∀ s H Q, lowE K (dLc2 it u tt it1 u1 tt1 te vs vs1) s H Q → tLc2 (lowI K it) (lowGw K vs u) (lowT K tt) (lowI K it1) (lowGw K vs1 u1) (lowT K tt1) (lowE K te) vs vs1 s H Q := fun s H Q ⟨G, O, g, R, rl, gr, h, k⟩ => by
  refine ⟨G, O, g, _, rl, gr, h, fun xs ok O1 J G1 H1 go1 ir q1 => ?_⟩
  intro Dl hD
  obtain ⟨hO, hG⟩ := go1.rel.fresh hD
  have g0 : Go K G1 O1 H1 G1 (up O1 Dl (.lst [])) (upd H1 Dl (.lst [])) := Go.new go1.rel (o := .lst []) (u := .lst []) hD .nil
  have less : ∀ {O' : Om} {o : DO}, O' Dl = none → ∀ a w, O' a = some w → up O' Dl o a = some w := fun {O' o} n a w e => by rw [up_ne (fun z => by subst z; rw [n] at e; cases e)]; exact e
  generalize hRR : (fun (ys : List D) (O2 : Om) => ∀ p, O2 p = none → R (.ref p) (up O2 p (.lst ys))) = RR at q1
  refine ⟨fun i m H' => ∃ G' O' acc, Go K G1 O1 H1 G' (up O' Dl (.lst acc)) H' ∧ O' Dl = none ∧ dComp2 u tt it1 u1 tt1 te vs1 ok (wipeD g vs) RR (xs.drop i) acc O' ∧ m = xs.length - i ∧ i ≤ xs.length,
    ⟨_, G1, O1, [], g0, hO, q1, rfl, Nat.zero_le _⟩, ?_⟩
  rintro i m H2 ⟨G2, O2, acc, go2, nO2, q2, hm, hi⟩
  have r2 : Rel K G2 O2 H2 := go2.rel.less (less nO2)
  obtain ⟨nG2, uu, hh, qq⟩ := go2.rel.o Dl _ up_same
  cases e : xs.drop i with
  | nil =>
    rw [e] at q2
    have hl : xs.length = i := by
      have := congrArg List.length e
      rw [List.length_drop, List.length_nil] at this
      omega
    obtain ⟨q2a, q2b⟩ := q2
    rw [← hRR] at q2b
    refine .inl ⟨?_, k _ _ _ _ _ (go1.trans rl go2) (.ref Dl) (q2b Dl nO2)⟩
    rw [← hl]
    exact ir.stop G2 O2 H2 go2.ex r2 q2a
  | cons x r =>
    rw [e] at q2
    obtain ⟨hx, hr⟩ := drop_cons e
    have hlt : i < xs.length := (List.getElem?_eq_some_iff.mp hx).1
    obtain ⟨q2a, q2b⟩ := q2
    refine .inr ⟨ir.go i x G2 O2 H2 hx go2.ex r2 q2a, fun H' => ∃ G' O' acc, Go K G1 O1 H1 G' (up O' Dl (.lst acc)) H' ∧ O' Dl = none ∧ dComp2 u tt it1 u1 tt1 te vs1 ok (wipeD g vs) RR r acc O', ?_, fun v H3 hy => ?_⟩
    · rintro H3 ⟨G3, O3, acc3, go3, n3, q3⟩
      exact ⟨xs.length - (i + 1), by omega, G3, O3, acc3, go3, n3, by rw [hr]; exact q3, rfl, hlt⟩
    · obtain ⟨G3, go3, vr3⟩ := ir.yld i x G2 O2 H2 v H3 hx go2.ex r2 q2a hy
      refine ⟨G3, O2, wipeD g vs, x, _, go3.rel, (gr.mono (go1.ex.trans (go2.ex.trans go3.ex))).wipe vs, vr3, q2b, fun s4 g4 O4 G4 H4 go4 gr4 w4 q4 => ⟨w4.trans (wipe_idem s vs), G4, O4, g4, _, go4.rel, gr4, q4, fun b O5 G5 H5 go5 q5 => ?_⟩⟩
      have g25 : Go K G2 O2 H2 G5 O5 H5 := (go3.trans r2 go4).trans r2 go5
      cases b with
      | false =>
        obtain ⟨n5, h5, f5⟩ := g25.frame nO2 nG2 hh qq
        exact ⟨G5, O5, acc, go2.trans go1.rel f5, n5, q5⟩
      | true =>
        refine ⟨G5, O5, g4, _, go5.rel, gr4.mono go5.ex, q5, fun ys ok1 O6 J1 G6 H6 go6 ir1 q6 => ?_⟩
        have g26 := g25.trans r2 go6
        obtain ⟨n6, h6, f6⟩ := g26.frame nO2 nG2 hh qq
        generalize hR1 : (fun (acc' : List D) (O4 : Om) => dComp2 u tt it1 u1 tt1 te vs1 ok (wipeD g vs) RR r acc' O4) = R1 at q6
        refine ⟨fun j m1 H' => ∃ G' O' acc', Go K G1 O1 H1 G' (up O' Dl (.lst acc')) H' ∧ O' Dl = none ∧ Ex G6 G' ∧ dComp u1 tt1 te ok1 (wipeD g4 vs1) R1 (ys.drop j) acc' O' ∧ m1 = ys.length - j ∧ j ≤ ys.length,
          ⟨_, G6, O6, acc, go2.trans go1.rel f6, n6, Ex.refl G6, q6, rfl, Nat.zero_le _⟩, ?_⟩
        rintro j m1 H7 ⟨G7, O7, acc7, go7, nO7, ex7, q7, hm7, hj7⟩
        have r7 : Rel K G7 O7 H7 := go7.rel.less (less nO7)
        obtain ⟨nG7, uu7, hh7, qq7⟩ := go7.rel.o Dl _ up_same
        cases e1 : ys.drop j with
        | nil =>
          rw [e1] at q7
          have hl : ys.length = j := by
            have := congrArg List.length e1
            rw [List.length_drop, List.length_nil] at this
            omega
          obtain ⟨q7a, q7b⟩ := q7
          rw [← hR1] at q7b
          refine .inl ⟨?_, G7, O7, acc7, go7, nO7, q7b⟩
          rw [← hl]
          exact ir1.stop G7 O7 H7 ex7 r7 q7a
        | cons y1 r1 =>
          rw [e1] at q7
          obtain ⟨hx1, hr1⟩ := drop_cons e1
          have hlt1 : j < ys.length := (List.getElem?_eq_some_iff.mp hx1).1
          obtain ⟨q7a, q7b⟩ := q7
          refine .inr ⟨ir1.go j y1 G7 O7 H7 hx1 ex7 r7 q7a, fun H' => ∃ G' O' acc', Go K G1 O1 H1 G' (up O' Dl (.lst acc')) H' ∧ O' Dl = none ∧ Ex G6 G' ∧ dComp u1 tt1 te ok1 (wipeD g4 vs1) R1 r1 acc' O', ?_, fun v1 H8 hy1 => ?_⟩
          · rintro H8 ⟨G8, O8, acc8, go8, n8, ex8, q8⟩
            exact ⟨ys.length - (j + 1), by omega, G8, O8, acc8, go8, n8, ex8, by rw [hr1]; exact q8, rfl, hlt1⟩
          · obtain ⟨G8, go8, vr8⟩ := ir1.yld j y1 G7 O7 H7 v1 H8 hx1 ex7 r7 q7a hy1
            have ex48 : Ex G4 G8 := (go5.ex.trans go6.ex).trans (ex7.trans go8.ex)
            refine ⟨G8, O7, wipeD g4 vs1, y1, _, go8.rel, (gr4.mono ex48).wipe vs1, vr8, q7b, fun s9 g9 O9 G9 H9 go9 gr9 w9 q9 => ⟨w9.trans (wipe_idem s4 vs1), G9, O9, g9, _, go9.rel, gr9, q9, fun b2 O10 G10 H10 go10 q10 => ?_⟩⟩
            have g710 : Go K G7 O7 H7 G10 O10 H10 := (go8.trans r7 go9).trans r7 go10
            cases b2 with
            | false =>
              obtain ⟨n10, h10, f10⟩ := g710.frame nO7 nG7 hh7 qq7
              exact ⟨G10, O10, acc7, go7.trans go1.rel f10, n10, ex7.trans g710.ex, q10⟩
            | true =>
              refine ⟨G10, O10, g9, _, go10.rel, gr9.mono go10.ex, q10, fun y O11 w G11 H11 go11 vr11 q11 => ?_⟩
              have g711 := g710.trans r7 go11
              obtain ⟨n11, h11, f11⟩ := g711.frame nO7 nG7 hh7 qq7
              have g111 := go7.trans go1.rel f11
              obtain ⟨_, u11, h11', q11'⟩ := g111.rel.o Dl _ up_same
              cases u11 with
              | lst vacc =>
                have hv : VRs K G11 vacc acc7 := q11'
                have gw := Go.write g111.rel (a := Dl) (o := .lst (acc7 ++ [y])) (u := .lst (vacc ++ [w])) up_same (hv.append (.cons vr11 .nil))
                rw [up_up] at gw
                exact ⟨vacc, h11', by rw [hv.length]; exact q11.1, G11, O11, acc7 ++ [y], g111.trans go1.rel gw, n11, ex7.trans g711.ex, q11.2⟩
              | _ => exact False.elim q11'
theorem e_lc2 {elt iter iter1 : Expr} {ifs ifs1 : List Expr} {scope : Scope} {own : List (Str × Nat)} {vs1 : List Nat} {it it1 : DI} {u u1 : DG} {tt tt1 : DT} {te : DE} (hc : X.calm = true) (hN : X.N.Nodup) (hi : PI X tg iter (lowI X.K it)) (ok : BlkOk X.N X.env.scope scope own) (hv : ∀ i ∈ vs1, i ∈ own.map (·.2))
    (hg : ∀ (s : Shared) (H : Hp) (C : Addr) (cl : List (Str × Addr)) (fp : List Addr), PG (X.blk s H scope (compEnvC scope cl C X.env) fp) tg (lowGw X.K (own.map (·.2)) u)) (ht : ∀ (s : Shared) (H : Hp) (C : Addr) (cl : List (Str × Addr)) (fp : List Addr), PTs (X.blk s H scope (compEnvC scope cl C X.env) fp) ifs (lowT X.K tt))
    (hi1 : ∀ (s : Shared) (H : Hp) (C : Addr) (cl : List (Str × Addr)) (fp : List Addr), PI (X.blk s H scope (compEnvC scope cl C X.env) fp) tg1 iter1 (lowI X.K it1))
    (hg1 : ∀ (s : Shared) (H : Hp) (C : Addr) (cl : List (Str × Addr)) (fp : List Addr), PG (X.blk s H scope (compEnvC scope cl C X.env) fp) tg1 (lowGw X.K vs1 u1)) (ht1 : ∀ (s : Shared) (H : Hp) (C : Addr) (cl : List (Str × Addr)) (fp : List Addr), PTs (X.blk s H scope (compEnvC scope cl C X.env) fp) ifs1 (lowT X.K tt1))
    (he : ∀ (s : Shared) (H : Hp) (C : Addr) (cl : List (Str × Addr)) (fp : List Addr), PE (X.blk s H scope (compEnvC scope cl C X.env) fp) elt (lowE X.K te)) (hs : ∀ x, foldedSetIterable iter X.env x = pure x := by intro _; rfl) (hs1 : ∀ env x, foldedSetIterable iter1 env x = pure x := by intro _ _; rfl) :
    PE X (.ListComp elt [⟨tg, iter, ifs, 0⟩, ⟨tg1, iter1, ifs1, 0⟩] scope pos) (lowE X.K (dLc2 it u tt it1 u1 tt1 te (own.map (·.2)) vs1)) := PE.by (pe_lc2 hc hN hi ok hv hg ht hi1 hg1 ht1 he hs hs1) low_lc2
end
/-- the inner row, from what is there -/
theorem comp_more {A : Type} {u : DG} {tt : DT} {te : DE} {ok : Om → Prop} {g : Gm} {R : List D → Om → Prop} {O : Om} {f : A → D} {as : List A} {acc0 : List D} (p : A → Bool) (h : A → D) (hok : ok O) (hl : acc0.length + as.length < 16000000)
    (hs : ∀ a, a ∈ as → ∀ (N : List D → Om → Prop) (acc : List D), acc.length < sizeLine → (p a = true → N (acc ++ [h a]) O) → (p a = false → N acc O) → u (f a) g O fun g1 O1 => tt g1 O1 fun b O2 => if b = true then te g1 O2 fun y O3 => acc.length < sizeLine ∧ N (acc ++ [y]) O3 else N acc O2)
    (hd : R (acc0 ++ (as.filter p).map h) O) : dComp u tt te ok g R (as.map f) acc0 O := by
  have key : ∀ (post pre : List A), as = pre ++ post → dComp u tt te ok g R (post.map f) (acc0 ++ (pre.filter p).map h) O := by
    intro post
    induction post with
    | nil =>
      intro pre e
      rw [List.append_nil] at e
      subst e
      exact ⟨hok, hd⟩
    | cons a post ih =>
      intro pre e
      have hlen : (acc0 ++ (pre.filter p).map h).length < sizeLine := by
        have h1 := congrArg List.length e
        have h2 := List.length_filter_le p pre
        rw [List.length_append, List.length_map, sizeLine_eq]
        simp at h1
        omega
      refine ⟨hok, hs a (by rw [e]; simp) _ _ hlen (fun z => ?_) fun z => ?_⟩
      · have := ih (pre ++ [a]) (by rw [e, List.append_assoc]; rfl)
        rw [List.filter_append, List.filter_cons_of_pos z, List.filter_nil, List.map_append, ← List.append_assoc] at this
        exact this
      · have := ih (pre ++ [a]) (by rw [e, List.append_assoc]; rfl)
        rw [List.filter_append, List.filter_cons_of_neg (by rw [z]; decide), List.filter_nil, List.append_nil] at this
        exact this
  have := key as [] rfl
  rw [List.filter_nil, List.map_nil, List.append_nil] at this
  exact this
end DL
set_option Elab.async false
set_option linter.all false
set_option maxRecDepth 100000
set_option maxHeartbeats 2000000
namespace DL
open PySem PySem.Spec PyProof.Rows L2
open Evl (Ex)
end DL
set_option linter.all false
set_option maxRecDepth 100000
set_option maxHeartbeats 2000000
namespace Lw
open PySem PySem.Spec PyProof.Rows L2 DL
open Evl (Ex)
def Sb (O O' : Om) : Prop := ∀ a o, O a = some o → O' a = some o
theorem Sb.refl (O : Om) : Sb O O := fun _ _ e => e
theorem Sb.trans {O O1 O2 : Om} (h : Sb O O1) (k : Sb O1 O2) : Sb O O2 := fun a o e => k a o (h a o e)
theorem Sb.new {O : Om} {p : Addr} {o : DO} (h : O p = none) : Sb O (up O p o) := fun a u e => by
  rw [up_ne (fun z => by subst z; rw [h] at e; cases e)]; exact e
theorem Sb.fin {O O' : Om} {R : D → Om → Prop} {x : D} (h : Sb O O') (r : R x O) : Fin R x O' := ⟨O, h, r⟩
theorem some_ne_none {O : Om} {p a : Addr} {o : DO} (h : O p = none) (e : O a = some o) : a ≠ p := fun z => by subst z; rw [h] at e; cases e
def bagV (c : Addr) (pos rem seed cnt : Int) : DO := .lst [.ref c, .int pos, .int rem, .int seed, .int cnt]
def Bag (O : Om) (b : Addr) : Prop := ∃ (c : Addr) (cells : List Int) (pos rem seed cnt : Int), O b = some (bagV c pos rem seed cnt) ∧ O c = some (.lst (cells.map D.int)) ∧ c ≠ b ∧ 0 ≤ pos ∧ 0 ≤ rem ∧ 0 ≤ seed ∧ seed < 2147483647
/-- all but the bag stands -/
def cellOf (O : Om) (b : Addr) : Option Addr := match O b with | some (.lst (.ref c :: _)) => some c | _ => none
structure Bst (b : Addr) (O O' : Om) : Prop where
  bag : Bag O' b
  fr : ∀ a o, a ≠ b → O a = some o → O' a = some o
  cell : cellOf O' b = cellOf O b
theorem Bst.trans {b : Addr} {O O1 O2 : Om} (h : Bst b O O1) (k : Bst b O1 O2) : Bst b O O2 := ⟨k.1, fun a o n e => k.2 a o n (h.2 a o n e), k.cell.trans h.cell⟩
theorem Bag.cell {O : Om} {b : Addr} (h : Bag O b) : ∃ (c : Addr) (cells : List Int) (pos rem seed cnt : Int), cellOf O b = some c ∧ O b = some (bagV c pos rem seed cnt) ∧ O c = some (.lst (cells.map D.int)) := by
  obtain ⟨c, cells, pos, rem, seed, cnt, h1, h2, h3⟩ := h
  exact ⟨c, cells, pos, rem, seed, cnt, by unfold cellOf; rw [h1]; rfl, h1, h2⟩
theorem cell_of {O : Om} {b c : Addr} {pos rem seed cnt : Int} (h : O b = some (bagV c pos rem seed cnt)) : cellOf O b = some c := by unfold cellOf; rw [h]; rfl
theorem cell_up {O : Om} {b p : Addr} {o : DO} (h : p ≠ b) : cellOf (up O p o) b = cellOf O b := by unfold cellOf; rw [up_ne (fun z => h z.symm)]
theorem Bag.up {O : Om} {b p : Addr} {o : DO} (h : Bag O b) (n : O p = none) : Bag (up O p o) b := by
  obtain ⟨c, cells, pos, rem, seed, cnt, h1, h2, h3⟩ := h
  exact ⟨c, cells, pos, rem, seed, cnt, by rw [up_ne (some_ne_none n h1)]; exact h1, by rw [up_ne (some_ne_none n h2)]; exact h2, h3⟩
theorem Bst.refl {b : Addr} {O : Om} (h : Bag O b) : Bst b O O := ⟨h, fun _ _ _ e => e, rfl⟩
theorem Bst.up {b p : Addr} {O O' : Om} {o : DO} (h : Bst b O O') (n : O' p = none) : Bst b O (DL.up O' p o) := ⟨h.1.up n, fun a u hn e => Sb.new n a u (h.2 a u hn e), by rw [cell_up (fun z => by obtain ⟨c, _, _, _, _, _, _, e, _⟩ := h.1.cell; rw [← z, n] at e; cases e), h.cell]⟩
theorem ixN_lit {n : Nat} {i : Int} (h0 : 0 ≤ i) (h1 : i < n) : ixN n i = some i.toNat := by unfold ixN; rw [if_pos h0, if_pos h1]
theorem atI_int {ns : List Int} {i : Int} (h0 : 0 ≤ i) (h1 : i < ns.length) : ∃ z, atI (ns.map D.int) i = some (.int z) ∧ z ∈ ns := by
  unfold atI
  have h2 : i.toNat < ns.length := by omega
  rw [ixN_lit h0 (by simpa using h1)]
  exact ⟨ns[i.toNat], by simp [h2], List.getElem_mem h2⟩
theorem atI_cons {A : Type} {xs : List A} {k : Nat} (h : k < xs.length) : atI xs (k : Int) = some xs[k] := by
  unfold atI
  rw [ixN_lit (by omega) (by omega)]
  simp [h]
theorem atI_0 {A : Type} {x : A} {xs : List A} : atI (x :: xs) 0 = some x := atI_cons (k := 0) (by simp)
theorem atI_1 {A : Type} {x y : A} {xs : List A} : atI (x :: y :: xs) 1 = some y := atI_cons (k := 1) (by simp)
theorem atI_2 {A : Type} {x y z : A} {xs : List A} : atI (x :: y :: z :: xs) 2 = some z := atI_cons (k := 2) (by simp)
theorem atI_3 {A : Type} {x y z u : A} {xs : List A} : atI (x :: y :: z :: u :: xs) 3 = some u := atI_cons (k := 3) (by simp)
theorem atI_4 {A : Type} {x y z u v : A} {xs : List A} : atI (x :: y :: z :: u :: v :: xs) 4 = some v := atI_cons (k := 4) (by simp)
theorem atI_5 {A : Type} {x y z u v w : A} {xs : List A} : atI (x :: y :: z :: u :: v :: w :: xs) 5 = some w := atI_cons (k := 5) (by simp)
theorem ixN_0 {n : Nat} : ixN (n + 1) 0 = some 0 := ixN_lit (i := ((0 : Nat) : Int)) (by omega) (by omega)
theorem ixN_1 {n : Nat} : ixN (n + 1 + 1) 1 = some 1 := ixN_lit (i := ((1 : Nat) : Int)) (by omega) (by omega)
theorem ixN_2 {n : Nat} : ixN (n + 1 + 1 + 1) 2 = some 2 := ixN_lit (i := ((2 : Nat) : Int)) (by omega) (by omega)
theorem ixN_3 {n : Nat} : ixN (n + 1 + 1 + 1 + 1) 3 = some 3 := ixN_lit (i := ((3 : Nat) : Int)) (by omega) (by omega)
theorem ixN_4 {n : Nat} : ixN (n + 1 + 1 + 1 + 1 + 1) 4 = some 4 := ixN_lit (i := ((4 : Nat) : Int)) (by omega) (by omega)
theorem ixN_5 {n : Nat} : ixN (n + 1 + 1 + 1 + 1 + 1 + 1) 5 = some 5 := ixN_lit (i := ((5 : Nat) : Int)) (by omega) (by omega)
theorem pick_nil {A : Type} {us ws ds : List A} : pick us ws ds [] = [] := rfl
theorem pick_p {A : Type} {us ws ds : List A} {i : Nat} {l : List Src} : pick us ws ds (.p i :: l) = match us[i]? with | some x => x :: pick us ws ds l | none => pick us ws ds l := by
  unfold pick
  rw [List.filterMap_cons]
  show (match us[i]? with | none => _ | some b => _) = _
  cases us[i]? <;> rfl
theorem pick_k {A : Type} {us ws ds : List A} {i : Nat} {l : List Src} : pick us ws ds (.k i :: l) = match ws[i]? with | some x => x :: pick us ws ds l | none => pick us ws ds l := by
  unfold pick
  rw [List.filterMap_cons]
  show (match ws[i]? with | none => _ | some b => _) = _
  cases ws[i]? <;> rfl
theorem pick_d {A : Type} {us ws ds : List A} {i : Nat} {l : List Src} : pick us ws ds (.d i :: l) = match ds[i]? with | some x => x :: pick us ws ds l | none => pick us ws ds l := by
  unfold pick
  rw [List.filterMap_cons]
  show (match ds[i]? with | none => _ | some b => _) = _
  cases ds[i]? <;> rfl
theorem seq1 {t u : DS} {F : DEnds} {g : Gm} {O : Om} (h : ∀ N : Gm → Om → Prop, N = u F → t { F with nx := N } g O) : dSeq t u F g O := h (u F) rfl
theorem seq_by {t u : DS} {F : DEnds} {g : Gm} {O : Om} (Mid : Gm → Om → Prop) (h : ∀ N : Gm → Om → Prop, (∀ g O, Mid g O → N g O) → t { F with nx := N } g O) (k : ∀ g O, Mid g O → u F g O) : dSeq t u F g O := h (u F) k
def t_law_pull : DS :=
  (dSeq (dIfS (dAndT (dTest (dOp dEq (dOp dIx (dVar 0) (dC (.int 2))) (dC (.int 0)))) (dTest (dOp dLt (dOp dIx (dVar 0) (dC (.int 1))) (dCB dLen (dCons (dOp dIx (dVar 0) (dC (.int 0))) dNil))))) (dSeq (dSet 2 (dOp dIx (dOp dIx (dVar 0) (dC (.int 0))) (dOp dIx (dVar 0) (dC (.int 1)))))
  (dSeq (dAsg (dOp dAdd (dOp dIx (dVar 0) (dC (.int 1))) (dC (.int 1))) (gSubD (dVar 0) (dC (.int 1)) dSetL))
  (dIfS (dTest (dOp dGe (dVar 2) (dOp dPow (dC (.int 10)) (dC (.int 18))))) (dAsg (dVar 2) (gSubD (dVar 0) (dC (.int 2)) dSetL)) (dAsg (dOp dMod (dOp dAdd (dOp dAdd (dOp dMul (dOp dIx (dVar 0) (dC (.int 3))) (dC (.int 48271))) (dOp dMul (dOp dMod (dVar 2) (dC (.int 2147483629))) (dC (.int 69621)))) (dC (.int 77))) (dC (.int 2147483647))) (gSubD (dVar 0) (dC (.int 3)) dSetL))))) dNext)
  (dSeq (dIfS (dTest (dOp dGt (dOp dIx (dVar 0) (dC (.int 2))) (dC (.int 0)))) (dSeq (dSet 3 (dOp dMod (dOp dIx (dVar 0) (dC (.int 2))) (dVar 1)))
  (dSeq (dAsg (dOp dFd (dOp dIx (dVar 0) (dC (.int 2))) (dVar 1)) (gSubD (dVar 0) (dC (.int 2)) dSetL))
  (dRet (dVar 3)))) dNext)
  (dSeq (dSet 4 (dOp dIx (dVar 0) (dC (.int 3))))
  (dSeq (dAsg (dOp dAdd (dOp dIx (dVar 0) (dC (.int 4))) (dC (.int 1))) (gSubD (dVar 0) (dC (.int 4)) dSetL))
  (dSeq (dAsg (dOp dMod (dOp dAdd (dOp dAdd (dOp dPow (dVar 4) (dC (.int 3))) (dOp dMul (dC (.int 40692)) (dVar 4))) (dOp dMul (dC (.int 7919)) (dOp dIx (dVar 0) (dC (.int 4))))) (dC (.int 2147483647))) (gSubD (dVar 0) (dC (.int 3)) dSetL))
  (dRet (dOp dMod (dOp dAdd (dOp dFd (dOp dIx (dVar 0) (dC (.int 3))) (dC (.int 61))) (dOp dMul (dOp dMod (dOp dIx (dVar 0) (dC (.int 3))) (dC (.int 8191))) (dC (.int 37)))) (dVar 1))))))))
def n_law_pull : List Str := ["_law_bag_here", "_law_sides", "_law_cell", "_law_got", "_law_seed"]
def sp_law_pull : DSp := fun xs O R _ => ∃ (b : Addr) (n : Int), xs = [.ref b, .int n] ∧ 1 ≤ n ∧ n.natAbs.log2 < 9000 ∧ Bag O b ∧ ∀ r O', 0 ≤ r → r < n → Bst b O O' → R (.int r) O'
theorem bag_put {O : Om} {b c : Addr} {cells : List Int} {pos rem seed cnt : Int} (h0 : cellOf O b = some c) (hc : O c = some (.lst (cells.map D.int))) (hcb : c ≠ b) (hp : 0 ≤ pos) (hr : 0 ≤ rem) (hs : 0 ≤ seed) (hs2 : seed < 2147483647) : Bst b O (DL.up O b (bagV c pos rem seed cnt)) :=
  ⟨⟨c, cells, pos, rem, seed, cnt, up_same, by rw [up_ne hcb]; exact hc, hcb, hp, hr, hs, hs2⟩, fun a o n e => by rw [up_ne n]; exact e, by rw [cell_of up_same, h0]⟩
theorem d_law_pull : ∀ xs O R Z, sp_law_pull xs O R Z → t_law_pull (ends R) (startD n_law_pull xs) O := by
  rintro _ O R Z ⟨b, n, rfl, hn, hn2, ⟨c, cells, pos, rem, seed, cnt, hb, hc, hcb, hp, hr, hs, hs2⟩, k⟩
  have h0 : cellOf O b = some c := cell_of hb
  refine seq_by (fun g O' => (∃ x, g = [some (.ref b), some (.int n), x, none, none]) ∧ ∃ pos rem seed cnt, O' b = some (bagV c pos rem seed cnt) ∧ O' c = some (.lst (cells.map D.int)) ∧ 0 ≤ pos ∧ 0 ≤ rem ∧ 0 ≤ seed ∧ seed < 2147483647 ∧ ∀ a o, a ≠ b → O a = some o → O' a = some o) (fun N hN => ?_) ?_
  · show dIfS _ _ _ _ [some (.ref b), some (.int n), none, none, none] O
    simp only [dIfS, dAndT, dOrT, dNotT, dTest, dTruth, dTru, dAndV, dOrV, dNotV, dIf, dOp, dUn, dVar, dC, dI, dIc, dAdd, dSub, dMul, dFd, dMod, dPow, dNeg, dLt, dLe, dGt, dGe, dEq, dNe, dIsN, dNotN, DL.isNon, dIx, dSl, dPart, dNoPart, dCB, dLen, dAbs, dList, dTuple, dBls, dSum, dIsi, dIsi2, dtOf, isC, seqOf, lstOf, dCons, dNil, dTup, dLst, dRet, dRetN, dNext, dDrop, dAsg, gN, gsNil, gsCons, gT, gSubD, dSetL, dPar, dAug, dIpAdd, dIpSub, dCall, pick_nil, pick_p, pick_k, pick_d, dBreak, dCont, dLM, dLM0, isL, dAppend, dInsert, dPop, dPopAt, dRevL, dStr, dFmt, dJs, dMax2, dMin2, dSorted, dNewK, dctOf, dGetK, dHasK, DL.keyOf, dPutK, dDelK, dSortedD, dSet, dLstF, dRevF, dSlF, dListF, dSortedF, dSortedDF, dMaxF, dMinF, dInS, dLtA, dNewT, dGetT, dHasT, dctT, tkOf, keysOf, dTupP, dPutT, dPutP, putTk, pkOf, dSortedTF, dGet1, dGet2, dGet2T, dDisp1, dRep, dInt, dBits, dExtend, dReverse, dMaxDf, dCat, dCatF, dExtL, dDcT, Option.isSome_some, List.getElem?_cons_zero, List.getElem?_cons_succ, List.set_cons_zero, List.set_cons_succ, atI_0, atI_1, atI_2, atI_3, atI_4, atI_5, ixN_0, ixN_1, ixN_2, ixN_3, ixN_4, ixN_5, up_same, List.length_cons, List.length_nil, Bool.not_true, Bool.not_false, Bool.false_eq_true, if_true, if_false, reduceIte, dSeq, hb, hc, bagV, List.length_map]
    by_cases h1 : rem = 0
    · simp only [h1, decide_true, if_true]
      by_cases h2 : pos < (cells.length : Int)
      · obtain ⟨z, hz, _⟩ := atI_int hp h2
        simp only [h2, decide_true, if_true, hz]
        simp only [dIfS, dAndT, dOrT, dNotT, dTest, dTruth, dTru, dAndV, dOrV, dNotV, dIf, dOp, dUn, dVar, dC, dI, dIc, dAdd, dSub, dMul, dFd, dMod, dPow, dNeg, dLt, dLe, dGt, dGe, dEq, dNe, dIsN, dNotN, DL.isNon, dIx, dSl, dPart, dNoPart, dCB, dLen, dAbs, dList, dTuple, dBls, dSum, dIsi, dIsi2, dtOf, isC, seqOf, lstOf, dCons, dNil, dTup, dLst, dRet, dRetN, dNext, dDrop, dAsg, gN, gsNil, gsCons, gT, gSubD, dSetL, dPar, dAug, dIpAdd, dIpSub, dCall, pick_nil, pick_p, pick_k, pick_d, dBreak, dCont, dLM, dLM0, isL, dAppend, dInsert, dPop, dPopAt, dRevL, dStr, dFmt, dJs, dMax2, dMin2, dSorted, dNewK, dctOf, dGetK, dHasK, DL.keyOf, dPutK, dDelK, dSortedD, dSet, dLstF, dRevF, dSlF, dListF, dSortedF, dSortedDF, dMaxF, dMinF, dInS, dLtA, dNewT, dGetT, dHasT, dctT, tkOf, keysOf, dTupP, dPutT, dPutP, putTk, pkOf, dSortedTF, dGet1, dGet2, dGet2T, dDisp1, dRep, dInt, dBits, dExtend, dReverse, dMaxDf, dCat, dCatF, dExtL, dDcT, Option.isSome_some, List.getElem?_cons_zero, List.getElem?_cons_succ, List.set_cons_zero, List.set_cons_succ, atI_0, atI_1, atI_2, atI_3, atI_4, atI_5, ixN_0, ixN_1, ixN_2, ixN_3, ixN_4, ixN_5, up_same, List.length_cons, List.length_nil, Bool.not_true, Bool.not_false, Bool.false_eq_true, if_true, if_false, reduceIte, dSeq, hb, hc, bagV, up_ne hcb, up_up]
        refine ⟨⟨by decide, by decide, by decide⟩, ?_⟩
        by_cases h3 : z ≥ 10 ^ 18
        · have h3' : z ≥ 10 ^ (18 : Int).toNat := h3
          simp only [h3', decide_true, if_true]
          exact hN _ _ ⟨⟨_, rfl⟩, pos + 1, z, seed, cnt, up_same, by rw [up_ne hcb]; exact hc, by omega, by omega, hs, hs2, fun a o n e => by rw [up_ne n]; exact e⟩
        · have h3' : ¬ z ≥ 10 ^ (18 : Int).toNat := h3
          simp only [h3', decide_false, Bool.false_eq_true, if_false]
          refine ⟨Mok.l (by omega) (by omega), by decide, Mok.r (by decide) (by decide), by decide, hN _ _ ⟨⟨_, rfl⟩, pos + 1, rem, _, cnt, by rw [h1]; exact up_same, by rw [up_ne hcb]; exact hc, by omega, by omega, Int.emod_nonneg _ (by decide), Int.emod_lt_of_pos _ (by decide), fun a o n e => by rw [up_ne n]; exact e⟩⟩
      · simp only [h2, decide_false, Bool.false_eq_true, if_false]
        exact hN _ _ ⟨⟨_, rfl⟩, pos, rem, seed, cnt, hb, hc, hp, hr, hs, hs2, fun a o _ e => e⟩
    · simp only [h1, decide_false, Bool.false_eq_true, if_false]
      exact hN _ _ ⟨⟨_, rfl⟩, pos, rem, seed, cnt, hb, hc, hp, hr, hs, hs2, fun a o _ e => e⟩
  · rintro _ O' ⟨⟨x, rfl⟩, pos, rem, seed, cnt, hb, hc, hp, hr, hs, hs2, hk⟩
    simp only [dIfS, dAndT, dOrT, dNotT, dTest, dTruth, dTru, dAndV, dOrV, dNotV, dIf, dOp, dUn, dVar, dC, dI, dIc, dAdd, dSub, dMul, dFd, dMod, dPow, dNeg, dLt, dLe, dGt, dGe, dEq, dNe, dIsN, dNotN, DL.isNon, dIx, dSl, dPart, dNoPart, dCB, dLen, dAbs, dList, dTuple, dBls, dSum, dIsi, dIsi2, dtOf, isC, seqOf, lstOf, dCons, dNil, dTup, dLst, dRet, dRetN, dNext, dDrop, dAsg, gN, gsNil, gsCons, gT, gSubD, dSetL, dPar, dAug, dIpAdd, dIpSub, dCall, pick_nil, pick_p, pick_k, pick_d, dBreak, dCont, dLM, dLM0, isL, dAppend, dInsert, dPop, dPopAt, dRevL, dStr, dFmt, dJs, dMax2, dMin2, dSorted, dNewK, dctOf, dGetK, dHasK, DL.keyOf, dPutK, dDelK, dSortedD, dSet, dLstF, dRevF, dSlF, dListF, dSortedF, dSortedDF, dMaxF, dMinF, dInS, dLtA, dNewT, dGetT, dHasT, dctT, tkOf, keysOf, dTupP, dPutT, dPutP, putTk, pkOf, dSortedTF, dGet1, dGet2, dGet2T, dDisp1, dRep, dInt, dBits, dExtend, dReverse, dMaxDf, dCat, dCatF, dExtL, dDcT, Option.isSome_some, List.getElem?_cons_zero, List.getElem?_cons_succ, List.set_cons_zero, List.set_cons_succ, atI_0, atI_1, atI_2, atI_3, atI_4, atI_5, ixN_0, ixN_1, ixN_2, ixN_3, ixN_4, ixN_5, up_same, List.length_cons, List.length_nil, Bool.not_true, Bool.not_false, Bool.false_eq_true, if_true, if_false, reduceIte, dSeq, hb, hc, bagV, up_ne hcb, up_up]
    by_cases h1 : rem > 0
    · simp only [h1, decide_true, if_true]
      have hm := Int.emod_lt_of_pos rem (show 0 < n by omega)
      have hm0 := Int.emod_nonneg rem (show n ≠ 0 by omega)
      refine ⟨by omega, Dok.of (by omega) hn2, Fin.here (k _ _ hm0 hm ?_)⟩
      have q := bag_put (pos := pos) (rem := rem / n) (seed := seed) (cnt := cnt) (cell_of hb) hc hcb hp (Int.ediv_nonneg (by omega) (by omega)) hs hs2
      exact ⟨q.1, fun a o n e => q.2 a o n (hk a o n e), (q.cell.trans ((cell_of hb).trans h0.symm))⟩
    · simp only [h1, decide_false, Bool.false_eq_true, if_false]
      refine ⟨⟨by decide, by decide, by omega⟩, Mok.l (by decide) (by decide), Mok.l (by decide) (by decide), by decide, Dok.small (by decide) (by decide), by decide, Mok.r (by decide) (by decide), by omega, Fin.here (k _ _ (Int.emod_nonneg _ (by omega)) (Int.emod_lt_of_pos _ (by omega)) ?_)⟩
      have q := bag_put (pos := pos) (rem := rem) (seed := (seed ^ (3 : Int).toNat + 40692 * seed + 7919 * (cnt + 1)) % 2147483647) (cnt := cnt + 1) (cell_of hb) hc hcb hp hr (Int.emod_nonneg _ (by decide)) (Int.emod_lt_of_pos _ (by decide))
      exact ⟨q.1, fun a o n e => q.2 a o n (hk a o n e), (q.cell.trans ((cell_of hb).trans h0.symm))⟩
/-- a thing that is no part of the bag is written -/
theorem Bag.put {O : Om} {b p : Addr} {o : DO} (h : Bag O b) (hn : p ≠ b) (hc : cellOf O b ≠ some p) : Bag (DL.up O p o) b := by
  obtain ⟨c, cells, pos, rem, seed, cnt, h1, h2, h3⟩ := h
  refine ⟨c, cells, pos, rem, seed, cnt, by rw [up_ne (fun z => hn z.symm)]; exact h1, ?_, h3⟩
  rw [up_ne (fun z => hc (by rw [cell_of h1, z]))]
  exact h2
theorem Bag.free {O : Om} {b p : Addr} (h : Bag O b) (hp : O p = none) : p ≠ b ∧ cellOf O b ≠ some p := by
  obtain ⟨c, cells, pos, rem, seed, cnt, h1, h2, h3⟩ := h
  refine ⟨fun z => (by subst z; rw [hp] at h1; cases h1), fun z => ?_⟩
  rw [cell_of h1] at z
  cases z
  rw [hp] at h2
  cases h2
/-- what was new at O is written -/
theorem Bst.put {b p : Addr} {O O' : Om} {o : DO} (h : Bst b O O') (h0 : Bag O b) (hp : O p = none) : Bst b O (DL.up O' p o) := by
  obtain ⟨n1, n2⟩ := h0.free hp
  refine ⟨h.1.put n1 (by rw [h.cell]; exact n2), fun a u hn e => ?_, by rw [cell_up n1, h.cell]⟩
  rw [up_ne (fun z => by subst z; rw [hp] at e; cases e)]
  exact h.2 a u hn e
end Lw
set_option linter.all false
set_option maxRecDepth 100000
set_option maxHeartbeats 2000000
namespace Lw
open PySem PySem.Spec PyProof.Rows L2 DL
open Evl (Ex)
def Smi (i : Int) : Prop := i.natAbs.log2 < 60000000
theorem Smi.of {i : Int} {a : Nat} (h : i.natAbs < 2 ^ a) (h0 : 0 < a) (h1 : a ≤ 60000000) : Smi i := Nat.lt_of_lt_of_le (log2_lt h0 h) h1
theorem Smi.lit {i : Int} (h1 : -1000000000000000000 ≤ i) (h2 : i ≤ 1000000000000000000) : Smi i := Smi.of (a := 64) (by omega) (by decide) (by decide)
abbrev Pt := Int × Int
def pD (p : Pt) : D := .tup [.int p.1, .int p.2]
def SmP (p : Pt) : Prop := Smi p.1 ∧ Smi p.2
def ltP (p q : Pt) : Bool := decide (p.1 * q.2 < q.1 * p.2)
def lowP (p q : Int) : Pt := (p / (Int.gcd p q : Int), q / (Int.gcd p q : Int))
def sp_below : DSp := fun xs O R _ => ∃ p q : Pt, xs = [pD p, pD q] ∧ SmP p ∧ SmP q ∧ R (.bl (ltP p q)) O
theorem gcd_pos {p q : Int} (h : 0 < q) : (0 : Int) < (Int.gcd p q : Int) := by
  have : Int.gcd p q ≠ 0 := by
    intro e
    have := Int.gcd_eq_zero_iff.mp e
    omega
  omega
/-- a part in lowest terms -/
structure Low (p : Pt) : Prop where
  pos : 0 < p.2
  co : Int.gcd p.1 p.2 = 1
theorem low_Low {p q : Int} (h : 0 < q) : Low (lowP p q) := by
  have g1 := gcd_pos (p := p) h
  have d1 : (Int.gcd p q : Int) ∣ p := Int.gcd_dvd_left ..
  have d2 : (Int.gcd p q : Int) ∣ q := Int.gcd_dvd_right ..
  refine ⟨?_, ?_⟩
  · show 0 < q / (Int.gcd p q : Int)
    exact Int.ediv_pos_of_pos_of_dvd h (by omega) d2
  · show Int.gcd (p / (Int.gcd p q : Int)) (q / (Int.gcd p q : Int)) = 1
    rw [Int.gcd_ediv d1 d2]
    simp only [Int.natAbs_natCast]
    exact Nat.div_self (by omega)
theorem low_cross {p q : Int} (h : 0 < q) : (lowP p q).1 * q = p * (lowP p q).2 := by
  have d1 : (Int.gcd p q : Int) ∣ p := Int.gcd_dvd_left ..
  have d2 : (Int.gcd p q : Int) ∣ q := Int.gcd_dvd_right ..
  show p / (Int.gcd p q : Int) * q = p * (q / (Int.gcd p q : Int))
  obtain ⟨a, ha⟩ := d1
  obtain ⟨b, hb⟩ := d2
  have g1 := gcd_pos (p := p) h
  generalize (Int.gcd p q : Int) = g at *
  subst ha hb
  rw [Int.mul_ediv_cancel_left _ (by omega), Int.mul_ediv_cancel_left _ (by omega)]
  rw [Int.mul_comm g a, Int.mul_assoc]
theorem low_le {p q : Int} (h : 0 < q) : (lowP p q).1.natAbs ≤ p.natAbs ∧ (lowP p q).2.natAbs ≤ q.natAbs :=
  ⟨Int.natAbs_ediv_le_natAbs _ _, Int.natAbs_ediv_le_natAbs _ _⟩
/-- of a part: lowest terms, its numbers at most n -/
def PtN (n : Int) (p : Pt) : Prop := Low p ∧ -n ≤ p.1 ∧ p.1 ≤ n ∧ p.2 ≤ n
end Lw
set_option linter.all false
set_option maxRecDepth 100000
set_option maxHeartbeats 2000000
namespace Lw
open PySem PySem.Spec PyProof.Rows L2 DL
open Evl (Ex)
def t_law_bag : DS :=
  (dRet (dLst (dCons (dCB dList (dCons (dSl (dVar 0) dNoPart (dPart (dC (.int 63)))) dNil)) (dCons (dC (.int 0)) (dCons (dC (.int 0)) (dCons (dOp dAdd (dC (.int 1009)) (dOp dMul (dC (.int 31)) (dCB dLen (dCons (dSl (dVar 0) dNoPart (dPart (dC (.int 63)))) dNil)))) (dCons (dC (.int 0)) dNil)))))))
def n_law_bag : List Str := ["_law_script"]
def sp_law_bag : DSp := fun xs O R _ => ∃ ns : List Int, xs = [.lst (ns.map D.int)] ∧ ns.length ≤ 63 ∧ ∀ b O', O b = none → Bag O' b → Sb O O' → R (.ref b) O'
theorem cut_ints {ns : List Int} {lo hi : Option Int} : ∃ ms : List Int, DL.cutD (ns.map D.int) lo hi = ms.map D.int ∧ ms.length ≤ ns.length := by
  refine ⟨(ns.drop (HT.sIx (ns.map D.int).length 0 lo)).take (HT.sIx (ns.map D.int).length (ns.map D.int).length hi - HT.sIx (ns.map D.int).length 0 lo), ?_, ?_⟩
  · unfold DL.cutD
    rw [List.map_take, List.map_drop]
  · rw [List.length_take, List.length_drop]; omega
theorem d_law_bag : ∀ xs O R Z, sp_law_bag xs O R Z → t_law_bag (ends R) (startD n_law_bag xs) O := by
  rintro _ O R Z ⟨ns, rfl, hl, k⟩
  show t_law_bag (ends R) [some (.lst (ns.map D.int))] O
  obtain ⟨ms, e, he⟩ := cut_ints (ns := ns) (lo := none) (hi := some 63)
  simp only [dIfS, dAndT, dOrT, dNotT, dTest, dTruth, dTru, dAndV, dOrV, dNotV, dIf, dOp, dUn, dVar, dC, dI, dIc, dAdd, dSub, dMul, dFd, dMod, dPow, dNeg, dLt, dLe, dGt, dGe, dEq, dNe, dIsN, dNotN, DL.isNon, dIx, dSl, dPart, dNoPart, dCB, dLen, dAbs, dList, dTuple, dBls, dSum, dIsi, dIsi2, dtOf, isC, seqOf, lstOf, dCons, dNil, dTup, dLst, dRet, dRetN, dNext, dDrop, dAsg, gN, gsNil, gsCons, gT, gSubD, dSetL, dPar, dAug, dIpAdd, dIpSub, dCall, pick_nil, pick_p, pick_k, pick_d, dBreak, dCont, dLM, dLM0, isL, dAppend, dInsert, dPop, dPopAt, dRevL, dStr, dFmt, dJs, dMax2, dMin2, dSorted, dNewK, dctOf, dGetK, dHasK, DL.keyOf, dPutK, dDelK, dSortedD, dSet, dLstF, dRevF, dSlF, dListF, dSortedF, dSortedDF, dMaxF, dMinF, dInS, dLtA, dNewT, dGetT, dHasT, dctT, tkOf, keysOf, dTupP, dPutT, dPutP, putTk, pkOf, dSortedTF, dGet1, dGet2, dGet2T, dDisp1, dRep, dInt, dBits, dExtend, dReverse, dMaxDf, dCat, dCatF, dExtL, dDcT, Option.isSome_some, List.getElem?_cons_zero, List.getElem?_cons_succ, List.set_cons_zero, List.set_cons_succ, atI_0, atI_1, atI_2, atI_3, atI_4, atI_5, ixN_0, ixN_1, ixN_2, ixN_3, ixN_4, ixN_5, up_same, List.length_cons, List.length_nil, Bool.not_true, Bool.not_false, Bool.false_eq_true, if_true, if_false, reduceIte, dSeq, t_law_bag, e]
  intro p hp q hq
  have hq1 : O q = none := by
    cases h : O q with
    | none => rfl
    | some o => rw [Sb.new hp q o h] at hq; cases hq
  intro p2 hp2
  have n0 : q ≠ p := fun z => by subst z; rw [up_same] at hq; cases hq
  have n1 : p2 ≠ q := fun z => by subst z; rw [up_same] at hp2; cases hp2
  simp only [dIfS, dAndT, dOrT, dNotT, dTest, dTruth, dTru, dAndV, dOrV, dNotV, dIf, dOp, dUn, dVar, dC, dI, dIc, dAdd, dSub, dMul, dFd, dMod, dPow, dNeg, dLt, dLe, dGt, dGe, dEq, dNe, dIsN, dNotN, DL.isNon, dIx, dSl, dPart, dNoPart, dCB, dLen, dAbs, dList, dTuple, dBls, dSum, dIsi, dIsi2, dtOf, isC, seqOf, lstOf, dCons, dNil, dTup, dLst, dRet, dRetN, dNext, dDrop, dAsg, gN, gsNil, gsCons, gT, gSubD, dSetL, dPar, dAug, dIpAdd, dIpSub, dCall, pick_nil, pick_p, pick_k, pick_d, dBreak, dCont, dLM, dLM0, isL, dAppend, dInsert, dPop, dPopAt, dRevL, dStr, dFmt, dJs, dMax2, dMin2, dSorted, dNewK, dctOf, dGetK, dHasK, DL.keyOf, dPutK, dDelK, dSortedD, dSet, dLstF, dRevF, dSlF, dListF, dSortedF, dSortedDF, dMaxF, dMinF, dInS, dLtA, dNewT, dGetT, dHasT, dctT, tkOf, keysOf, dTupP, dPutT, dPutP, putTk, pkOf, dSortedTF, dGet1, dGet2, dGet2T, dDisp1, dRep, dInt, dBits, dExtend, dReverse, dMaxDf, dCat, dCatF, dExtL, dDcT, Option.isSome_some, List.getElem?_cons_zero, List.getElem?_cons_succ, List.set_cons_zero, List.set_cons_succ, atI_0, atI_1, atI_2, atI_3, atI_4, atI_5, ixN_0, ixN_1, ixN_2, ixN_3, ixN_4, ixN_5, up_same, List.length_cons, List.length_nil, Bool.not_true, Bool.not_false, Bool.false_eq_true, if_true, if_false, reduceIte, dSeq, List.length_map]
  refine ⟨Mok.l (by decide) (by decide), fun b hb => Fin.here (k b _ ?_ ?_ ?_)⟩
  · have s : Sb O (up (up (up O p (.lst (ms.map D.int))) q (.lst (ms.map D.int))) p2 (.lst (ms.map D.int))) := ((Sb.new hp).trans (Sb.new hq)).trans (Sb.new hp2)
    cases h : O b with
    | none => rfl
    | some o => rw [s b o h] at hb; cases hb
  · have nq : q ≠ b := fun z => by subst z; rw [up_ne n1.symm, up_same] at hb; cases hb
    refine ⟨q, ms, 0, 0, _, 0, up_same, ?_, nq, by decide, by decide, ?_, ?_⟩
    · rw [up_ne nq, up_ne n1.symm, up_same]
    · omega
    · omega
  · exact (((Sb.new hp).trans (Sb.new hq)).trans (Sb.new hp2)).trans (Sb.new hb)
theorem PtN.sm {n : Int} {p : Pt} (h : PtN n p) (hn : n ≤ 1000000000) : SmP p := by
  obtain ⟨lo, h1, h2, h3⟩ := h
  have := lo.pos
  exact ⟨Smi.lit (by omega) (by omega), Smi.lit (by omega) (by omega)⟩
theorem PtN.mono {n m : Int} {p : Pt} (h : PtN n p) (hn : n ≤ m) : PtN m p := ⟨h.1, by have := h.2.1; omega, by have := h.2.2.1; omega, by have := h.2.2.2; omega⟩
def scal : D → Bool
  | .non => true | .bl _ => true | .int _ => true | .str _ => true | _ => false
/-- the same data, seen through what is owned, at most n deep -/
def Sm (O : Om) : Nat → D → D → Prop
  | 0, x, y => x = y ∧ scal x = true
  | n + 1, x, y => (x = y ∧ scal x = true) ∨ (∃ xs ys, lstOf O x = some xs ∧ lstOf O y = some ys ∧ xs.length = ys.length ∧ xs.length ≤ 1000000 ∧ ∀ (i : Nat) (a b : D), xs[i]? = some a → ys[i]? = some b → Sm O n a b) ∨
      (∃ xs ys, x = .tup xs ∧ y = .tup ys ∧ xs.length = ys.length ∧ xs.length ≤ 1000000 ∧ ∀ (i : Nat) (a b : D), xs[i]? = some a → ys[i]? = some b → Sm O n a b)
def t_law_same (sp_law_same : DSp) : DS :=
  (dSeq (dIfS (dTest (dUn (dIsi2 .lst .tup) (dVar 1))) (dSeq (dIfS (dOrT (dTest (dOp dNe (dUn (dIsi .lst) (dVar 0)) (dUn (dIsi .lst) (dVar 1)))) (dTest (dOp dNe (dUn (dIsi .tup) (dVar 0)) (dUn (dIsi .tup) (dVar 1))))) (dRet (dC (.bl false))) dNext)
  (dRet (dAndV (dOp dEq (dCB dLen (dCons (dVar 0) dNil)) (dCB dLen (dCons (dVar 1) dNil))) (dCB (dBls fun bs => bs.all fun b => b) (dCons (dLc (dRng1 (dCons (dCB dLen (dCons (dVar 1) dNil)) dNil)) (gN 2) dYes (dCall sp_law_same [.p 0, .p 1] [] (dCons (dOp dIx (dVar 0) (dVar 2)) (dCons (dOp dIx (dVar 1) (dVar 2)) dNil)) dNil) [2]) dNil))))) dNext)
  (dSeq (dIfS (dOrT (dTest (dOp dIsN (dVar 1) (dC .non))) (dTest (dOp dIsN (dVar 0) (dC .non)))) (dRet (dAndV (dOp dIsN (dVar 0) (dC .non)) (dOp dIsN (dVar 1) (dC .non)))) dNext)
  (dSeq (dIfS (dOrT (dTest (dOp dNe (dUn (dIsi .bl) (dVar 1)) (dUn (dIsi .bl) (dVar 0)))) (dTest (dOp dNe (dUn (dIsi .int) (dVar 1)) (dUn (dIsi .int) (dVar 0))))) (dRet (dC (.bl false))) dNext)
  (dRet (dAndV (dOp dEq (dUn (dIsi .str) (dVar 1)) (dUn (dIsi .str) (dVar 0))) (dOp dEq (dVar 0) (dVar 1)))))))
def n_law_same : List Str := ["_law_found", "_law_due", "_law_k"]
def sp_law_sameN (n : Nat) : DSp := fun xs O R _ => ∃ x y, xs = [x, y] ∧ Sm O n x y ∧ R (.bl true) O
def sp_law_same : DSp := sp_law_sameN 9
theorem same_scal {O : Om} {R : D → Om → Prop} {x : D} {sp : DSp} (hs : scal x = true) (h : R (.bl true) O) : t_law_same sp (ends R) [some x, some x, none] O := by
  cases x <;> first | (cases hs; done) | skip
  all_goals (simp only [dIfS, dAndT, dOrT, dNotT, dTest, dTruth, dTru, dAndV, dOrV, dNotV, dIf, dOp, dUn, dVar, dC, dI, dIc, dAdd, dSub, dMul, dFd, dMod, dPow, dNeg, dLt, dLe, dGt, dGe, dEq, dNe, dIsN, dNotN, DL.isNon, dIx, dSl, dPart, dNoPart, dCB, dLen, dAbs, dList, dTuple, dBls, dSum, dIsi, dIsi2, dtOf, isC, seqOf, lstOf, dCons, dNil, dTup, dLst, dRet, dRetN, dNext, dDrop, dAsg, gN, gsNil, gsCons, gT, gSubD, dSetL, dPar, dAug, dIpAdd, dIpSub, dCall, pick_nil, pick_p, pick_k, pick_d, dBreak, dCont, dLM, dLM0, isL, dAppend, dInsert, dPop, dPopAt, dRevL, dStr, dFmt, dJs, dMax2, dMin2, dSorted, dNewK, dctOf, dGetK, dHasK, DL.keyOf, dPutK, dDelK, dSortedD, dSet, dLstF, dRevF, dSlF, dListF, dSortedF, dSortedDF, dMaxF, dMinF, dInS, dLtA, dNewT, dGetT, dHasT, dctT, tkOf, keysOf, dTupP, dPutT, dPutP, putTk, pkOf, dSortedTF, dGet1, dGet2, dGet2T, dDisp1, dRep, dInt, dBits, dExtend, dReverse, dMaxDf, dCat, dCatF, dExtL, dDcT, Option.isSome_some, List.getElem?_cons_zero, List.getElem?_cons_succ, List.set_cons_zero, List.set_cons_succ, atI_0, atI_1, atI_2, atI_3, atI_4, atI_5, ixN_0, ixN_1, ixN_2, ixN_3, ixN_4, ixN_5, up_same, List.length_cons, List.length_nil, Bool.not_true, Bool.not_false, Bool.false_eq_true, if_true, if_false, reduceIte, dSeq, t_law_same, decide_true, Bool.false_or, bne_self_eq_false, Bool.or_self])
  all_goals exact Fin.here h
/-- a comprehension whose turns leave all as it is -/
theorem comp_map {u : DG} {tt : DT} {te : DE} {ok : Om → Prop} {g : Gm} {R : List D → Om → Prop} {xs : List D} {O : Om} (f : D → D) (hok : ok O) (hl : xs.length < 16000000)
    (hs : ∀ (i : Nat) x, xs[i]? = some x → ∀ N : List D → Om → Prop, ∀ acc : List D, acc.length < sizeLine → N (acc ++ [f x]) O → u x g O fun g1 O1 => tt g1 O1 fun b O2 => if b = true then te g1 O2 fun y O3 => acc.length < sizeLine ∧ N (acc ++ [y]) O3 else N acc O2)
    (hd : R (xs.map f) O) : dComp u tt te ok g R xs [] O := by
  refine comp_by (fun pre acc O' => O' = O ∧ acc = pre.map f ∧ ∃ post, xs = pre ++ post) ⟨rfl, rfl, xs, rfl⟩ (fun _ _ _ h => by rw [h.1]; exact hok) ?_ ?_
  · rintro pre x post acc _ N e ⟨rfl, rfl, _⟩ k
    have hi : xs[pre.length]? = some x := by rw [e]; simp
    have hlen : pre.length < 16000000 := Nat.lt_of_lt_of_le (List.getElem?_eq_some_iff.mp hi).1 (Nat.le_of_lt hl)
    refine hs pre.length x hi N (pre.map f) (by rw [List.length_map, sizeLine_eq]; omega) (k _ _ ⟨rfl, by rw [List.map_append]; rfl, post, by rw [e, List.append_assoc]; rfl⟩)
  · rintro acc _ ⟨rfl, rfl, _⟩
    exact hd
theorem rgD_get {lo : Int} {n i : Nat} {x : D} (h : (rgD lo n)[i]? = some x) : i < n ∧ x = .int (lo + (i : Nat)) := by
  unfold rgD at h
  have hi : i < n := by simpa using (List.getElem?_eq_some_iff.mp h).1
  rw [List.getElem?_map, List.getElem?_range hi] at h
  cases h
  exact ⟨hi, rfl⟩
theorem rgD_len {lo : Int} {n : Nat} : (rgD lo n).length = n := by unfold rgD; simp
theorem atI_at {A : Type} {xs : List A} {i : Nat} {x : A} (h : xs[i]? = some x) : atI xs (i : Int) = some x := by
  have hi := (List.getElem?_eq_some_iff.mp h)
  rw [atI_cons hi.1, hi.2]
theorem dIx_seq {O : Om} {v w : D} {vs : List D} {i : Int} {Q : D → Om → Prop} (h1 : seqOf O v = some vs) (h2 : atI vs i = some w) (q : Q w O) : dIx v (.int i) O Q := by
  cases v <;> first | (cases h1; done) | skip
  all_goals (simp only [dIx, h1, h2]; exact q)
theorem lstOf_cases {O : Om} {x : D} {xs : List D} (h : lstOf O x = some xs) : x = .lst xs ∨ ∃ a, x = .ref a ∧ O a = some (.lst xs) := by
  cases x with
  | lst ys => cases h; exact .inl rfl
  | ref a =>
    refine .inr ⟨a, rfl, ?_⟩
    have h : (match O a with | some (.lst xs) => some xs | _ => none) = some xs := h
    cases e : O a with
    | none => rw [e] at h; cases h
    | some o => cases o <;> rw [e] at h <;> cases h <;> rfl
  | _ => cases h
theorem same_row {n : Nat} {O : Om} {x y : D} {xs ys : List D} (hx : seqOf O x = some xs) (hy : seqOf O y = some ys) (hl : xs.length = ys.length) (hl2 : xs.length ≤ 1000000) (hs : ∀ (i : Nat) (a b : D), xs[i]? = some a → ys[i]? = some b → Sm O n a b)
    (hlen : ∀ R, R (.int (ys.length : Nat)) O → dLen [y] O R) {R : D → Om → Prop} (k : ∀ p, O p = none → R (.ref p) (up O p (.lst ((List.replicate ys.length true).map D.bl)))) :
    dLc (dRng1 (dCons (dCB dLen (dCons (dVar 1) dNil)) dNil)) (gN 2) dYes (dCall (sp_law_sameN n) [.p 0, .p 1] [] (dCons (dOp dIx (dVar 0) (dVar 2)) (dCons (dOp dIx (dVar 1) (dVar 2)) dNil)) dNil) [2] [some x, some y, none] O R := by
  simp only [dLc, dRng1, dCB, dCons, dNil, dVar, List.getElem?_cons_succ, List.getElem?_cons_zero]
  refine hlen _ ?_
  refine ⟨by omega, by omega, ?_⟩
  have e : ((ys.length : Nat) : Int).toNat = ys.length := by omega
  rw [e]
  refine comp_map (fun _ => .bl true) True.intro (by rw [rgD_len]; omega) (fun i z hz N acc ha hN => ?_) ?_
  · obtain ⟨hi, rfl⟩ := rgD_get hz
    have ha1 : xs[i]? = some xs[i] := List.getElem?_eq_getElem (by omega)
    have hb1 : ys[i]? = some ys[i] := List.getElem?_eq_getElem hi
    simp only [gN, wipeD, dYes, dCall, dCons, dNil, dOp, dVar, List.set_cons_succ, List.set_cons_zero, List.getElem?_cons_succ, List.getElem?_cons_zero, if_true, Int.zero_add]
    refine dIx_seq hx (atI_at ha1) ?_
    refine dIx_seq hy (atI_at hb1) ?_
    exact ⟨_, _, rfl, hs i _ _ ha1 hb1, ha, hN⟩
  · intro p hp
    have e2 : (rgD 0 ys.length).map (fun _ => D.bl true) = (List.replicate ys.length true).map D.bl := by
      rw [List.map_const', rgD_len, List.map_replicate]
    rw [e2]
    exact k p hp
theorem d_law_same0 : ∀ xs O R Z, sp_law_sameN 0 xs O R Z → t_law_same spBot (ends R) (startD n_law_same xs) O := by
  rintro _ O R Z ⟨x, y, rfl, ⟨rfl, hs⟩, r⟩
  exact same_scal hs r
theorem d_law_same : ∀ n xs O R Z, sp_law_sameN (n + 1) xs O R Z → t_law_same (sp_law_sameN n) (ends R) (startD n_law_same xs) O := by
  rintro n _ O R Z ⟨x, y, rfl, h, r⟩
  show t_law_same _ (ends R) [some x, some y, none] O
  have fin : ∀ (m : Nat) (p : Addr), O p = none → (match DL.blsOf ((List.replicate m true).map D.bl) with | some bs => Fin R (.bl (bs.all fun b => b)) (up O p (.lst ((List.replicate m true).map D.bl))) | none => False) := fun m p hp => by
    rw [blsOf_map]
    have e : (List.replicate m true).all (fun b => b) = true := by simp
    show Fin R (.bl ((List.replicate m true).all fun b => b)) _
    rw [e]
    exact Sb.fin (Sb.new hp) r
  rcases h with ⟨rfl, hs⟩ | ⟨xs, ys, hx, hy, hl, hl2, hs⟩ | ⟨xs, ys, rfl, rfl, hl, hl2, hs⟩
  · exact same_scal hs r
  · rcases lstOf_cases hx with rfl | ⟨a, rfl, ha⟩ <;> rcases lstOf_cases hy with rfl | ⟨b, rfl, hb⟩
    · simp only [dIfS, dAndT, dOrT, dNotT, dTest, dTruth, dTru, dAndV, dOrV, dNotV, dIf, dOp, dUn, dVar, dC, dI, dIc, dAdd, dSub, dMul, dFd, dMod, dPow, dNeg, dLt, dLe, dGt, dGe, dEq, dNe, dIsN, dNotN, DL.isNon, dIx, dSl, dPart, dNoPart, dCB, dLen, dAbs, dList, dTuple, dBls, dSum, dIsi, dIsi2, dtOf, isC, seqOf, lstOf, dCons, dNil, dTup, dLst, dRet, dRetN, dNext, dDrop, dAsg, gN, gsNil, gsCons, gT, gSubD, dSetL, dPar, dAug, dIpAdd, dIpSub, dCall, pick_nil, pick_p, pick_k, pick_d, dBreak, dCont, dLM, dLM0, isL, dAppend, dInsert, dPop, dPopAt, dRevL, dStr, dFmt, dJs, dMax2, dMin2, dSorted, dNewK, dctOf, dGetK, dHasK, DL.keyOf, dPutK, dDelK, dSortedD, dSet, dLstF, dRevF, dSlF, dListF, dSortedF, dSortedDF, dMaxF, dMinF, dInS, dLtA, dNewT, dGetT, dHasT, dctT, tkOf, keysOf, dTupP, dPutT, dPutP, putTk, pkOf, dSortedTF, dGet1, dGet2, dGet2T, dDisp1, dRep, dInt, dBits, dExtend, dReverse, dMaxDf, dCat, dCatF, dExtL, dDcT, Option.isSome_some, List.getElem?_cons_zero, List.getElem?_cons_succ, List.set_cons_zero, List.set_cons_succ, atI_0, atI_1, atI_2, atI_3, atI_4, atI_5, ixN_0, ixN_1, ixN_2, ixN_3, ixN_4, ixN_5, up_same, List.length_cons, List.length_nil, Bool.not_true, Bool.not_false, Bool.false_eq_true, if_true, if_false, reduceIte, dSeq, t_law_same, hl, decide_true, Bool.or_self, Bool.true_or, Bool.or_true]
      exact same_row (x := .lst xs) (y := .lst ys) (n := n) rfl rfl hl hl2 hs (fun _ q => q) fun p hp => by simp only [dIfS, dAndT, dOrT, dNotT, dTest, dTruth, dTru, dAndV, dOrV, dNotV, dIf, dOp, dUn, dVar, dC, dI, dIc, dAdd, dSub, dMul, dFd, dMod, dPow, dNeg, dLt, dLe, dGt, dGe, dEq, dNe, dIsN, dNotN, DL.isNon, dIx, dSl, dPart, dNoPart, dCB, dLen, dAbs, dList, dTuple, dBls, dSum, dIsi, dIsi2, dtOf, isC, seqOf, lstOf, dCons, dNil, dTup, dLst, dRet, dRetN, dNext, dDrop, dAsg, gN, gsNil, gsCons, gT, gSubD, dSetL, dPar, dAug, dIpAdd, dIpSub, dCall, pick_nil, pick_p, pick_k, pick_d, dBreak, dCont, dLM, dLM0, isL, dAppend, dInsert, dPop, dPopAt, dRevL, dStr, dFmt, dJs, dMax2, dMin2, dSorted, dNewK, dctOf, dGetK, dHasK, DL.keyOf, dPutK, dDelK, dSortedD, dSet, dLstF, dRevF, dSlF, dListF, dSortedF, dSortedDF, dMaxF, dMinF, dInS, dLtA, dNewT, dGetT, dHasT, dctT, tkOf, keysOf, dTupP, dPutT, dPutP, putTk, pkOf, dSortedTF, dGet1, dGet2, dGet2T, dDisp1, dRep, dInt, dBits, dExtend, dReverse, dMaxDf, dCat, dCatF, dExtL, dDcT, Option.isSome_some, List.getElem?_cons_zero, List.getElem?_cons_succ, List.set_cons_zero, List.set_cons_succ, atI_0, atI_1, atI_2, atI_3, atI_4, atI_5, ixN_0, ixN_1, ixN_2, ixN_3, ixN_4, ixN_5, up_same, List.length_cons, List.length_nil, Bool.not_true, Bool.not_false, Bool.false_eq_true, if_true, if_false, reduceIte, dSeq, up_same]; exact fin _ p hp
    · simp only [dIfS, dAndT, dOrT, dNotT, dTest, dTruth, dTru, dAndV, dOrV, dNotV, dIf, dOp, dUn, dVar, dC, dI, dIc, dAdd, dSub, dMul, dFd, dMod, dPow, dNeg, dLt, dLe, dGt, dGe, dEq, dNe, dIsN, dNotN, DL.isNon, dIx, dSl, dPart, dNoPart, dCB, dLen, dAbs, dList, dTuple, dBls, dSum, dIsi, dIsi2, dtOf, isC, seqOf, lstOf, dCons, dNil, dTup, dLst, dRet, dRetN, dNext, dDrop, dAsg, gN, gsNil, gsCons, gT, gSubD, dSetL, dPar, dAug, dIpAdd, dIpSub, dCall, pick_nil, pick_p, pick_k, pick_d, dBreak, dCont, dLM, dLM0, isL, dAppend, dInsert, dPop, dPopAt, dRevL, dStr, dFmt, dJs, dMax2, dMin2, dSorted, dNewK, dctOf, dGetK, dHasK, DL.keyOf, dPutK, dDelK, dSortedD, dSet, dLstF, dRevF, dSlF, dListF, dSortedF, dSortedDF, dMaxF, dMinF, dInS, dLtA, dNewT, dGetT, dHasT, dctT, tkOf, keysOf, dTupP, dPutT, dPutP, putTk, pkOf, dSortedTF, dGet1, dGet2, dGet2T, dDisp1, dRep, dInt, dBits, dExtend, dReverse, dMaxDf, dCat, dCatF, dExtL, dDcT, Option.isSome_some, List.getElem?_cons_zero, List.getElem?_cons_succ, List.set_cons_zero, List.set_cons_succ, atI_0, atI_1, atI_2, atI_3, atI_4, atI_5, ixN_0, ixN_1, ixN_2, ixN_3, ixN_4, ixN_5, up_same, List.length_cons, List.length_nil, Bool.not_true, Bool.not_false, Bool.false_eq_true, if_true, if_false, reduceIte, dSeq, t_law_same, hl, decide_true, Bool.or_self, Bool.true_or, Bool.or_true, hb]
      exact same_row (x := .lst xs) (y := .ref b) (n := n) rfl (by simp only [dIfS, dAndT, dOrT, dNotT, dTest, dTruth, dTru, dAndV, dOrV, dNotV, dIf, dOp, dUn, dVar, dC, dI, dIc, dAdd, dSub, dMul, dFd, dMod, dPow, dNeg, dLt, dLe, dGt, dGe, dEq, dNe, dIsN, dNotN, DL.isNon, dIx, dSl, dPart, dNoPart, dCB, dLen, dAbs, dList, dTuple, dBls, dSum, dIsi, dIsi2, dtOf, isC, seqOf, lstOf, dCons, dNil, dTup, dLst, dRet, dRetN, dNext, dDrop, dAsg, gN, gsNil, gsCons, gT, gSubD, dSetL, dPar, dAug, dIpAdd, dIpSub, dCall, pick_nil, pick_p, pick_k, pick_d, dBreak, dCont, dLM, dLM0, isL, dAppend, dInsert, dPop, dPopAt, dRevL, dStr, dFmt, dJs, dMax2, dMin2, dSorted, dNewK, dctOf, dGetK, dHasK, DL.keyOf, dPutK, dDelK, dSortedD, dSet, dLstF, dRevF, dSlF, dListF, dSortedF, dSortedDF, dMaxF, dMinF, dInS, dLtA, dNewT, dGetT, dHasT, dctT, tkOf, keysOf, dTupP, dPutT, dPutP, putTk, pkOf, dSortedTF, dGet1, dGet2, dGet2T, dDisp1, dRep, dInt, dBits, dExtend, dReverse, dMaxDf, dCat, dCatF, dExtL, dDcT, Option.isSome_some, List.getElem?_cons_zero, List.getElem?_cons_succ, List.set_cons_zero, List.set_cons_succ, atI_0, atI_1, atI_2, atI_3, atI_4, atI_5, ixN_0, ixN_1, ixN_2, ixN_3, ixN_4, ixN_5, up_same, List.length_cons, List.length_nil, Bool.not_true, Bool.not_false, Bool.false_eq_true, if_true, if_false, reduceIte, dSeq, hb]) hl hl2 hs (fun _ q => by simp only [dIfS, dAndT, dOrT, dNotT, dTest, dTruth, dTru, dAndV, dOrV, dNotV, dIf, dOp, dUn, dVar, dC, dI, dIc, dAdd, dSub, dMul, dFd, dMod, dPow, dNeg, dLt, dLe, dGt, dGe, dEq, dNe, dIsN, dNotN, DL.isNon, dIx, dSl, dPart, dNoPart, dCB, dLen, dAbs, dList, dTuple, dBls, dSum, dIsi, dIsi2, dtOf, isC, seqOf, lstOf, dCons, dNil, dTup, dLst, dRet, dRetN, dNext, dDrop, dAsg, gN, gsNil, gsCons, gT, gSubD, dSetL, dPar, dAug, dIpAdd, dIpSub, dCall, pick_nil, pick_p, pick_k, pick_d, dBreak, dCont, dLM, dLM0, isL, dAppend, dInsert, dPop, dPopAt, dRevL, dStr, dFmt, dJs, dMax2, dMin2, dSorted, dNewK, dctOf, dGetK, dHasK, DL.keyOf, dPutK, dDelK, dSortedD, dSet, dLstF, dRevF, dSlF, dListF, dSortedF, dSortedDF, dMaxF, dMinF, dInS, dLtA, dNewT, dGetT, dHasT, dctT, tkOf, keysOf, dTupP, dPutT, dPutP, putTk, pkOf, dSortedTF, dGet1, dGet2, dGet2T, dDisp1, dRep, dInt, dBits, dExtend, dReverse, dMaxDf, dCat, dCatF, dExtL, dDcT, Option.isSome_some, List.getElem?_cons_zero, List.getElem?_cons_succ, List.set_cons_zero, List.set_cons_succ, atI_0, atI_1, atI_2, atI_3, atI_4, atI_5, ixN_0, ixN_1, ixN_2, ixN_3, ixN_4, ixN_5, up_same, List.length_cons, List.length_nil, Bool.not_true, Bool.not_false, Bool.false_eq_true, if_true, if_false, reduceIte, dSeq, hb]; exact q) fun p hp => by simp only [dIfS, dAndT, dOrT, dNotT, dTest, dTruth, dTru, dAndV, dOrV, dNotV, dIf, dOp, dUn, dVar, dC, dI, dIc, dAdd, dSub, dMul, dFd, dMod, dPow, dNeg, dLt, dLe, dGt, dGe, dEq, dNe, dIsN, dNotN, DL.isNon, dIx, dSl, dPart, dNoPart, dCB, dLen, dAbs, dList, dTuple, dBls, dSum, dIsi, dIsi2, dtOf, isC, seqOf, lstOf, dCons, dNil, dTup, dLst, dRet, dRetN, dNext, dDrop, dAsg, gN, gsNil, gsCons, gT, gSubD, dSetL, dPar, dAug, dIpAdd, dIpSub, dCall, pick_nil, pick_p, pick_k, pick_d, dBreak, dCont, dLM, dLM0, isL, dAppend, dInsert, dPop, dPopAt, dRevL, dStr, dFmt, dJs, dMax2, dMin2, dSorted, dNewK, dctOf, dGetK, dHasK, DL.keyOf, dPutK, dDelK, dSortedD, dSet, dLstF, dRevF, dSlF, dListF, dSortedF, dSortedDF, dMaxF, dMinF, dInS, dLtA, dNewT, dGetT, dHasT, dctT, tkOf, keysOf, dTupP, dPutT, dPutP, putTk, pkOf, dSortedTF, dGet1, dGet2, dGet2T, dDisp1, dRep, dInt, dBits, dExtend, dReverse, dMaxDf, dCat, dCatF, dExtL, dDcT, Option.isSome_some, List.getElem?_cons_zero, List.getElem?_cons_succ, List.set_cons_zero, List.set_cons_succ, atI_0, atI_1, atI_2, atI_3, atI_4, atI_5, ixN_0, ixN_1, ixN_2, ixN_3, ixN_4, ixN_5, up_same, List.length_cons, List.length_nil, Bool.not_true, Bool.not_false, Bool.false_eq_true, if_true, if_false, reduceIte, dSeq, up_same]; exact fin _ p hp
    · simp only [dIfS, dAndT, dOrT, dNotT, dTest, dTruth, dTru, dAndV, dOrV, dNotV, dIf, dOp, dUn, dVar, dC, dI, dIc, dAdd, dSub, dMul, dFd, dMod, dPow, dNeg, dLt, dLe, dGt, dGe, dEq, dNe, dIsN, dNotN, DL.isNon, dIx, dSl, dPart, dNoPart, dCB, dLen, dAbs, dList, dTuple, dBls, dSum, dIsi, dIsi2, dtOf, isC, seqOf, lstOf, dCons, dNil, dTup, dLst, dRet, dRetN, dNext, dDrop, dAsg, gN, gsNil, gsCons, gT, gSubD, dSetL, dPar, dAug, dIpAdd, dIpSub, dCall, pick_nil, pick_p, pick_k, pick_d, dBreak, dCont, dLM, dLM0, isL, dAppend, dInsert, dPop, dPopAt, dRevL, dStr, dFmt, dJs, dMax2, dMin2, dSorted, dNewK, dctOf, dGetK, dHasK, DL.keyOf, dPutK, dDelK, dSortedD, dSet, dLstF, dRevF, dSlF, dListF, dSortedF, dSortedDF, dMaxF, dMinF, dInS, dLtA, dNewT, dGetT, dHasT, dctT, tkOf, keysOf, dTupP, dPutT, dPutP, putTk, pkOf, dSortedTF, dGet1, dGet2, dGet2T, dDisp1, dRep, dInt, dBits, dExtend, dReverse, dMaxDf, dCat, dCatF, dExtL, dDcT, Option.isSome_some, List.getElem?_cons_zero, List.getElem?_cons_succ, List.set_cons_zero, List.set_cons_succ, atI_0, atI_1, atI_2, atI_3, atI_4, atI_5, ixN_0, ixN_1, ixN_2, ixN_3, ixN_4, ixN_5, up_same, List.length_cons, List.length_nil, Bool.not_true, Bool.not_false, Bool.false_eq_true, if_true, if_false, reduceIte, dSeq, t_law_same, hl, decide_true, Bool.or_self, Bool.true_or, Bool.or_true, ha]
      exact same_row (x := .ref a) (y := .lst ys) (n := n) (by simp only [dIfS, dAndT, dOrT, dNotT, dTest, dTruth, dTru, dAndV, dOrV, dNotV, dIf, dOp, dUn, dVar, dC, dI, dIc, dAdd, dSub, dMul, dFd, dMod, dPow, dNeg, dLt, dLe, dGt, dGe, dEq, dNe, dIsN, dNotN, DL.isNon, dIx, dSl, dPart, dNoPart, dCB, dLen, dAbs, dList, dTuple, dBls, dSum, dIsi, dIsi2, dtOf, isC, seqOf, lstOf, dCons, dNil, dTup, dLst, dRet, dRetN, dNext, dDrop, dAsg, gN, gsNil, gsCons, gT, gSubD, dSetL, dPar, dAug, dIpAdd, dIpSub, dCall, pick_nil, pick_p, pick_k, pick_d, dBreak, dCont, dLM, dLM0, isL, dAppend, dInsert, dPop, dPopAt, dRevL, dStr, dFmt, dJs, dMax2, dMin2, dSorted, dNewK, dctOf, dGetK, dHasK, DL.keyOf, dPutK, dDelK, dSortedD, dSet, dLstF, dRevF, dSlF, dListF, dSortedF, dSortedDF, dMaxF, dMinF, dInS, dLtA, dNewT, dGetT, dHasT, dctT, tkOf, keysOf, dTupP, dPutT, dPutP, putTk, pkOf, dSortedTF, dGet1, dGet2, dGet2T, dDisp1, dRep, dInt, dBits, dExtend, dReverse, dMaxDf, dCat, dCatF, dExtL, dDcT, Option.isSome_some, List.getElem?_cons_zero, List.getElem?_cons_succ, List.set_cons_zero, List.set_cons_succ, atI_0, atI_1, atI_2, atI_3, atI_4, atI_5, ixN_0, ixN_1, ixN_2, ixN_3, ixN_4, ixN_5, up_same, List.length_cons, List.length_nil, Bool.not_true, Bool.not_false, Bool.false_eq_true, if_true, if_false, reduceIte, dSeq, ha]) rfl hl hl2 hs (fun _ q => q) fun p hp => by simp only [dIfS, dAndT, dOrT, dNotT, dTest, dTruth, dTru, dAndV, dOrV, dNotV, dIf, dOp, dUn, dVar, dC, dI, dIc, dAdd, dSub, dMul, dFd, dMod, dPow, dNeg, dLt, dLe, dGt, dGe, dEq, dNe, dIsN, dNotN, DL.isNon, dIx, dSl, dPart, dNoPart, dCB, dLen, dAbs, dList, dTuple, dBls, dSum, dIsi, dIsi2, dtOf, isC, seqOf, lstOf, dCons, dNil, dTup, dLst, dRet, dRetN, dNext, dDrop, dAsg, gN, gsNil, gsCons, gT, gSubD, dSetL, dPar, dAug, dIpAdd, dIpSub, dCall, pick_nil, pick_p, pick_k, pick_d, dBreak, dCont, dLM, dLM0, isL, dAppend, dInsert, dPop, dPopAt, dRevL, dStr, dFmt, dJs, dMax2, dMin2, dSorted, dNewK, dctOf, dGetK, dHasK, DL.keyOf, dPutK, dDelK, dSortedD, dSet, dLstF, dRevF, dSlF, dListF, dSortedF, dSortedDF, dMaxF, dMinF, dInS, dLtA, dNewT, dGetT, dHasT, dctT, tkOf, keysOf, dTupP, dPutT, dPutP, putTk, pkOf, dSortedTF, dGet1, dGet2, dGet2T, dDisp1, dRep, dInt, dBits, dExtend, dReverse, dMaxDf, dCat, dCatF, dExtL, dDcT, Option.isSome_some, List.getElem?_cons_zero, List.getElem?_cons_succ, List.set_cons_zero, List.set_cons_succ, atI_0, atI_1, atI_2, atI_3, atI_4, atI_5, ixN_0, ixN_1, ixN_2, ixN_3, ixN_4, ixN_5, up_same, List.length_cons, List.length_nil, Bool.not_true, Bool.not_false, Bool.false_eq_true, if_true, if_false, reduceIte, dSeq, up_same]; exact fin _ p hp
    · simp only [dIfS, dAndT, dOrT, dNotT, dTest, dTruth, dTru, dAndV, dOrV, dNotV, dIf, dOp, dUn, dVar, dC, dI, dIc, dAdd, dSub, dMul, dFd, dMod, dPow, dNeg, dLt, dLe, dGt, dGe, dEq, dNe, dIsN, dNotN, DL.isNon, dIx, dSl, dPart, dNoPart, dCB, dLen, dAbs, dList, dTuple, dBls, dSum, dIsi, dIsi2, dtOf, isC, seqOf, lstOf, dCons, dNil, dTup, dLst, dRet, dRetN, dNext, dDrop, dAsg, gN, gsNil, gsCons, gT, gSubD, dSetL, dPar, dAug, dIpAdd, dIpSub, dCall, pick_nil, pick_p, pick_k, pick_d, dBreak, dCont, dLM, dLM0, isL, dAppend, dInsert, dPop, dPopAt, dRevL, dStr, dFmt, dJs, dMax2, dMin2, dSorted, dNewK, dctOf, dGetK, dHasK, DL.keyOf, dPutK, dDelK, dSortedD, dSet, dLstF, dRevF, dSlF, dListF, dSortedF, dSortedDF, dMaxF, dMinF, dInS, dLtA, dNewT, dGetT, dHasT, dctT, tkOf, keysOf, dTupP, dPutT, dPutP, putTk, pkOf, dSortedTF, dGet1, dGet2, dGet2T, dDisp1, dRep, dInt, dBits, dExtend, dReverse, dMaxDf, dCat, dCatF, dExtL, dDcT, Option.isSome_some, List.getElem?_cons_zero, List.getElem?_cons_succ, List.set_cons_zero, List.set_cons_succ, atI_0, atI_1, atI_2, atI_3, atI_4, atI_5, ixN_0, ixN_1, ixN_2, ixN_3, ixN_4, ixN_5, up_same, List.length_cons, List.length_nil, Bool.not_true, Bool.not_false, Bool.false_eq_true, if_true, if_false, reduceIte, dSeq, t_law_same, hl, decide_true, Bool.or_self, Bool.true_or, Bool.or_true, ha, hb]
      exact same_row (x := .ref a) (y := .ref b) (n := n) (by simp only [dIfS, dAndT, dOrT, dNotT, dTest, dTruth, dTru, dAndV, dOrV, dNotV, dIf, dOp, dUn, dVar, dC, dI, dIc, dAdd, dSub, dMul, dFd, dMod, dPow, dNeg, dLt, dLe, dGt, dGe, dEq, dNe, dIsN, dNotN, DL.isNon, dIx, dSl, dPart, dNoPart, dCB, dLen, dAbs, dList, dTuple, dBls, dSum, dIsi, dIsi2, dtOf, isC, seqOf, lstOf, dCons, dNil, dTup, dLst, dRet, dRetN, dNext, dDrop, dAsg, gN, gsNil, gsCons, gT, gSubD, dSetL, dPar, dAug, dIpAdd, dIpSub, dCall, pick_nil, pick_p, pick_k, pick_d, dBreak, dCont, dLM, dLM0, isL, dAppend, dInsert, dPop, dPopAt, dRevL, dStr, dFmt, dJs, dMax2, dMin2, dSorted, dNewK, dctOf, dGetK, dHasK, DL.keyOf, dPutK, dDelK, dSortedD, dSet, dLstF, dRevF, dSlF, dListF, dSortedF, dSortedDF, dMaxF, dMinF, dInS, dLtA, dNewT, dGetT, dHasT, dctT, tkOf, keysOf, dTupP, dPutT, dPutP, putTk, pkOf, dSortedTF, dGet1, dGet2, dGet2T, dDisp1, dRep, dInt, dBits, dExtend, dReverse, dMaxDf, dCat, dCatF, dExtL, dDcT, Option.isSome_some, List.getElem?_cons_zero, List.getElem?_cons_succ, List.set_cons_zero, List.set_cons_succ, atI_0, atI_1, atI_2, atI_3, atI_4, atI_5, ixN_0, ixN_1, ixN_2, ixN_3, ixN_4, ixN_5, up_same, List.length_cons, List.length_nil, Bool.not_true, Bool.not_false, Bool.false_eq_true, if_true, if_false, reduceIte, dSeq, ha]) (by simp only [dIfS, dAndT, dOrT, dNotT, dTest, dTruth, dTru, dAndV, dOrV, dNotV, dIf, dOp, dUn, dVar, dC, dI, dIc, dAdd, dSub, dMul, dFd, dMod, dPow, dNeg, dLt, dLe, dGt, dGe, dEq, dNe, dIsN, dNotN, DL.isNon, dIx, dSl, dPart, dNoPart, dCB, dLen, dAbs, dList, dTuple, dBls, dSum, dIsi, dIsi2, dtOf, isC, seqOf, lstOf, dCons, dNil, dTup, dLst, dRet, dRetN, dNext, dDrop, dAsg, gN, gsNil, gsCons, gT, gSubD, dSetL, dPar, dAug, dIpAdd, dIpSub, dCall, pick_nil, pick_p, pick_k, pick_d, dBreak, dCont, dLM, dLM0, isL, dAppend, dInsert, dPop, dPopAt, dRevL, dStr, dFmt, dJs, dMax2, dMin2, dSorted, dNewK, dctOf, dGetK, dHasK, DL.keyOf, dPutK, dDelK, dSortedD, dSet, dLstF, dRevF, dSlF, dListF, dSortedF, dSortedDF, dMaxF, dMinF, dInS, dLtA, dNewT, dGetT, dHasT, dctT, tkOf, keysOf, dTupP, dPutT, dPutP, putTk, pkOf, dSortedTF, dGet1, dGet2, dGet2T, dDisp1, dRep, dInt, dBits, dExtend, dReverse, dMaxDf, dCat, dCatF, dExtL, dDcT, Option.isSome_some, List.getElem?_cons_zero, List.getElem?_cons_succ, List.set_cons_zero, List.set_cons_succ, atI_0, atI_1, atI_2, atI_3, atI_4, atI_5, ixN_0, ixN_1, ixN_2, ixN_3, ixN_4, ixN_5, up_same, List.length_cons, List.length_nil, Bool.not_true, Bool.not_false, Bool.false_eq_true, if_true, if_false, reduceIte, dSeq, hb]) hl hl2 hs (fun _ q => by simp only [dIfS, dAndT, dOrT, dNotT, dTest, dTruth, dTru, dAndV, dOrV, dNotV, dIf, dOp, dUn, dVar, dC, dI, dIc, dAdd, dSub, dMul, dFd, dMod, dPow, dNeg, dLt, dLe, dGt, dGe, dEq, dNe, dIsN, dNotN, DL.isNon, dIx, dSl, dPart, dNoPart, dCB, dLen, dAbs, dList, dTuple, dBls, dSum, dIsi, dIsi2, dtOf, isC, seqOf, lstOf, dCons, dNil, dTup, dLst, dRet, dRetN, dNext, dDrop, dAsg, gN, gsNil, gsCons, gT, gSubD, dSetL, dPar, dAug, dIpAdd, dIpSub, dCall, pick_nil, pick_p, pick_k, pick_d, dBreak, dCont, dLM, dLM0, isL, dAppend, dInsert, dPop, dPopAt, dRevL, dStr, dFmt, dJs, dMax2, dMin2, dSorted, dNewK, dctOf, dGetK, dHasK, DL.keyOf, dPutK, dDelK, dSortedD, dSet, dLstF, dRevF, dSlF, dListF, dSortedF, dSortedDF, dMaxF, dMinF, dInS, dLtA, dNewT, dGetT, dHasT, dctT, tkOf, keysOf, dTupP, dPutT, dPutP, putTk, pkOf, dSortedTF, dGet1, dGet2, dGet2T, dDisp1, dRep, dInt, dBits, dExtend, dReverse, dMaxDf, dCat, dCatF, dExtL, dDcT, Option.isSome_some, List.getElem?_cons_zero, List.getElem?_cons_succ, List.set_cons_zero, List.set_cons_succ, atI_0, atI_1, atI_2, atI_3, atI_4, atI_5, ixN_0, ixN_1, ixN_2, ixN_3, ixN_4, ixN_5, up_same, List.length_cons, List.length_nil, Bool.not_true, Bool.not_false, Bool.false_eq_true, if_true, if_false, reduceIte, dSeq, hb]; exact q) fun p hp => by simp only [dIfS, dAndT, dOrT, dNotT, dTest, dTruth, dTru, dAndV, dOrV, dNotV, dIf, dOp, dUn, dVar, dC, dI, dIc, dAdd, dSub, dMul, dFd, dMod, dPow, dNeg, dLt, dLe, dGt, dGe, dEq, dNe, dIsN, dNotN, DL.isNon, dIx, dSl, dPart, dNoPart, dCB, dLen, dAbs, dList, dTuple, dBls, dSum, dIsi, dIsi2, dtOf, isC, seqOf, lstOf, dCons, dNil, dTup, dLst, dRet, dRetN, dNext, dDrop, dAsg, gN, gsNil, gsCons, gT, gSubD, dSetL, dPar, dAug, dIpAdd, dIpSub, dCall, pick_nil, pick_p, pick_k, pick_d, dBreak, dCont, dLM, dLM0, isL, dAppend, dInsert, dPop, dPopAt, dRevL, dStr, dFmt, dJs, dMax2, dMin2, dSorted, dNewK, dctOf, dGetK, dHasK, DL.keyOf, dPutK, dDelK, dSortedD, dSet, dLstF, dRevF, dSlF, dListF, dSortedF, dSortedDF, dMaxF, dMinF, dInS, dLtA, dNewT, dGetT, dHasT, dctT, tkOf, keysOf, dTupP, dPutT, dPutP, putTk, pkOf, dSortedTF, dGet1, dGet2, dGet2T, dDisp1, dRep, dInt, dBits, dExtend, dReverse, dMaxDf, dCat, dCatF, dExtL, dDcT, Option.isSome_some, List.getElem?_cons_zero, List.getElem?_cons_succ, List.set_cons_zero, List.set_cons_succ, atI_0, atI_1, atI_2, atI_3, atI_4, atI_5, ixN_0, ixN_1, ixN_2, ixN_3, ixN_4, ixN_5, up_same, List.length_cons, List.length_nil, Bool.not_true, Bool.not_false, Bool.false_eq_true, if_true, if_false, reduceIte, dSeq, up_same]; exact fin _ p hp
  · simp only [dIfS, dAndT, dOrT, dNotT, dTest, dTruth, dTru, dAndV, dOrV, dNotV, dIf, dOp, dUn, dVar, dC, dI, dIc, dAdd, dSub, dMul, dFd, dMod, dPow, dNeg, dLt, dLe, dGt, dGe, dEq, dNe, dIsN, dNotN, DL.isNon, dIx, dSl, dPart, dNoPart, dCB, dLen, dAbs, dList, dTuple, dBls, dSum, dIsi, dIsi2, dtOf, isC, seqOf, lstOf, dCons, dNil, dTup, dLst, dRet, dRetN, dNext, dDrop, dAsg, gN, gsNil, gsCons, gT, gSubD, dSetL, dPar, dAug, dIpAdd, dIpSub, dCall, pick_nil, pick_p, pick_k, pick_d, dBreak, dCont, dLM, dLM0, isL, dAppend, dInsert, dPop, dPopAt, dRevL, dStr, dFmt, dJs, dMax2, dMin2, dSorted, dNewK, dctOf, dGetK, dHasK, DL.keyOf, dPutK, dDelK, dSortedD, dSet, dLstF, dRevF, dSlF, dListF, dSortedF, dSortedDF, dMaxF, dMinF, dInS, dLtA, dNewT, dGetT, dHasT, dctT, tkOf, keysOf, dTupP, dPutT, dPutP, putTk, pkOf, dSortedTF, dGet1, dGet2, dGet2T, dDisp1, dRep, dInt, dBits, dExtend, dReverse, dMaxDf, dCat, dCatF, dExtL, dDcT, Option.isSome_some, List.getElem?_cons_zero, List.getElem?_cons_succ, List.set_cons_zero, List.set_cons_succ, atI_0, atI_1, atI_2, atI_3, atI_4, atI_5, ixN_0, ixN_1, ixN_2, ixN_3, ixN_4, ixN_5, up_same, List.length_cons, List.length_nil, Bool.not_true, Bool.not_false, Bool.false_eq_true, if_true, if_false, reduceIte, dSeq, t_law_same, hl, decide_true, Bool.or_self, Bool.true_or, Bool.or_true]
    exact same_row (x := .tup xs) (y := .tup ys) (n := n) rfl rfl hl hl2 hs (fun _ q => q) fun p hp => by simp only [dIfS, dAndT, dOrT, dNotT, dTest, dTruth, dTru, dAndV, dOrV, dNotV, dIf, dOp, dUn, dVar, dC, dI, dIc, dAdd, dSub, dMul, dFd, dMod, dPow, dNeg, dLt, dLe, dGt, dGe, dEq, dNe, dIsN, dNotN, DL.isNon, dIx, dSl, dPart, dNoPart, dCB, dLen, dAbs, dList, dTuple, dBls, dSum, dIsi, dIsi2, dtOf, isC, seqOf, lstOf, dCons, dNil, dTup, dLst, dRet, dRetN, dNext, dDrop, dAsg, gN, gsNil, gsCons, gT, gSubD, dSetL, dPar, dAug, dIpAdd, dIpSub, dCall, pick_nil, pick_p, pick_k, pick_d, dBreak, dCont, dLM, dLM0, isL, dAppend, dInsert, dPop, dPopAt, dRevL, dStr, dFmt, dJs, dMax2, dMin2, dSorted, dNewK, dctOf, dGetK, dHasK, DL.keyOf, dPutK, dDelK, dSortedD, dSet, dLstF, dRevF, dSlF, dListF, dSortedF, dSortedDF, dMaxF, dMinF, dInS, dLtA, dNewT, dGetT, dHasT, dctT, tkOf, keysOf, dTupP, dPutT, dPutP, putTk, pkOf, dSortedTF, dGet1, dGet2, dGet2T, dDisp1, dRep, dInt, dBits, dExtend, dReverse, dMaxDf, dCat, dCatF, dExtL, dDcT, Option.isSome_some, List.getElem?_cons_zero, List.getElem?_cons_succ, List.set_cons_zero, List.set_cons_succ, atI_0, atI_1, atI_2, atI_3, atI_4, atI_5, ixN_0, ixN_1, ixN_2, ixN_3, ixN_4, ixN_5, up_same, List.length_cons, List.length_nil, Bool.not_true, Bool.not_false, Bool.false_eq_true, if_true, if_false, reduceIte, dSeq, up_same]; exact fin _ p hp
theorem Sm.sc {O : Om} {n : Nat} {x : D} (h : scal x = true) : Sm O n x x := by
  cases n with
  | zero => exact ⟨rfl, h⟩
  | succ n => exact .inl ⟨rfl, h⟩
/-- two owned lists of the same items -/
theorem Sm.own {O : Om} {n : Nat} {p q : Addr} {xs ys : List D} (hp : O p = some (.lst xs)) (hq : O q = some (.lst ys)) (hl : xs.length = ys.length) (hl2 : xs.length ≤ 1000000) (h : ∀ (i : Nat) (a b : D), xs[i]? = some a → ys[i]? = some b → Sm O n a b) : Sm O (n + 1) (.ref p) (.ref q) :=
  .inr (.inl ⟨xs, ys, by simp only [lstOf, hp], by simp only [lstOf, hq], hl, hl2, h⟩)
theorem Sm.tup {O : Om} {n : Nat} {xs ys : List D} (hl : xs.length = ys.length) (hl2 : xs.length ≤ 1000000) (h : ∀ (i : Nat) (a b : D), xs[i]? = some a → ys[i]? = some b → Sm O n a b) : Sm O (n + 1) (.tup xs) (.tup ys) :=
  .inr (.inr ⟨xs, ys, rfl, rfl, hl, hl2, h⟩)
/-- rows item by item -/
inductive SmAll (O : Om) (n : Nat) : List D → List D → Prop
  | nil : SmAll O n [] []
  | cons {x y : D} {xs ys : List D} : Sm O n x y → SmAll O n xs ys → SmAll O n (x :: xs) (y :: ys)
theorem SmAll.len {O : Om} {n : Nat} {xs ys : List D} (h : SmAll O n xs ys) : xs.length = ys.length := by
  induction h with
  | nil => rfl
  | cons _ _ ih => rw [List.length_cons, List.length_cons, ih]
theorem SmAll.get {O : Om} {n : Nat} {xs ys : List D} (h : SmAll O n xs ys) : ∀ (i : Nat) (a b : D), xs[i]? = some a → ys[i]? = some b → Sm O n a b := by
  induction h with
  | nil => intro i a b e; simp at e
  | cons h1 h2 ih =>
    intro i a b ha hb
    cases i with
    | zero => simp at ha hb; subst ha hb; exact h1
    | succ i => exact ih i a b (by simpa using ha) (by simpa using hb)
theorem SmAll.own {O : Om} {n : Nat} {p q : Addr} {xs ys : List D} (hp : O p = some (.lst xs)) (hq : O q = some (.lst ys)) (hl2 : xs.length ≤ 1000000) (h : SmAll O n xs ys) : Sm O (n + 1) (.ref p) (.ref q) := Sm.own hp hq h.len hl2 h.get
theorem SmAll.tup {O : Om} {n : Nat} {xs ys : List D} (h : SmAll O n xs ys) (hl2 : xs.length ≤ 1000000) : Sm O (n + 1) (.tup xs) (.tup ys) := Sm.tup h.len hl2 h.get
theorem SmAll.map {A : Type} {O : Om} {n : Nat} {f g : A → D} : ∀ {as : List A}, (∀ a ∈ as, Sm O n (f a) (g a)) → SmAll O n (as.map f) (as.map g)
  | [], _ => .nil
  | a :: as, h => .cons (h a (by simp)) (SmAll.map (as := as) fun b hb => h b (by simp [hb]))
theorem Sm.pt {O : Om} {n : Nat} {p : Pt} : Sm O (n + 1) (pD p) (pD p) := SmAll.tup (.cons (Sm.sc rfl) (.cons (Sm.sc rfl) .nil)) (by simp)
/-- the law's same, asked of what is the same -/
theorem same_of {O : Om} {R : D → Om → Prop} {Z : XD} {x y : D} (h : Sm O 9 x y) (r : R (.bl true) O) : sp_law_same [x, y] O R Z := ⟨x, y, rfl, h, r⟩
end Lw
set_option linter.all false
set_option maxRecDepth 100000
set_option maxHeartbeats 2000000
namespace Lw
open PySem PySem.Spec PyProof.Rows L2 DL
open Evl (Ex)
def ptR (x : Rat) : Pt := (x.num, (x.den : Int))
def pR (x : Rat) : D := pD (ptR x)
theorem Low.rat {p : Pt} (h : Low p) : p = ptR (Rat.divInt p.1 p.2) := by
  obtain ⟨n, d⟩ := p
  have hd : 0 < d := h.pos
  have hc : Int.gcd n d = 1 := h.co
  obtain ⟨m, rfl⟩ := Int.eq_ofNat_of_zero_le (Int.le_of_lt hd)
  have hm : m ≠ 0 := by omega
  have e := Rat.mk_eq_divInt (num := n) (den := m) (nz := hm) (c := hc)
  show (n, (m : Int)) = ptR (Rat.divInt n (m : Int))
  rw [← e]
  rfl
theorem lowP_rat {p q : Int} (h : 0 < q) : lowP p q = ptR (Rat.divInt p q) := by
  rw [(low_Low (p := p) h).rat]
  congr 1
  have hl := (low_Low (p := p) h).pos
  rw [Rat.divInt_eq_divInt_iff (by omega) (by omega)]
  exact low_cross h
theorem ptR_eta (x : Rat) : Rat.divInt (ptR x).1 (ptR x).2 = x := Rat.num_divInt_den x
theorem den_ne (x : Rat) : ((x.den : Int) : Rat) ≠ 0 := by
  have := x.den_pos
  intro h
  have h2 : ((x.den : Int) : Rat) = ((0 : Int) : Rat) := h
  rw [Rat.intCast_inj] at h2
  omega
theorem num_div (x : Rat) : (x.num : Rat) / ((x.den : Int) : Rat) = x := by
  have := Rat.num_divInt_den x
  rw [Rat.divInt_eq_div] at this
  exact this
theorem add_rat (x y : Rat) : Rat.divInt (x.num * y.den + y.num * x.den) (x.den * y.den) = x + y := by
  have hx := den_ne x
  have hy := den_ne y
  have ex := num_div x
  have ey := num_div y
  rw [Rat.divInt_eq_div, Rat.intCast_add, Rat.intCast_mul, Rat.intCast_mul, Rat.intCast_mul]
  generalize ((x.den : Int) : Rat) = a at *
  generalize ((y.den : Int) : Rat) = b at *
  generalize (x.num : Rat) = n at *
  generalize (y.num : Rat) = m at *
  subst ex ey
  grind
theorem lt_rat (x y : Rat) : ltP (ptR x) (ptR y) = decide (x < y) := by
  unfold ltP ptR
  rw [decide_eq_decide]
  exact (Rat.lt_iff x y).symm
theorem pR_inj {x y : Rat} (h : ptR x = ptR y) : x = y := by
  rw [← ptR_eta x, ← ptR_eta y, h]
def Bz (n : Nat) (x : Rat) : Prop := x.num.natAbs < 2 ^ n ∧ x.den < 2 ^ n
theorem Bz.mono {m n : Nat} {x : Rat} (h : Bz m x) (k : m ≤ n) : Bz n x := ⟨Nat.lt_of_lt_of_le h.1 (Nat.pow_le_pow_right (by decide) k), Nat.lt_of_lt_of_le h.2 (Nat.pow_le_pow_right (by decide) k)⟩
theorem Bz.sm {n : Nat} {x : Rat} (h : Bz n x) (h0 : 0 < n) (k : n ≤ 60000000) : SmP (ptR x) := ⟨Smi.of (a := n) h.1 h0 k, Smi.of (a := n) (by show (x.den : Int).natAbs < _; simpa using h.2) h0 k⟩
theorem mul_lt {a b m n : Nat} (ha : a < 2 ^ m) (hb : b < 2 ^ n) : a * b < 2 ^ (m + n) := by
  rw [Nat.pow_add]
  exact Nat.mul_lt_mul'' ha hb
theorem Bz.divInt {n : Nat} {p q : Int} (hq : 0 < q) (h1 : p.natAbs < 2 ^ n) (h2 : q.natAbs < 2 ^ n) : Bz n (Rat.divInt p q) := by
  have e := lowP_rat (p := p) hq
  have l := low_le (p := p) hq
  rw [e] at l
  exact ⟨Nat.lt_of_le_of_lt l.1 h1, Nat.lt_of_le_of_lt (by simpa [ptR] using l.2) h2⟩
theorem den_posI (x : Rat) : (0 : Int) < (x.den : Int) := by have := x.den_pos; omega
theorem Bz.add {m n : Nat} {x y : Rat} (hx : Bz m x) (hy : Bz n y) : Bz (m + n + 1) (x + y) := by
  rw [← add_rat]
  refine Bz.divInt (Int.mul_pos (den_posI x) (den_posI y)) ?_ ?_
  · have a := mul_lt hx.1 hy.2
    have b := mul_lt hx.2 hy.1
    have c := Int.natAbs_add_le (x.num * y.den) (y.num * x.den)
    rw [Int.natAbs_mul, Int.natAbs_mul] at c
    simp only [Int.natAbs_natCast] at c
    rw [Nat.mul_comm y.num.natAbs] at c
    rw [Nat.pow_succ]
    omega
  · have a := mul_lt hx.2 hy.2
    rw [Int.natAbs_mul]
    simp only [Int.natAbs_natCast]
    rw [Nat.pow_succ]
    omega
theorem Bz.neg {m : Nat} {x : Rat} (hx : Bz m x) : Bz m (-x) := ⟨by rw [Rat.neg_num, Int.natAbs_neg]; exact hx.1, by rw [Rat.neg_den]; exact hx.2⟩
theorem Bz.sub {m n : Nat} {x y : Rat} (hx : Bz m x) (hy : Bz n y) : Bz (m + n + 1) (x - y) := by
  rw [Rat.sub_eq_add_neg]
  exact hx.add hy.neg
theorem Bz.den {m n : Nat} {x y : Rat} (hx : Bz m x) (hy : Bz n y) (h : m + n ≤ 9000) (h0 : 0 < m) : (((x.den : Int) * (y.den : Int))).natAbs.log2 < 9000 := by
  rw [Int.natAbs_mul]
  simp only [Int.natAbs_natCast]
  have := mul_lt hx.2 hy.2
  exact Nat.lt_of_lt_of_le ((Nat.log2_lt (by have := x.den_pos; have := y.den_pos; exact Nat.ne_of_gt (Nat.mul_pos this ‹0 < x.den›) |> fun z => by rw [Nat.mul_comm]; exact z)).mpr this) h
def sp_part : DSp := fun xs O R _ => ∃ p q : Int, xs = [.int p, .int q] ∧ 0 < q ∧ q.natAbs.log2 < 9000 ∧ R (pR (Rat.divInt p q)) O
/-- two parts, whose unders together are not too great -/
def Two (x y : Rat) : Prop := SmP (ptR x) ∧ SmP (ptR y) ∧ ((x.den : Int) * (y.den : Int)).natAbs.log2 < 9000
theorem Two.of {m n : Nat} {x y : Rat} (hx : Bz m x) (hy : Bz n y) (h : m + n ≤ 9000 := by omega) (h0 : 0 < m := by omega) (h1 : 0 < n := by omega) : Two x y := ⟨hx.sm h0 (by omega), hy.sm h1 (by omega), Bz.den hx hy h h0⟩
def sp_plus : DSp := fun xs O R _ => ∃ x y : Rat, xs = [pR x, pR y] ∧ Two x y ∧ R (pR (x + y)) O
def sp_less : DSp := fun xs O R _ => ∃ x y : Rat, xs = [pR x, pR y] ∧ Two x y ∧ R (pR (x - y)) O
def sp_times : DSp := fun xs O R _ => ∃ x y : Rat, xs = [pR x, pR y] ∧ Two x y ∧ R (pR (x * y)) O
def sp_over : DSp := fun xs O R _ => ∃ x y : Rat, xs = [pR x, pR y] ∧ y ≠ 0 ∧ SmP (ptR x) ∧ SmP (ptR y) ∧ ((x.den : Int) * y.num).natAbs.log2 < 9000 ∧ R (pR (x / y)) O
def sp_floor_of : DSp := fun xs O R _ => ∃ x : Rat, xs = [pR x] ∧ (x.den : Int).natAbs.log2 < 9000 ∧ R (.int (x.num / x.den)) O
def sp_ceiling_of : DSp := fun xs O R _ => ∃ x : Rat, xs = [pR x] ∧ (x.den : Int).natAbs.log2 < 9000 ∧ R (.int (0 - (0 - x.num) / x.den)) O
end Lw
set_option linter.all false
set_option maxRecDepth 100000
set_option maxHeartbeats 2000000
namespace Lw
open PySem PySem.Spec PyProof.Rows L2 DL
open Evl (Ex)
theorem loop_map {A : Type} {f : A → D} {u : DG} {tb : DS} {ok : Om → Prop} {F : DEnds} (I : List A → Gm → Om → Prop) {xs : List A} {g : Gm} {O : Om} (h0 : I [] g O) (hok : ∀ pre g O, I pre g O → ok O)
    (hs : ∀ pre x post g O (N : Gm → Om → Prop), xs = pre ++ x :: post → I pre g O → (∀ g' O', I (pre ++ [x]) g' O' → N g' O') → u (f x) g O fun g1 O1 => tb { F with nx := N, ct := N, bk := F.nx } g1 O1)
    (hd : ∀ g O, I xs g O → F.nx g O) : dLoop u tb ok F (xs.map f) g O := by
  have key : ∀ (post pre : List A) (g : Gm) (O : Om), xs = pre ++ post → I pre g O → dLoop u tb ok F (post.map f) g O := by
    intro post
    induction post with
    | nil =>
      intro pre g O e h
      rw [List.append_nil] at e
      subst e
      exact ⟨hok _ _ _ h, hd g O h⟩
    | cons x post ih =>
      intro pre g O e h
      exact ⟨hok _ _ _ h, hs pre x post g O _ e h fun g1 O1 h1 => ih (pre ++ [x]) g1 O1 (by rw [e, List.append_assoc]; rfl) h1⟩
  exact key xs [] g O rfl h0
theorem loop_ix {u : DG} {tb : DS} {ok : Om → Prop} {F : DEnds} {xs : List D} {g : Gm} {O : Om} (I : Nat → Gm → Om → Prop) (h0 : I 0 g O) (hok : ∀ i g O, I i g O → ok O)
    (hs : ∀ i x g O (N : Gm → Om → Prop), xs[i]? = some x → I i g O → (∀ g' O', I (i + 1) g' O' → N g' O') → u x g O fun g1 O1 => tb { F with nx := N, ct := N, bk := F.nx } g1 O1)
    (hd : ∀ g O, I xs.length g O → F.nx g O) : dLoop u tb ok F xs g O :=
  loop_by (fun pre => I pre.length) h0 (fun pre => hok pre.length) (fun pre x post g O N e h k => hs pre.length x g O N (by rw [e]; simp) h fun g' O' h' => k g' O' (by rw [List.length_append]; exact h')) hd
theorem comp_ix {u : DG} {tt : DT} {te : DE} {ok : Om → Prop} {g : Gm} {R : List D → Om → Prop} {xs : List D} {O : Om} (I : Nat → List D → Om → Prop) (h0 : I 0 [] O) (hok : ∀ i acc O, I i acc O → ok O)
    (hs : ∀ i x acc O (N : List D → Om → Prop), xs[i]? = some x → I i acc O → (∀ acc' O', I (i + 1) acc' O' → N acc' O') → u x g O fun g1 O1 => tt g1 O1 fun b O2 => if b = true then te g1 O2 fun y O3 => acc.length < sizeLine ∧ N (acc ++ [y]) O3 else N acc O2)
    (hd : ∀ acc O, I xs.length acc O → R acc O) : dComp u tt te ok g R xs [] O :=
  comp_by (fun pre => I pre.length) h0 (fun pre => hok pre.length) (fun pre x post acc O N e h k => hs pre.length x acc O N (by rw [e]; simp) h fun g' O' h' => k g' O' (by rw [List.length_append]; exact h')) hd
theorem rgD_get' {n i : Nat} {x : D} (h : (rgD 0 n)[i]? = some x) : i < n ∧ x = .int (i : Nat) := by
  obtain ⟨h1, h2⟩ := rgD_get h
  exact ⟨h1, by rw [h2, Int.zero_add]⟩
end Lw
set_option linter.all false
set_option maxRecDepth 100000
set_option maxHeartbeats 2000000
namespace Lw
open PySem PySem.Spec PyProof.Rows L2 DL
open Evl (Ex)
theorem pR_iff {x y : Rat} : pR x = pR y ↔ x = y := ⟨fun h => by
  have e : ptR x = ptR y := by
    unfold pR pD at h
    injection h with h
    injection h with h1 h2
    injection h2 with h2 h3
    injection h1 with h1
    injection h2 with h2
    exact Prod.ext h1 h2
  exact pR_inj e, fun h => by rw [h]⟩
theorem pRs {x y a b : Rat} : [pR x, pR y] = [pR a, pR b] ↔ x = a ∧ y = b := by
  rw [List.cons.injEq, List.cons.injEq, pR_iff, pR_iff]
  simp
section
variable {x y : Rat} {O : Om} {R : D → Om → Prop} {Z : XD}
theorem two_eq {f : Rat → Rat → Rat} : (∃ a b : Rat, [pR x, pR y] = [pR a, pR b] ∧ Two a b ∧ R (pR (f a b)) O) = (Two x y ∧ R (pR (f x y)) O) := by
  refine propext ⟨?_, fun h => ⟨x, y, rfl, h⟩⟩
  rintro ⟨a, b, e, h⟩
  obtain ⟨rfl, rfl⟩ := pRs.mp e
  exact h
theorem plus_eq : sp_plus [pR x, pR y] O R Z = (Two x y ∧ R (pR (x + y)) O) := two_eq (f := fun a b => a + b)
theorem less_eq : sp_less [pR x, pR y] O R Z = (Two x y ∧ R (pR (x - y)) O) := two_eq (f := fun a b => a - b)
theorem times_eq : sp_times [pR x, pR y] O R Z = (Two x y ∧ R (pR (x * y)) O) := two_eq (f := fun a b => a * b)
theorem over_eq : sp_over [pR x, pR y] O R Z = ((y ≠ 0 ∧ SmP (ptR x) ∧ SmP (ptR y) ∧ ((x.den : Int) * y.num).natAbs.log2 < 9000) ∧ R (pR (x / y)) O) := by
  refine propext ⟨?_, fun h => ⟨x, y, rfl, h.1.1, h.1.2.1, h.1.2.2.1, h.1.2.2.2, h.2⟩⟩
  rintro ⟨a, b, e, h1, h2, h3, h4, h5⟩
  obtain ⟨rfl, rfl⟩ := pRs.mp e
  exact ⟨⟨h1, h2, h3, h4⟩, h5⟩
theorem floor_eq : sp_floor_of [pR x] O R Z = ((x.den : Int).natAbs.log2 < 9000 ∧ R (.int (x.num / x.den)) O) := by
  refine propext ⟨?_, fun h => ⟨x, rfl, h⟩⟩
  rintro ⟨a, e, h⟩
  obtain rfl := pR_iff.mp (List.cons.inj e).1
  exact h
theorem ceil_eq : sp_ceiling_of [pR x] O R Z = ((x.den : Int).natAbs.log2 < 9000 ∧ R (.int (0 - (0 - x.num) / x.den)) O) := by
  refine propext ⟨?_, fun h => ⟨x, rfl, h⟩⟩
  rintro ⟨a, e, h⟩
  obtain rfl := pR_iff.mp (List.cons.inj e).1
  exact h
theorem part_eq {p q : Int} : sp_part [.int p, .int q] O R Z = ((0 < q ∧ q.natAbs.log2 < 9000) ∧ R (pR (Rat.divInt p q)) O) := by
  refine propext ⟨?_, fun h => ⟨p, q, rfl, h.1.1, h.1.2, h.2⟩⟩
  rintro ⟨a, b, e, h1, h2, h3⟩
  cases e
  exact ⟨⟨h1, h2⟩, h3⟩
theorem below_eq : sp_below [pR x, pR y] O R Z = ((SmP (ptR x) ∧ SmP (ptR y)) ∧ R (.bl (decide (x < y))) O) := by
  refine propext ⟨?_, fun h => ⟨ptR x, ptR y, rfl, h.1.1, h.1.2, by rw [lt_rat]; exact h.2⟩⟩
  rintro ⟨p, q, e, h1, h2, h3⟩
  have e1 : p = ptR x ∧ q = ptR y := by
    unfold pR pD at e
    injection e with e1 e2
    injection e2 with e2 _
    injection e1 with e1
    injection e2 with e2
    injection e1 with a1 a2
    injection a2 with a2 _
    injection e2 with b1 b2
    injection b2 with b2 _
    injection a1 with a1
    injection a2 with a2
    injection b1 with b1
    injection b2 with b2
    exact ⟨Prod.ext a1.symm a2.symm, Prod.ext b1.symm b2.symm⟩
  obtain ⟨rfl, rfl⟩ := e1
  exact ⟨⟨h1, h2⟩, by rw [← lt_rat]; exact h3⟩
theorem eq_int {i j : Int} : dEq (.int i) (.int j) O R = R (.bl (decide (i = j))) O := rfl
theorem ne_int {i j : Int} : dNe (.int i) (.int j) O R = R (.bl (!decide (i = j))) O := rfl
theorem eq_str {i j : Str} : dEq (.str i) (.str j) O R = R (.bl (decide (i = j))) O := rfl
theorem ne_str {i j : Str} : dNe (.str i) (.str j) O R = R (.bl (!decide (i = j))) O := rfl
theorem eq_bl {i j : Bool} : dEq (.bl i) (.bl j) O R = R (.bl (decide (i = j))) O := rfl
theorem ne_bl {i j : Bool} : dNe (.bl i) (.bl j) O R = R (.bl (!decide (i = j))) O := rfl
theorem seq_pR : seqOf O (pR x) = some [.int x.num, .int x.den] := rfl
theorem ix_pR0 : dIx (pR x) (.int 0) O R = R (.int x.num) O := by
  show (match atI [D.int x.num, .int x.den] 0 with | some z => R z O | none => False) = _
  rw [atI_0]
theorem ix_pR1 : dIx (pR x) (.int 1) O R = R (.int x.den) O := by
  show (match atI [D.int x.num, .int x.den] 1 with | some z => R z O | none => False) = _
  rw [atI_1]
theorem ix_tup {xs : List D} {i : Int} : dIx (.tup xs) (.int i) O R = match atI xs i with | some z => R z O | none => False := rfl
theorem ix_lst {xs : List D} {i : Int} : dIx (.lst xs) (.int i) O R = match atI xs i with | some z => R z O | none => False := rfl
theorem ix_ref {a : Addr} {i : Int} : dIx (.ref a) (.int i) O R = match seqOf O (.ref a) with | some xs => (match atI xs i with | some z => R z O | none => False) | none => False := rfl
theorem len_tup {xs : List D} : dLen [.tup xs] O R = R (.int (xs.length : Nat)) O := rfl
theorem len_lst {xs : List D} : dLen [.lst xs] O R = R (.int (xs.length : Nat)) O := rfl
theorem len_ref {a : Addr} : dLen [.ref a] O R = match O a with | some (.lst xs) => R (.int (xs.length : Nat)) O | some (.dK kvs) => R (.int (kvs.length : Nat)) O | _ => False := rfl
theorem vw_pR : Vw O (pR x) (.tuple [.int x.num, .int x.den]) := .tup (.cons (.int _) (.cons (.int _) .nil))
theorem vw_pR' {d : PyData} (h : Vw O (pR x) d) : d = .tuple [.int x.num, .int x.den] := by
  cases h with
  | tup h => cases h with
    | cons h1 h2 => cases h1; cases h2 with
      | cons h3 h4 => cases h3; cases h4; rfl
theorem eqv_pR : PyData.eqv (.tuple [.int x.num, .int x.den]) (.tuple [.int y.num, .int y.den]) = decide (x = y) := by
  have e : PyData.eqv (.tuple [.int x.num, .int x.den]) (.tuple [.int y.num, .int y.den]) = (decide (x.num = y.num) && (decide ((x.den : Int) = (y.den : Int)) && true)) := rfl
  rw [e, Bool.and_true, Bool.eq_iff_iff]
  simp only [Bool.and_eq_true, decide_eq_true_eq]
  exact ⟨fun h => pR_inj (Prod.ext h.1 h.2), fun h => by rw [h]; exact ⟨rfl, rfl⟩⟩
theorem shaped_pR : SeqAt.shaped (.tuple [.int x.num, .int x.den]) = true := rfl
theorem eqD_pR {n : Bool} : dEqD n (pR x) (pR y) O R = R (.bl (decide (x = y) != n)) O := by
  refine propext ⟨?_, fun h => ⟨_, _, vw_pR, vw_pR, shaped_pR, shaped_pR, by rw [eqv_pR]; exact h⟩⟩
  rintro ⟨d, e, h1, h2, h3, h4, h5⟩
  cases vw_pR' h1
  cases vw_pR' h2
  rw [eqv_pR] at h5
  exact h5
theorem eq_pR : dEq (pR x) (pR y) O R = R (.bl (decide (x = y))) O := by
  show dEqD false (pR x) (pR y) O R = _
  rw [eqD_pR, Bool.bne_false]
theorem ne_pR : dNe (pR x) (pR y) O R = R (.bl (!decide (x = y))) O := by
  show dEqD true (pR x) (pR y) O R = _
  rw [eqD_pR, Bool.bne_true]
end
def Seen (O : Om) (n : Nat) (x : D) (d : PyData) : Prop := Vw O x d ∧ d.canLay0 = true ∧ d.depth ≤ n
def SeenAll (O : Om) (n : Nat) (xs : List D) (ds : List PyData) : Prop := Vws O xs ds ∧ PyData.canLayAll0 ds = true ∧ PyData.depthAll ds ≤ n
theorem Seen.int {O : Om} {n : Nat} {i : Int} : Seen O n (.int i) (.int i) := ⟨.int i, rfl, Nat.zero_le _⟩
theorem Seen.str {O : Om} {n : Nat} {i : Str} (h : (PyData.str i).canLay0 = true) : Seen O n (.str i) (.str i) := ⟨.str i, h, Nat.zero_le _⟩
theorem Seen.bl {O : Om} {n : Nat} {i : Bool} : Seen O n (.bl i) (.bool i) := ⟨.bl i, rfl, Nat.zero_le _⟩
theorem Seen.non {O : Om} {n : Nat} : Seen O n .non .none := ⟨.non, rfl, Nat.zero_le _⟩
theorem SeenAll.nil {O : Om} {n : Nat} : SeenAll O n [] [] := ⟨.nil, rfl, Nat.zero_le _⟩
theorem SeenAll.cons {O : Om} {n : Nat} {x : D} {xs : List D} {d : PyData} {ds : List PyData} (h : Seen O n x d) (r : SeenAll O n xs ds) : SeenAll O n (x :: xs) (d :: ds) :=
  ⟨.cons h.1 r.1, by rw [PyData.canLayAll0, h.2.1, r.2.1]; rfl, by rw [PyData.depthAll]; exact Nat.max_le.mpr ⟨h.2.2, r.2.2⟩⟩
theorem SeenAll.map {A : Type} {O : Om} {n : Nat} {f : A → D} {g : A → PyData} : ∀ {as : List A}, (∀ a ∈ as, Seen O n (f a) (g a)) → SeenAll O n (as.map f) (as.map g)
  | [], _ => .nil
  | a :: as, h => .cons (h a (by simp)) (SeenAll.map (as := as) fun b hb => h b (by simp [hb]))
theorem SeenAll.tup {O : Om} {n : Nat} {xs : List D} {ds : List PyData} (h : SeenAll O n xs ds) : Seen O (n + 1) (.tup xs) (.tuple ds) := ⟨.tup h.1, by rw [PyData.canLay0]; exact h.2.1, by rw [PyData.depth]; exact Nat.succ_le_succ h.2.2⟩
theorem SeenAll.lst {O : Om} {n : Nat} {xs : List D} {ds : List PyData} (h : SeenAll O n xs ds) : Seen O (n + 1) (.lst xs) (.list ds) := ⟨.lst h.1, by rw [PyData.canLay0]; exact h.2.1, by rw [PyData.depth]; exact Nat.succ_le_succ h.2.2⟩
theorem SeenAll.ref {O : Om} {n : Nat} {a : Addr} {xs : List D} {ds : List PyData} (h : SeenAll O n xs ds) (e : O a = some (.lst xs)) : Seen O (n + 1) (.ref a) (.list ds) := ⟨.ref e h.1, by rw [PyData.canLay0]; exact h.2.1, by rw [PyData.depth]; exact Nat.succ_le_succ h.2.2⟩
theorem Seen.mono {O : Om} {m n : Nat} {x : D} {d : PyData} (h : Seen O m x d) (k : m ≤ n) : Seen O n x d := ⟨h.1, h.2.1, Nat.le_trans h.2.2 k⟩
theorem Seen.ok {O : Om} {n : Nat} {x : D} {d : PyData} (h : Seen O n x d) (k : n ≤ 64) : SeqAt.shaped d = true := by
  unfold SeqAt.shaped
  rw [h.2.1, Bool.true_and, decide_eq_true_eq]
  exact Nat.le_trans h.2.2 k
theorem lst_ref {O : Om} {a : Addr} {xs : List D} (h : O a = some (.lst xs)) : lstOf O (.ref a) = some xs := by simp only [lstOf, h]
theorem Sb.lst {O O' : Om} {x : D} {xs : List D} (s : Sb O O') (h : lstOf O x = some xs) : lstOf O' x = some xs := by
  cases x with
  | lst ys => exact h
  | ref a =>
    have h : (match O a with | some (.lst xs) => some xs | _ => none) = some xs := h
    cases e : O a with
    | none => rw [e] at h; cases h
    | some o =>
      cases o <;> rw [e] at h <;> cases h
      show (match O' a with | some (.lst xs) => some xs | _ => none) = some _
      rw [s a _ e]
  | _ => cases h
end Lw
set_option linter.all false
set_option maxRecDepth 100000
set_option maxHeartbeats 2000000
namespace Lw
open PySem PySem.Spec PyProof.Rows L2 DL
open Evl (Ex)
theorem comp_typed {A : Type} {u : DG} {tt : DT} {te : DE} {ok : Om → Prop} {g : Gm} {R : List D → Om → Prop} {O : Om} {f : A → D} {as : List A} (p : A → Bool) (h : A → D) (hok : ok O) (hl : as.length < 16000000)
    (hs : ∀ a, a ∈ as → ∀ (N : List D → Om → Prop) (acc : List D), acc.length < sizeLine → (p a = true → N (acc ++ [h a]) O) → (p a = false → N acc O) → u (f a) g O fun g1 O1 => tt g1 O1 fun b O2 => if b = true then te g1 O2 fun y O3 => acc.length < sizeLine ∧ N (acc ++ [y]) O3 else N acc O2)
    (hd : R ((as.filter p).map h) O) : dComp u tt te ok g R (as.map f) [] O := by
  have key : ∀ (post pre : List A), as = pre ++ post → dComp u tt te ok g R (post.map f) ((pre.filter p).map h) O := by
    intro post
    induction post with
    | nil =>
      intro pre e
      rw [List.append_nil] at e
      subst e
      exact ⟨hok, hd⟩
    | cons a post ih =>
      intro pre e
      have hlen : ((pre.filter p).map h).length < sizeLine := by
        have h1 := congrArg List.length e
        have h2 := List.length_filter_le p pre
        rw [List.length_map, sizeLine_eq]
        simp at h1
        omega
      refine ⟨hok, hs a (by rw [e]; simp) _ _ hlen (fun z => ?_) fun z => ?_⟩
      · have := ih (pre ++ [a]) (by rw [e, List.append_assoc]; rfl)
        rw [List.filter_append, List.filter_cons_of_pos z, List.filter_nil, List.map_append] at this
        exact this
      · have := ih (pre ++ [a]) (by rw [e, List.append_assoc]; rfl)
        rw [List.filter_append, List.filter_cons_of_neg (by rw [z]; decide), List.filter_nil, List.append_nil] at this
        exact this
  exact key as [] rfl
theorem comp_all {A : Type} {u : DG} {tt : DT} {te : DE} {ok : Om → Prop} {g : Gm} {R : List D → Om → Prop} {O : Om} {f : A → D} {as : List A} (h : A → D) (hok : ok O) (hl : as.length < 16000000)
    (hs : ∀ a, a ∈ as → ∀ (N : List D → Om → Prop) (acc : List D), acc.length < sizeLine → N (acc ++ [h a]) O → u (f a) g O fun g1 O1 => tt g1 O1 fun b O2 => if b = true then te g1 O2 fun y O3 => acc.length < sizeLine ∧ N (acc ++ [y]) O3 else N acc O2)
    (hd : R (as.map h) O) : dComp u tt te ok g R (as.map f) [] O :=
  comp_typed (fun _ => true) h hok hl (fun a ha N acc hacc k _ => hs a ha N acc hacc (k rfl)) (by rw [List.filter_eq_self.mpr (fun _ _ => rfl)]; exact hd)
def Pl : Nat → D → Prop
  | 0, x => scal x = true
  | n + 1, x => scal x = true ∨ ∃ xs, (x = .tup xs ∨ x = .lst xs) ∧ xs.length ≤ 1000000 ∧ ∀ y ∈ xs, Pl n y
theorem Pl.same {O : Om} : ∀ {n : Nat} {x : D}, Pl n x → Sm O n x x
  | 0, x, h => ⟨rfl, h⟩
  | n + 1, x, h => by
    rcases h with h | ⟨xs, rfl | rfl, h1, h2⟩
    · exact .inl ⟨rfl, h⟩
    · exact .inr (.inr ⟨xs, xs, rfl, rfl, rfl, h1, fun i a b ha hb => by
        rw [ha] at hb; cases hb; exact Pl.same (h2 a (List.mem_of_getElem? ha))⟩)
    · exact .inr (.inl ⟨xs, xs, rfl, rfl, rfl, h1, fun i a b ha hb => by
        rw [ha] at hb; cases hb; exact Pl.same (h2 a (List.mem_of_getElem? ha))⟩)
theorem Pl.int {n : Nat} {i : Int} : Pl n (.int i) := by cases n; exact rfl; exact .inl rfl
theorem Pl.str {n : Nat} {i : Str} : Pl n (.str i) := by cases n; exact rfl; exact .inl rfl
theorem Pl.bl {n : Nat} {i : Bool} : Pl n (.bl i) := by cases n; exact rfl; exact .inl rfl
theorem Pl.non {n : Nat} : Pl n .non := by cases n; exact rfl; exact .inl rfl
theorem Pl.tup {n : Nat} {xs : List D} (h : ∀ y ∈ xs, Pl n y) (hl : xs.length ≤ 1000000) : Pl (n + 1) (.tup xs) := .inr ⟨xs, .inl rfl, hl, h⟩
theorem Pl.lst {n : Nat} {xs : List D} (h : ∀ y ∈ xs, Pl n y) (hl : xs.length ≤ 1000000) : Pl (n + 1) (.lst xs) := .inr ⟨xs, .inr rfl, hl, h⟩
theorem Pl.map {A : Type} {n : Nat} {f : A → D} {as : List A} (h : ∀ a ∈ as, Pl n (f a)) : ∀ y ∈ as.map f, Pl n y := fun y hy => by
  obtain ⟨a, ha, rfl⟩ := List.mem_map.mp hy
  exact h a ha
theorem same_pl {O : Om} {R : D → Om → Prop} {Z : XD} {x : D} {n : Nat} (h : Pl 9 x) (r : R (.bl true) O) : sp_law_same [x, x] O R Z := same_of h.same r
theorem Pl.mono : ∀ {n m : Nat} {x : D}, Pl n x → n ≤ m → Pl m x
  | 0, m, x, h, _ => by cases m; exact h; exact .inl h
  | n + 1, m + 1, x, h, hm => by
    rcases h with h | ⟨xs, h0, h1, h2⟩
    · exact .inl h
    · exact .inr ⟨xs, h0, h1, fun y hy => (h2 y hy).mono (by omega)⟩
/-- an owned list and data -/
theorem Sm.ownL {O : Om} {n : Nat} {p : Addr} {xs : List D} (hp : O p = some (.lst xs)) (h : ∀ y ∈ xs, Pl n y) (hl : xs.length ≤ 1000000) : Sm O (n + 1) (.ref p) (.lst xs) :=
  .inr (.inl ⟨xs, xs, by simp only [lstOf, hp], rfl, rfl, hl, fun i a b ha hb => by
    rw [ha] at hb; cases hb; exact (h a (List.mem_of_getElem? ha)).same⟩)
theorem Seen.eqv {O : Om} {n m : Nat} {x y : D} {d e : PyData} {b : Bool} {R : D → Om → Prop} (h1 : Seen O n x d) (h2 : Seen O m y e) (k1 : n ≤ 64) (k2 : m ≤ 64) (r : R (.bl (PyData.eqv d e != b)) O) : dEqD b x y O R :=
  ⟨d, e, h1.1, h2.1, h1.ok k1, h2.ok k2, r⟩
theorem Sb.del {O O' : Om} {p : Addr} (s : Sb O O') (hp : O p = none) : Sb O (DL.del O' p) := fun a o e => by
  rw [DL.del_ne (some_ne_none hp e)]; exact s a o e
theorem Bst.del {b p : Addr} {O O' : Om} (h : Bst b O O') (h0 : Bag O b) (hp : O p = none) : Bst b O (DL.del O' p) := by
  obtain ⟨n1, n2⟩ := h0.free hp
  refine ⟨?_, fun a u hn e => ?_, ?_⟩
  · obtain ⟨c, cells, pos, rem, seed, cnt, h1, h2, h3⟩ := h.1
    refine ⟨c, cells, pos, rem, seed, cnt, by rw [DL.del_ne n1.symm]; exact h1, ?_, h3⟩
    rw [DL.del_ne (fun z => n2 (by rw [← h.cell, cell_of h1, z]))]
    exact h2
  · rw [DL.del_ne (some_ne_none hp e)]
    exact h.2 a u hn e
  · unfold cellOf
    rw [DL.del_ne n1.symm]
    exact h.cell
theorem Sb.up {O O' : Om} {p : Addr} {o : DO} (s : Sb O O') (hp : O p = none) : Sb O (DL.up O' p o) := fun a u e => by
  rw [up_ne (some_ne_none hp e)]; exact s a u e
theorem Sb.none {O O' : Om} {p : Addr} (s : Sb O O') (hp : O' p = Option.none) : O p = Option.none := by
  cases e : O p with
  | none => rfl
  | some o => rw [s p o e] at hp; cases hp
end Lw
set_option linter.all false
set_option maxRecDepth 100000
set_option maxHeartbeats 2000000
namespace Lw
open PySem PySem.Spec PyProof.Rows L2 DL
open Evl (Ex)
section
variable {x y : Rat} {O : Om} {R : D → Om → Prop} {Z : XD}
theorem Bz.int {n : Int} {m : Nat} (h : n.natAbs < 2 ^ m) (hm : 0 < m) : Bz m (n : Rat) := ⟨h, by
  have : 2 ^ 1 ≤ 2 ^ m := Nat.pow_le_pow_right (by decide) hm
  show 1 < 2 ^ m
  omega⟩
end
end Lw
set_option linter.all false
set_option maxRecDepth 100000
set_option maxHeartbeats 1000000
namespace Lw
open PySem PySem.Spec PyProof.Rows L2 DL
open Evl (Ex)
theorem forC {n : Int} {u : DG} {tb : DS} {F : DEnds} {g : Gm} {O : Om} (h1 : -2 ^ 62 ≤ n) (h2 : n < 2 ^ 62) (h : dLoop u tb Tr F (rgD 0 n.toNat) g O) : dFor (dRng1 (dCons (dC (.int n)) dNil)) u tb F g O := ⟨h1, h2, h⟩
theorem comp_draw {A : Type} {f : A → D} (P : A → Prop) {u : DG} {tt : DT} {te : DE} {ok : Om → Prop} {g : Gm} {R : List D → Om → Prop} {xs : List D} {O O0 : Om} {b : Addr} (s0 : Bst b O0 O) (hok : ∀ O, ok O) (hl : xs.length ≤ 1000000)
    (hs : ∀ x acc O2 (N : List D → Om → Prop), x ∈ xs → acc.length < sizeLine → Bst b O0 O2 → (∀ a O3, P a → Bst b O2 O3 → N (acc ++ [f a]) O3) → u x g O2 fun g1 O1 => tt g1 O1 fun c O2 => if c = true then te g1 O2 fun y O3 => acc.length < sizeLine ∧ N (acc ++ [y]) O3 else N acc O2)
    (hd : ∀ (as : List A) O2, as.length = xs.length → (∀ a ∈ as, P a) → Bst b O0 O2 → R (as.map f) O2) : dComp u tt te ok g R xs [] O := by
  refine comp_ix (fun i acc O' => ∃ as : List A, acc = as.map f ∧ as.length = i ∧ (∀ a ∈ as, P a) ∧ Bst b O0 O' ∧ i ≤ xs.length) ⟨[], rfl, rfl, fun m h => by simp at h, s0, by omega⟩ (fun _ _ O _ => hok O) ?_ ?_
  · rintro i x _ O2 N hx ⟨as, rfl, hl', hg, s2, hi⟩ hN
    have hi' := (List.getElem?_eq_some_iff.mp hx).1
    refine hs x _ O2 N (List.mem_of_getElem? hx) (by rw [List.length_map, sizeLine_eq]; omega) s2 fun a O3 ha s3 => hN _ _ ⟨as ++ [a], by rw [List.map_append]; rfl, by rw [List.length_append]; show as.length + 1 = _; omega, fun z hz => ?_, s2.trans s3, by omega⟩
    rcases List.mem_append.mp hz with hz | hz
    · exact hg z hz
    · rw [List.mem_singleton.mp hz]; exact ha
  · rintro _ O2 ⟨as, rfl, hl', hg, s2, hi⟩
    exact hd as O2 hl' hg s2
theorem Bst.none {b p : Addr} {O O' : Om} (h : Bst b O O') (hp : O' p = Option.none) : O p = Option.none := by
  cases e : O p with
  | none => rfl
  | some o =>
    by_cases hb : p = b
    · subst hb
      obtain ⟨c, _, _, _, _, _, _, e1, _⟩ := h.1.cell
      rw [e1] at hp; cases hp
    · rw [h.2 p o hb e] at hp; cases hp
theorem Bst.own {b p : Addr} {O O' : Om} {o : DO} (h : Bst b (DL.up O p o) O') (h0 : Bag O b) (hp : O p = Option.none) : O' p = some o := h.2 p o (h0.free hp).1 up_same
theorem ne_refnil {O : Om} {R : D → Om → Prop} {p : Addr} {xs : List D} {ds : List PyData} {n : Nat} (hp : O p = some (.lst xs)) (h : SeenAll O n xs ds) (hn : n < 64) (r : R (.bl (!xs.isEmpty)) O) : dNe (.ref p) (.lst []) O R := by
  refine Seen.eqv (n := n + 1) (m := 1) (h.ref hp) (SeenAll.lst .nil) hn (by decide) ?_
  have e : PyData.eqv (.list ds) (.list []) = xs.isEmpty := by
    obtain ⟨hv, _, _⟩ := h
    cases hv <;> rfl
  rw [e]
  cases h2 : xs.isEmpty <;> rw [h2] at r <;> exact r
theorem comp2_len {A : Type} {u u1 : DG} {tt tt1 : DT} {it1 : DI} {te : DE} {vs1 : List Nat} {ok : Om → Prop} {g : Gm} {R : List D → Om → Prop} {O : Om} {f : A → D} {as : List A} (inn : A → List D) (hok : ok O)
    (hs : ∀ a, a ∈ as → ∀ (N : List D → Om → Prop) (acc : List D), acc.length + (inn a).length ≤ (as.flatMap inn).length → N (acc ++ inn a) O → u (f a) g O fun g1 O1 => tt g1 O1 fun b O2 => if b = true then it1 g1 O2 fun ys ok1 O3 => dComp u1 tt1 te ok1 (wipeD g1 vs1) N ys acc O3 else N acc O2)
    (hd : R (as.flatMap inn) O) : dComp2 u tt it1 u1 tt1 te vs1 ok g R (as.map f) [] O := by
  have key : ∀ (post pre : List A), as = pre ++ post → dComp2 u tt it1 u1 tt1 te vs1 ok g R (post.map f) (pre.flatMap inn) O := by
    intro post
    induction post with
    | nil =>
      intro pre e
      rw [List.append_nil] at e
      subst e
      exact ⟨hok, hd⟩
    | cons a post ih =>
      intro pre e
      refine ⟨hok, hs a (by rw [e]; simp) (fun acc' O4 => dComp2 u tt it1 u1 tt1 te vs1 ok g R (post.map f) acc' O4) _ ?_ ?_⟩
      · rw [e, List.flatMap_append, List.flatMap_cons, List.length_append, List.length_append]
        omega
      · have := ih (pre ++ [a]) (by rw [e, List.append_assoc]; rfl)
        rw [List.flatMap_append, List.flatMap_cons, List.flatMap_nil, List.append_nil] at this
        exact this
  exact key as [] rfl
theorem ne_anil {O : Om} {R : D → Om → Prop} {x : D} {xs : List D} {ds : List PyData} {n : Nat} (hx : lstOf O x = some xs) (h : SeenAll O n xs ds) (hn : n < 64) (r : R (.bl (!xs.isEmpty)) O) : dNe x (.lst []) O R := by
  rcases lstOf_cases hx with rfl | ⟨a, rfl, ha⟩
  · refine Seen.eqv (d := .list ds) (e := .list []) (SeenAll.lst h) (SeenAll.lst (n := 0) .nil) hn (by decide) ?_
    have e : PyData.eqv (.list ds) (.list []) = xs.isEmpty := by cases h.1 <;> rfl
    rw [e]
    cases h2 : xs.isEmpty <;> rw [h2] at r <;> exact r
  · exact ne_refnil ha h hn r
end Lw
set_option Elab.async false
set_option linter.all false
set_option maxRecDepth 100000
set_option maxHeartbeats 2000000
namespace DL
open PySem PySem.Spec PyProof.Rows L2
open Evl (Ex)
/-- the i-th statement of a class -/
def clsFn (i : Nat) : Stmt → Stmt
  | .ClassDef (body := b) .. => b.getD i (.Pass ⟨0, 0, 0, 0⟩)
  | s => s
def lowX (K : PySem.W.Frag) (W : WX) (t : XD → DE) : TE := fun s H Q => ∃ (G : Hp) (O : Om) (g : Gm) (R : D → Om → Prop) (Z : XD), Rel K G O H ∧ GR K G s g ∧ t Z g O R ∧
  (∀ x O' v G' H', Go K G O H G' O' H' → VR K G' v x → R x O' → Q v H') ∧ ∀ c e O' G' H', Go K G O H G' O' H' → Z c e O' → W c e s H'
section
variable {X : Cx} {CX : CXT} {k : Nat} {f : Addr} {fd : FuncData} {ps ks : List Str} {sp : Sp} {dsp : DSp} {srcs : List Src} {dvs : List V} {ds : List D} {x : Str} {p pos kpos : Pos} {e : Expr} {es : List Expr} {kws : List Keyword} {te : DE} {t tk : DA} {n m : Nat} {W : WX}
theorem run_any {pins : List (Addr × Obj)} {σ : L2.St} {H : Hp} {s : Shared} {Q : VK} {us ws : List Value} {vs zs : List V} {E : XK} (F : FnOk X.prog X.w X.K X.mg X.base CX k f fd ps sp) (hr : Room k X.A) (hb : Bnd X.K fd ps n ks srcs dvs) (hx : PassesAt CX X σ E)
    (I : Inv X pins σ H s) (r : Vals vs us) (rz : Vals zs ws) (hn : vs.length = n) (hm : zs.length = ks.length) (h : sp (pick vs zs dvs srcs) H Q E) : wpAny (model X.prog X.w) X.A (call (.ref f) us (ks.zip ws)) (EP X pins σ Q) X.xe s := by
  obtain ⟨ds, rd, hb⟩ := hb.to
  have r2 := pick_vals r rz rd srcs
  refine wpAny_call (codeAny_mono (F.run X.A X.stack s H ⟨us, ks.zip ws⟩ (pick us ws ds srcs) (pick vs zs dvs srcs) Q E hr I.env0 (hb s us ws I.kIn (by rw [← r.length]; exact hn) (by rw [← rz.length]; exact hm)) r2 h) fun r s' hq => ?_)
  cases r with
  | error e => exact hx pins H s e s' I hq
  | ok fl =>
    cases fl with
    | ret u => exact I.after hq
    | next => exact False.elim hq
    | brk => exact False.elim hq
    | cont => exact False.elim hq
/-- where the promise lets nothing out -/
theorem calm {P : Program} {w : World} {K : PySem.W.Frag} {mg : Str → Option Value} {base : Heap} (F : FnOk P w K mg base (L2.CX P w) k f fd ps (toSp K dsp)) : FnOk P w K mg base CX0 k f fd ps (toSp K fun xs O R _ => dsp xs O R X0) := by
  have c : ∀ {vs H Q E}, toSp K (fun xs O R _ => dsp xs O R X0) vs H Q E → toSp K dsp vs H Q (fun _ _ _ => False) := fun ⟨G, O, xs, R, Z, rl, vr, h, k, _⟩ => ⟨G, O, xs, R, X0, rl, vr, h, k, fun _ _ _ _ _ _ z => z⟩
  refine ⟨fun vs H Q E h => F.len _ _ _ _ (c h), fun A outer s H args us vs Q E hr he hb hv h => codeAny_mono (F.run A outer s H args us vs Q _ hr he hb hv (c h)) fun r s' hq => ?_⟩
  cases r with
  | error e =>
    obtain ⟨_, _, _, _, _, _, _, _, _, _, _, _, z⟩ := hq
    exact z.elim
  | ok fl => cases fl <;> exact hq
end
theorem PR.look {K : PySem.W.Frag} {G : Hp} {f : Str} {v : D} : ∀ {us : List (Str × V)} {fs : List (Str × D)}, PR K G us fs → fs.lookup f = some v → ∃ u, us.lookup f = some u ∧ VR K G u v
  | _, [], _, e => by cases e
  | [], _ :: _, h, _ => by cases h
  | (n, u) :: us, (n', y) :: fs, h, e => by
    cases h with
    | cons h1 h2 =>
      obtain ⟨h1, h3⟩ := h1
      dsimp only at h1 h3
      subst h1
      by_cases hf : f = n
      · subst hf
        simp only [List.lookup, beq_self_eq_true] at e ⊢
        cases e
        exact ⟨u, rfl, h3⟩
      · have eb : (f == n) = false := by simpa using hf
        simp only [List.lookup, eb] at e ⊢
        exact PR.look h2 e
theorem Rel.xd {K : PySem.W.Frag} {G : Hp} {O : Om} {H : Hp} (r : Rel K G O H) {a : Addr} {fs : List (Str × D)} (h : O a = some (.xd fs)) : ∃ us, H a = some (.xd us) ∧ PR K G us fs := by
  obtain ⟨_, u, hu, q⟩ := r.o a _ h
  cases u <;> first | exact q.elim | exact ⟨_, hu, q⟩
end DL
set_option Elab.async false
set_option linter.all false
set_option maxRecDepth 100000
set_option maxHeartbeats 2000000
namespace DL
open PySem PySem.Spec PyProof.Rows L2
open Evl (Ex)
end DL
set_option Elab.async false
set_option linter.all false
set_option maxRecDepth 100000
set_option maxHeartbeats 2000000
namespace DL
open PySem PySem.Spec PyProof.Rows L2
open Evl (Ex)
section
variable {X : Cx} {W : WX} {e : Expr} {te : DE} {tx : XD → DE}
theorem x_of (h : PE X e (lowE X.K te)) : PE X e (lowX X.K W (fun _ => te)) := PE.by h fun s H Q ⟨G, O, g, R, Z, rl, gr, h, k, _⟩ => ⟨G, O, g, R, rl, gr, h, k⟩
theorem e_calm (h : PE X e (lowX X.K W tx)) : PE X e (lowE X.K (tx X0)) := PE.by h fun s H Q ⟨G, O, g, R, rl, gr, h, k⟩ => ⟨G, O, g, R, X0, rl, gr, h, k, fun _ _ _ _ _ _ z => z.elim⟩
theorem takes00 {X : Cx} : Takes X W0 := fun _ _ z => by
  obtain ⟨_, _, _, _, _, _, _, _, _, _, _, _, _, _, _, _, z⟩ := z
  exact z.elim
end
def putFD (f : Str) (v : D) : List (Str × D) → List (Str × D)
  | [] => [(f, v)]
  | (g, x) :: r => if g = f then (g, v) :: r else (g, x) :: putFD f v r
theorem PR.putFd {K : PySem.W.Frag} {G : Hp} {f : Str} {u : V} {v : D} (h : VR K G u v) : ∀ {us : List (Str × V)} {fs : List (Str × D)}, PR K G us fs → PR K G (putF f u us) (putFD f v fs)
  | [], [], _ => .cons ⟨rfl, h⟩ .nil
  | [], _ :: _, q => by cases q
  | _ :: _, [], q => by cases q
  | (n, u') :: us, (n', y) :: fs, q => by
    cases q with
    | cons h1 h2 =>
      obtain ⟨h1, h3⟩ := h1
      dsimp only at h1 h3
      subst h1
      show PR K G (if n = f then (n, u) :: us else (n, u') :: putF f u us) (if n = f then (n, v) :: fs else (n, y) :: putFD f v fs)
      by_cases hf : n = f
      · rw [if_pos hf, if_pos hf]
        exact .cons ⟨rfl, h⟩ h2
      · rw [if_neg hf, if_neg hf]
        exact .cons ⟨rfl, h3⟩ (PR.putFd h h2)
theorem PR.no {K : PySem.W.Frag} {G : Hp} {f : Str} : ∀ {us : List (Str × V)} {fs : List (Str × D)}, PR K G us fs → fs.lookup f = none → us.lookup f = none
  | [], [], _, _ => rfl
  | [], _ :: _, q, _ => by cases q
  | _ :: _, [], q, _ => by cases q
  | (n, u') :: us, (n', y) :: fs, q, e => by
    cases q with
    | cons h1 h2 =>
      obtain ⟨h1, h3⟩ := h1
      dsimp only at h1 h3
      subst h1
      by_cases hf : f = n
      · subst hf
        simp only [List.lookup, beq_self_eq_true] at e
        cases e
      · have eb : (f == n) = false := by simpa using hf
        simp only [List.lookup, eb] at e ⊢
        exact PR.no h2 e
theorem Rel.ins {K : PySem.W.Frag} {G : Hp} {O : Om} {H : Hp} (r : Rel K G O H) {a C dx : Addr} {fs : List (Str × D)} (h : O a = some (.ins C dx fs)) : ∃ us, H a = some (.ins C dx us) ∧ PR K G us fs := by
  obtain ⟨_, u, hu, q⟩ := r.o a _ h
  cases u <;> first | exact q.elim | (obtain ⟨rfl, rfl, q⟩ := q; exact ⟨_, hu, q⟩)
/-- o.f -/
def dFld (C : Addr) (f : Str) (te : DE) : DE := fun g O R => te g O fun x O1 => ∃ (a dx : Addr) (fs : List (Str × D)) (v : D), x = .ref a ∧ O1 a = some (.ins C dx fs) ∧ fs.lookup f = some v ∧ R v O1
def dFldX (C : Addr) (f : Str) (te : XD → DE) : XD → DE := fun Z => dFld C f (te Z)
/-- o.f = v -/
def dSetF (C : Addr) (f : Str) (to : DE) (tv : XD → DE) : DS := fun F g O => tv (fun c d O1 => F.xc c d g O1) g O fun y O1 => to g O1 fun x O2 => ∃ (a dx : Addr) (fs : List (Str × D)), x = .ref a ∧ O2 a = some (.ins C dx fs) ∧ fs.length < 1000 ∧ F.nx g (up O2 a (.ins C dx (putFD f y fs)))
/-- C(..) -/
def dMakeX (C : Addr) (d : DSp) (srcs : List Src) (ds : List D) (t tk : DA) : XD → DE := fun Z g O R => t g O fun xs O1 => tk g O1 fun ys O2 => ∀ x dx, O2 x = none → O2 dx = none → dx ≠ x →
  d (pick (.ref x :: xs) ys ds srcs) (up (up O2 dx (.own x)) x (.ins C dx [])) (fun v O3 => v = .non ∧ R (.ref x) O3) Z
/-- o.m(..) -/
def dMethX (C : Addr) (m : Str) (d : DSp) (srcs : List Src) (ds : List D) (to : XD → DE) (t tk : DA) : XD → DE := fun Z g O R => to Z g O fun x O1 => ∃ (a dx : Addr) (fs : List (Str × D)), x = .ref a ∧ O1 a = some (.ins C dx fs) ∧ fs.lookup m = none ∧
  t g O1 fun xs O2 => tk g O2 fun ys O3 => d (pick (.ref a :: xs) ys ds srcs) O3 R Z
section
variable {X : Cx} {CX : CXT} {W : WX} {C f : Addr} {fd : FuncData} {ps ks : List Str} {sp : Sp} {dsp : DSp} {srcs : List Src} {dvs : List V} {ds : List D} {x m fl : Str} {p pos pos' apos : Pos} {e o : Expr} {es : List Expr} {kws : List Keyword} {te to : DE} {tx tv : XD → DE} {t tk : DA} {n k l : Nat}
theorem x_fld (T : Cls X.K C) (hn : NoAttr X.K C fl) (he : PE X e (lowX X.K W tx)) (hb : attributeBase e fl X.env (eval e X.env) = eval e X.env := by rfl) : PE X (.Attribute e fl pos) (lowX X.K W (dFldX C fl tx)) :=
  PE.by (pe_fld he hb) fun s H Q ⟨G, O, g, R, Z, rl, gr, h, k, kz⟩ => ⟨G, O, g, _, Z, rl, gr, h, fun x O1 v G1 H1 go1 vr1 q1 => by
    obtain ⟨a, dx, fs, w, rfl, ho, hl, q⟩ := q1
    obtain ⟨us, hu, pr⟩ := go1.rel.ins ho
    obtain ⟨u, hl2, vr⟩ := pr.look hl
    cases vr1
    exact ⟨a, C, dx, us, u, rfl, hu, T, hn, hl2, k _ _ _ _ _ go1 vr q⟩, kz⟩
theorem e_fld (T : Cls X.K C) (hn : NoAttr X.K C fl) (he : PE X e (lowE X.K te)) (hb : attributeBase e fl X.env (eval e X.env) = eval e X.env := by rfl) : PE X (.Attribute e fl pos) (lowE X.K (dFld C fl te)) :=
  e_calm (W := W0) (tx := dFldX C fl fun _ => te) (x_fld T hn (x_of he) hb)
theorem s_fld (T : Cls X.K C) (hn : NoAttr X.K C fl) (ho : PE X o (lowE X.K to)) (hv : PE X e (lowX X.K W tv)) (hs : swapsWith e (some (.Attribute o fl pos')) pos.line X.env = pure false := by rfl) : PS X (.Assign [.Attribute o fl pos'] e pos) (lowS X.K W (dSetF C fl to tv)) :=
  PS.by (ps_fld ho hv hs) fun E s H ⟨G, O, g, F, rl, gr, h, k⟩ => ⟨G, O, g, _, _, rl, gr, h, fun y O1 v G1 H1 go1 vr1 q1 => ⟨G1, O1, g, _, go1.rel, gr.mono go1.ex, q1, fun x O2 u G2 H2 go2 vr2 q2 => by
    obtain ⟨a, dx, fs, rfl, ho, hl, q⟩ := q2
    obtain ⟨us, hu, pr⟩ := go2.rel.ins ho
    cases vr2
    have go := go1.trans rl go2
    have gw := Go.write go2.rel (a := a) (o := .ins C dx (putFD fl y fs)) (u := .ins C dx (putF fl v us)) ho ⟨rfl, rfl, pr.putFd (vr1.mono go2.ex)⟩
    exact ⟨a, C, dx, us, rfl, hu, T, hn, by rw [pr.len]; exact hl, k.nx _ _ _ _ _ (go.trans rl gw) ((gr.mono go.ex).mono gw.ex) q⟩⟩, fun c d O1 G1 H1 go1 z => k.xc _ _ _ _ _ _ _ go1 (gr.mono go1.ex) z⟩
/-- the making -/
theorem run_mk {pins : List (Addr × Obj)} {σ : L2.St} {H : Hp} {s : Shared} {Q : VK} {us ws : List Value} {vs zs : List V} {E : XK} (M : Mk X.K C f) (F : FnOk X.prog X.w X.K X.mg X.base CX k f fd ps sp) (hr : Room (k + 1) X.A) (hb : Bnd X.K fd ps (n + 1) ks srcs dvs) (hx : PassesAt CX X σ E)
    (I : Inv X pins σ H s) (r : Vals vs us) (rz : Vals zs ws) (l1 : vs.length = n) (l2 : zs.length = ks.length)
    (h : ∀ x dx, H x = none → H dx = none → dx ≠ x → sp (pick (.ref x :: vs) zs dvs srcs) (upd (upd H dx (.own x)) x (.ins C dx [])) (fun v H2 => v = .non ∧ Q (.ref x) H2) E) :
    wpAny (model X.prog X.w) X.A (call (.ref C) us (ks.zip ws)) (EP X pins σ Q) X.xe s := by
  have hq := h (s.heap.objs.size + 1) s.heap.objs.size (I.hok.fresh (Nat.le_succ _)) (I.hok.fresh (Nat.le_refl _)) (Nat.ne_of_lt (Nat.lt_succ_self _))
  have I2 := Inv.made (C := C) I
  have r1 : Vals (V.ref (s.heap.objs.size + 1) :: vs) (Value.ref (s.heap.objs.size + 1) :: us) := .cons rfl r
  obtain ⟨ds, rd, hb⟩ := hb.to
  have r2 := pick_vals r1 rz rd srcs
  have n1 : (Value.ref (s.heap.objs.size + 1) :: us).length = n + 1 := by
    rw [List.length_cons, ← r.length, l1]
  refine wpAny_call (make_map (f := f) I.kIn M.makes M.init (beq_iff_eq.mp M.fn) (codeAny_mono (F.run _ X.stack _ _ ⟨Value.ref (s.heap.objs.size + 1) :: us, ks.zip ws⟩ (pick (Value.ref (s.heap.objs.size + 1) :: us) ws ds srcs) _ _ E (hr.make C us (ks.zip ws))
    (I2.env0.make C us (ks.zip ws)) (hb _ (Value.ref (s.heap.objs.size + 1) :: us) ws I2.kIn n1 (rz.length.symm.trans l2)) r2 hq) fun r s' hq' => ?_))
  cases r with
  | error e => exact hx pins _ _ e s' I2 hq'
  | ok fl =>
    cases fl with
    | ret u =>
      obtain ⟨v, H', I3, rv, ev, q3⟩ := I2.after hq'
      subst ev
      exact ⟨rv, ⟨V.ref (s.heap.objs.size + 1), H', I3, rfl, q3⟩⟩
    | next => exact False.elim hq'
    | brk => exact False.elim hq'
    | cont => exact False.elim hq'
/-- the new instance, as data -/
theorem mk_sp {K : PySem.W.Frag} {G1 : Hp} {O : Om} {H : Hp} {G2 : Hp} {O2 : Om} {H2 : Hp} {R : D → Om → Prop} {Z : XD} {Q : VK} {s : L2.St} {vs zs : List V} {xs ys : List D} (rl : Rel K G1 O H) (go2 : Go K G1 O H G2 O2 H2) (v1 : VRs K G2 vs xs) (v2 : VRs K G2 zs ys) (hd : ∀ G, VRs K G dvs ds)
    (q : ∀ x dx, O2 x = none → O2 dx = none → dx ≠ x → dsp (pick (.ref x :: xs) ys ds srcs) (up (up O2 dx (.own x)) x (.ins C dx [])) (fun v O3 => v = .non ∧ R (.ref x) O3) Z)
    (k : ∀ x O' v G' H', Go K G1 O H G' O' H' → VR K G' v x → R x O' → Q v H') (kz : ∀ c e O' G' H', Go K G1 O H G' O' H' → Z c e O' → W c e s H') :
    ∀ x dx, H2 x = none → H2 dx = none → dx ≠ x → toSp K dsp (pick (.ref x :: vs) zs dvs srcs) (upd (upd H2 dx (.own x)) x (.ins C dx [])) (fun v H3 => v = .non ∧ Q (.ref x) H3) (WE W s) := fun x dx hx hdx ne => by
  have g1 := Go.new go2.rel (a := dx) (o := .own x) (u := .own x) hdx rfl
  have hx1 : upd H2 dx (.own x) x = none := by rw [upd_ne (Ne.symm ne)]; exact hx
  have g2 := Go.new g1.rel (a := x) (o := .ins C dx []) (u := .ins C dx []) hx1 ⟨rfl, rfl, .nil⟩
  have g12 := g1.trans go2.rel g2
  have gg := go2.trans rl g12
  refine ⟨_, _, _, _, Z, g2.rel, pick_vrs (.cons (.ref x) (v1.mono g12.ex)) (v2.mono g12.ex) (hd _) srcs, q x dx (go2.rel.fresh hx).1 (go2.rel.fresh hdx).1 ne, fun y O3 v G3 H3 go3 vr3 q3 => ?_, fun c e O3 G3 H3 go3 z => kz _ _ _ _ _ (gg.trans rl go3) z⟩
  obtain ⟨rfl, q3⟩ := q3
  cases vr3
  exact ⟨rfl, k _ _ _ _ _ (gg.trans rl go3) (.ref x) q3⟩
theorem x_make (M : Mk X.K C f) (F : FnOk X.prog X.w X.K X.mg X.base (L2.CX X.prog X.w) k f fd ps (toSp X.K dsp)) (hr : Room (k + 1) X.A) (tk' : Takes X W) (hm : X.mg x = some (.ref C)) (hb : Bnd X.K fd ps (n + 1) ks srcs dvs) (hd : ∀ G, VRs X.K G dvs ds)
    (ha : PA X (e :: es) (lowA X.K n t)) (hkw : PK X kws (lowA X.K l tk)) (hmk : l = ks.length := by rfl) (hg : Gl X x := by rfl) (hall : (backToKw pos (keywordEach kws X.env)).all (·.1.isSome) = true := by rfl) (hks : (backToKw pos (keywordEach kws X.env)).filterMap (·.1) = ks := by rfl)
    (hdb : (x == ("__debug__" : Str)) = false := by decide) (he : starEach (e :: es) X.env = (false, eval e X.env) :: starEach es X.env := by rfl)
    (hpl : ((backTo pos (starEach (e :: es) X.env)).any (·.1) || (backToKw pos (keywordEach kws X.env)).any (·.1.isNone)) = false := by rfl) :
    PE X (.Call (.Name x p) (e :: es) kws pos) (lowX X.K W (dMakeX C dsp srcs ds t tk)) := by
  refine ⟨fun pins s σ H Q I h => ?_⟩
  refine wpAny_Call_Name_kw (ld_glob I hg hm ?_ hdb)
  obtain ⟨G, O, g, R, Z, rl, gr, h, kk, kz⟩ := h
  have h2 : lowA X.K n t σ H fun vs H1 => lowA X.K l tk σ H1 fun zs H2 => vs.length = n ∧ zs.length = l ∧ ∀ x dx, H2 x = none → H2 dx = none → dx ≠ x → toSp X.K dsp (pick (.ref x :: vs) zs dvs srcs) (upd (upd H2 dx (.own x)) x (.ins C dx [])) (fun v H3 => v = .non ∧ Q (.ref x) H3) (WE W σ) :=
    ⟨G, O, g, _, rl, gr, h, fun xs O1 vs G1 H1 go1 vr1 hl1 q1 => ⟨G1, O1, g, _, go1.rel, gr.mono go1.ex, q1, fun ys O2 zs G2 H2 go2 vr2 hl2 q2 => ⟨by rw [vr1.length, hl1], by rw [vr2.length, hl2], mk_sp rl (go1.trans rl go2) (vr1.mono go2.ex) vr2 hd q2 kk kz⟩⟩⟩
  refine PySem.W.callWith_KW (h₀ := X.base) I.ok.mod.kin M.kp hall (thn (ha.run pos pins s σ H _ I h2) fun us s1 ⟨vs, H1, I1, r, q⟩ => ?_) hpl he
  refine thn (hkw.run pos pins s1 σ H1 _ I1 q) fun ws s2 ⟨zs, H2, I2, rz, q2⟩ => ⟨I2.kIn, ?_⟩
  rw [hks]
  exact run_mk M F hr hb (passAt tk' σ) I2 r rz q2.1 (q2.2.1.trans hmk) q2.2.2
theorem x_make0 (M : Mk X.K C f) (F : FnOk X.prog X.w X.K X.mg X.base (L2.CX X.prog X.w) k f fd ps (toSp X.K dsp)) (hr : Room (k + 1) X.A) (tk' : Takes X W) (hm : X.mg x = some (.ref C)) (hb : Bnd X.K fd ps 1 ks srcs dvs) (hd : ∀ G, VRs X.K G dvs ds)
    (hkw : PK X kws (lowA X.K l tk)) (hmk : l = ks.length := by rfl) (hg : Gl X x := by rfl) (hall : (backToKw pos (keywordEach kws X.env)).all (·.1.isSome) = true := by rfl) (hks : (backToKw pos (keywordEach kws X.env)).filterMap (·.1) = ks := by rfl)
    (hdb : (x == ("__debug__" : Str)) = false := by decide)
    (hpl : ((backTo pos (starEach [] X.env)).any (·.1) || (backToKw pos (keywordEach kws X.env)).any (·.1.isNone)) = false := by rfl) :
    PE X (.Call (.Name x p) [] kws pos) (lowX X.K W (dMakeX C dsp srcs ds dNil tk)) := by
  refine ⟨fun pins s σ H Q I h => ?_⟩
  refine wpAny_Call_Name_kw (ld_glob I hg hm ?_ hdb)
  obtain ⟨G, O, g, R, Z, rl, gr, h, kk, kz⟩ := h
  have h2 : lowA X.K l tk σ H fun zs H2 => zs.length = l ∧ ∀ x dx, H2 x = none → H2 dx = none → dx ≠ x → toSp X.K dsp (pick [.ref x] zs dvs srcs) (upd (upd H2 dx (.own x)) x (.ins C dx [])) (fun v H3 => v = .non ∧ Q (.ref x) H3) (WE W σ) :=
    ⟨G, O, g, _, rl, gr, h, fun ys O2 zs G2 H2 go2 vr2 hl2 q2 => ⟨by rw [vr2.length, hl2], mk_sp (vs := []) (xs := []) rl go2 .nil vr2 hd q2 kk kz⟩⟩
  refine PySem.W.callWith_KW0 (h₀ := X.base) I.ok.mod.kin M.kp hall (thn (hkw.run pos pins s σ H _ I h2) fun ws s2 ⟨zs, H2, I2, rz, q2⟩ => ⟨I2.kIn, ?_⟩) hpl
  rw [hks]
  exact run_mk (us := []) (vs := []) M F hr hb (passAt tk' σ) I2 .nil rz rfl (q2.1.trans hmk) q2.2
/-- o.m() -/
theorem x_meth0 {pl : Sem Bool} (he : PE X o (lowX X.K W tx)) (c : Cls X.K C) (hm : Meth X.K C m f) (F : FnOk X.prog X.w X.K X.mg X.base (L2.CX X.prog X.w) k f fd ps (toSp X.K dsp)) (hr : Room k X.A) (tk' : Takes X W) (hb : Bnd X.K fd ps 1 [] srcs dvs) (hd : ∀ G, VRs X.K G dvs ds)
    (ht : eval (.Call (.Attribute o m apos) [] [] pos) X.env = (do
      let ov ← eval o X.env
      standAt apos.atName
      let (f, first) ← holding [ov] (getMethod ov m pl)
      callWith pos f first (backTo pos (starEach [] X.env)) (backToKw pos (keywordEach [] X.env))) := by rfl) :
    PE X (.Call (.Attribute o m apos) [] [] pos) (lowX X.K W (dMethX C m dsp srcs ds tx dNil dNil)) := by
  refine ⟨fun pins s σ H Q I h => ?_⟩
  obtain ⟨G, O, g, R, Z, rl, gr, h, kk, kz⟩ := h
  have h2 : lowX X.K W tx σ H fun x H1 => ∃ a dx us, x = .ref a ∧ H1 a = some (.ins C dx us) ∧ us.lookup m = none ∧ toSp X.K dsp (pick [.ref a] [] dvs srcs) H1 Q (WE W σ) :=
    ⟨G, O, g, _, Z, rl, gr, h, fun x O1 v G1 H1 go1 vr1 q1 => by
      obtain ⟨a, dx, fs, rfl, ho, hl, q⟩ := q1
      obtain ⟨us, hu, pr⟩ := go1.rel.ins ho
      cases vr1
      exact ⟨a, dx, us, rfl, hu, pr.no hl, G1, O1, _, _, Z, go1.rel, pick_vrs (.cons (.ref a) .nil) .nil (hd G1) srcs, q, fun x O3 v G3 H3 go3 vr3 q3 => kk _ _ _ _ _ (go1.trans rl go3) vr3 q3, fun c e O3 G3 H3 go3 z => kz _ _ _ _ _ (go1.trans rl go3) z⟩, kz⟩
  refine PySem.W.methodCall_KW (pl := pl) (thn (he.run pins s σ H _ I h2) fun u s1 ⟨x, H1, I1, rx, a, dx, us, ex, ea, l, q⟩ => ?_) ht
  subst ex
  obtain rfl : u = Value.ref a := rx
  refine getmeth_ok I1 ea c hm l ?_
  exact PySem.W.callWith_K0 (first := [.ref a]) I1.kIn hm.kp (run_any (ks := []) (us := [.ref a]) (vs := [.ref a]) (zs := []) (ws := []) F hr hb (passAt tk' σ) I1 (.cons rfl .nil) .nil rfl rfl q)
end
/-- a promise that lets nothing out is one that may let things out -/
theorem warm {P : Program} {w : World} {K : PySem.W.Frag} {mg : Str → Option Value} {base : Heap} {k : Nat} {f : Addr} {fd : FuncData} {ps : List Str} {sp : Sp} (F : FnOk P w K mg base CX0 k f fd ps sp) : FnOk P w K mg base (L2.CX P w) k f fd ps sp :=
  ⟨F.len, fun A outer s H args us vs Q E hr he hb hv h => codeAny_mono (F.run A outer s H args us vs Q E hr he hb hv h) fun r s' hq => by
    cases r with
    | error e => exact hq.elim
    | ok fl => cases fl <;> exact hq⟩
end DL
namespace DL
open PySem PySem.Spec PyProof.Rows L2
end DL
set_option Elab.async false
set_option linter.all false
set_option maxRecDepth 100000
set_option maxHeartbeats 2000000
namespace DL
open PySem PySem.Spec PyProof.Rows L2
open Evl (Ex)
end DL
set_option Elab.async false
set_option linter.all false
set_option maxRecDepth 100000
set_option maxHeartbeats 2000000
namespace DL
open PySem PySem.Spec PyProof.Rows L2
open Evl (Ex)
end DL
set_option Elab.async false
set_option linter.all false
set_option maxRecDepth 100000
set_option maxHeartbeats 2000000
namespace DL
open PySem PySem.Spec PyProof.Rows L2
open Evl (Ex)
inductive TabGo (P : Addr) (q : Str) (H : Hp) (ps : Array Value) : Hp → Prop
  | same : TabGo P q H ps H
  | more (c : Addr) (more : Array Value) : H c = none → TriplesOk (ps ++ more).toList → (∀ (pos : Pos) (cv : Value), codeAmong pos (ps ++ more).toList = some cv → codeAmong pos ps.toList = some cv ∨ cv = .ref c) → TabGo P q H ps (upd (upd H P (.tbl (ps ++ more))) c (LamX.CodeO c q))
theorem Rel.tab {K : PySem.W.Frag} {G : Hp} {O : Om} {H : Hp} (r : Rel K G O H) {P : Addr} {q : Str} (h : O P = some (.tab q)) : ∃ ps, H P = some (.tbl ps) ∧ TriplesOk ps.toList ∧ ∀ (pos : Pos) (cv : Value), codeAmong pos ps.toList = some cv → ∃ c, cv = .ref c ∧ G c = some (LamX.CodeO c q) := by
  obtain ⟨_, u, hu, w⟩ := r.o P _ h
  cases u <;> first | exact w.elim | exact ⟨_, hu, w⟩
theorem Go.tab {K : PySem.W.Frag} {G : Hp} {O : Om} {H H2 : Hp} (r : Rel K G O H) {P : Addr} {q : Str} {ps : Array Value} (h : O P = some (.tab q)) (hP : H P = some (.tbl ps)) (hc : ∀ (pos : Pos) (cv : Value), codeAmong pos ps.toList = some cv → ∃ c, cv = .ref c ∧ G c = some (LamX.CodeO c q)) (t : TabGo P q H ps H2) : ∃ G2, Go K G O H G2 O H2 := by
  cases t with
  | same => exact ⟨G, Go.refl r⟩
  | more c more hn h1 h2 =>
    have g1 := Go.data r (a := c) (u := LamX.CodeO c q) hn
    have nPc : P ≠ c := ne_of_none hP hn
    have g2 := Go.write g1.rel (a := P) (o0 := .tab q) (o := .tab q) (u := .tbl (ps ++ more)) h ⟨h1, fun pos cv e => by
      rcases h2 pos cv e with z | z
      · obtain ⟨c0, e1, e2⟩ := hc pos cv z
        exact ⟨c0, e1, g1.ex _ _ e2⟩
      · exact ⟨c, z, upd_same⟩⟩
    have eO : DL.up O P (.tab q) = O := by
      funext b
      by_cases hb : b = P
      · subst hb; rw [up_same, h]
      · rw [up_ne hb]
    have eH : upd (upd H c (LamX.CodeO c q)) P (.tbl (ps ++ more)) = upd (upd H P (.tbl (ps ++ more))) c (LamX.CodeO c q) := by
      funext b
      by_cases h1 : b = P
      · subst h1; rw [upd_same, upd_ne nPc, upd_same]
      · by_cases h2 : b = c
        · subst h2; rw [upd_ne h1, upd_same, upd_same]
        · rw [upd_ne h1, upd_ne h2, upd_ne h2, upd_ne h1]
    rw [eO, eH] at g2
    exact ⟨_, g1.trans r g2⟩
end DL
set_option Elab.async false
set_option linter.all false
set_option maxRecDepth 100000
set_option maxHeartbeats 2000000
namespace DL
open PySem PySem.Spec PyProof.Rows L2
open Evl (Ex)
end DL
set_option Elab.async false
set_option linter.all false
set_option maxRecDepth 100000
set_option maxHeartbeats 2000000
namespace DL
open PySem PySem.Spec PyProof.Rows L2
open Evl (Ex)
end DL
set_option Elab.async false
set_option linter.all false
set_option maxRecDepth 100000
set_option maxHeartbeats 2000000
namespace DL
open PySem PySem.Spec PyProof.Rows L2
open Evl (Ex)
abbrev KA := List Key × Addr
def putKA (ks : List KA) (k : List Key) (a : Addr) : List KA := if ks.any (fun x => decide (x.1 = k)) then ks else ks ++ [(k, a)]
end DL
set_option Elab.async false
set_option linter.all false
set_option maxRecDepth 100000
set_option maxHeartbeats 2000000
namespace DL
open PySem PySem.Spec PyProof.Rows L2
open Evl (Ex)
def PU (K : PySem.W.Frag) (G : Hp) : List KA → List D → Prop := Paired fun (p : KA) (d : D) => VR K G (.ref p.2) d ∧ tkOf d = some p.1
theorem PU.mono {K : PySem.W.Frag} {G G' : Hp} (e : Ex G G') {ks : List KA} {ds : List D} (h : PU K G ks ds) : PU K G' ks ds := Paired.mapP h fun _ _ z => ⟨z.1.mono e, z.2⟩
def putU (acc : List D) (k : List Key) (y : D) : List D := if acc.any (fun z => decide (tkOf z = some k)) then acc else acc ++ [y]
theorem PU.any {K : PySem.W.Frag} {G : Hp} {k : List Key} : ∀ {ks : List KA} {ds : List D}, PU K G ks ds → ks.any (fun x => decide (x.1 = k)) = ds.any (fun z => decide (tkOf z = some k))
  | _, _, .nil => rfl
  | _, _, .cons h t => by
    rw [List.any_cons, List.any_cons, PU.any t, h.2]
    simp
theorem PU.snoc {K : PySem.W.Frag} {G : Hp} {p : KA} {d : D} (q : VR K G (.ref p.2) d ∧ tkOf d = some p.1) : ∀ {ks : List KA} {ds : List D}, PU K G ks ds → PU K G (ks ++ [p]) (ds ++ [d])
  | _, _, .nil => .cons q .nil
  | _, _, .cons h t => .cons h (PU.snoc q t)
theorem PU.put {K : PySem.W.Frag} {G : Hp} {ks : List KA} {ds : List D} {k : List Key} {a : Addr} {y : D} (h : PU K G ks ds) (hv : VR K G (.ref a) y) (hk : tkOf y = some k) : PU K G (putKA ks k a) (putU ds k y) := by
  unfold putKA putU
  rw [h.any]
  split
  · exact h
  · exact h.snoc ⟨hv, hk⟩
theorem PU.len {K : PySem.W.Frag} {G : Hp} {ks : List KA} {ds : List D} (h : PU K G ks ds) : ks.length = ds.length := Paired.length h
end DL
set_option Elab.async false
set_option linter.all false
set_option maxRecDepth 100000
set_option maxHeartbeats 2000000
namespace DL
open PySem PySem.Spec PyProof.Rows L2
open Evl (Ex)
/-- the tables of the makers' codes; classes -/
structure Tb where
  rising : Addr
  laid : Addr
  beam : Addr
  Slope : Addr
  Balance : Addr
  cl : Nat → Addr
end DL
set_option Elab.async false
set_option linter.all false
set_option maxRecDepth 100000
set_option maxHeartbeats 2000000
namespace DL
open PySem PySem.Spec PyProof.Rows L2
open Evl (Ex)
/-- a strict zip's object: f0 tells whether its tuple is out -/
abbrev ZS (h : Heap) (z TI TO : Addr) (f0 : Value) : Prop := h.get? z = some { cls := .type "zip", dict := none, data := .fields #[f0, .bool false, .bool true, .ref TI, .ref TO], slots := #[] }
section
variable {prog : Program} {w : World} {A : Around} {E : Value → Shared → Prop} {s : Shared} {z TI TO i1 i2 l1 l2 it l : Addr} {k k1 k2 : Nat} {xs ys : Array Value} {x y a b : Value}
/-- what stands at the five things of a zip -/
structure ZAt (h : Heap) (z TI TO i1 i2 l1 l2 : Addr) (xs ys : Array Value) (k1 k2 : Nat) (f0 a b : Value) : Prop where
  z : ZS h z TI TO f0
  ti : IsPair h TI (.ref i1) (.ref i2)
  to : IsPair h TO a b
  i1 : h.IsListIter i1 l1 k1
  i2 : h.IsListIter i2 l2 k2
  l1 : h.IsList l1 xs
  l2 : h.IsList l2 ys
end
end DL
set_option Elab.async false
set_option linter.all false
set_option maxRecDepth 100000
set_option maxHeartbeats 2000000
namespace DL
open PySem PySem.Spec PyProof.Rows L2
open Evl (Ex)
end DL
set_option Elab.async false
set_option linter.all false
set_option maxRecDepth 100000
set_option maxHeartbeats 2000000
namespace DL
open PySem PySem.Spec PyProof.Rows L2
open Evl (Ex)
/-- a strict zip whose tuple is out -/
abbrev ZO (h : Heap) (z TI TO : Addr) (T : Addr) (f1 : Bool) : Prop := h.get? z = some { cls := .type "zip", dict := none, data := .fields #[rawInt T, .bool f1, .bool true, .ref TI, .ref TO], slots := #[] }
section
variable {prog : Program} {w : World} {A : Around} {E : Value → Shared → Prop} {s : Shared} {z TI TO i1 i2 l1 l2 T : Addr} {f1 : Bool} {k1 k2 : Nat} {xs ys : Array Value} {x y a b : Value}
/-- what stands at the things of a zip whose tuple is out -/
structure ZB (h : Heap) (z TI TO i1 i2 l1 l2 : Addr) (xs ys : Array Value) (k : Nat) : Prop where
  z : ∃ T f1 o, ZO h z TI TO T f1 ∧ h.get? T = some o
  ti : IsPair h TI (.ref i1) (.ref i2)
  to : ∃ o, h.get? TO = some o
  i1 : h.IsListIter i1 l1 k
  i2 : h.IsListIter i2 l2 k
  l1 : h.IsList l1 xs
  l2 : h.IsList l2 ys
/-- the zip as list() walks it: new at first, then with its tuple out -/
def ZW (h : Heap) (z TI TO i1 i2 l1 l2 : Addr) (xs ys : Array Value) (k : Nat) : Prop := (k = 0 ∧ ZAt h z TI TO i1 i2 l1 l2 xs ys 0 0 .none .none .none) ∨ ZB h z TI TO i1 i2 l1 l2 xs ys k
theorem ZW.keep {h h' : Heap} {k : Nat} (D : ZipApart z TI TO i1 i2 l1 l2) (S : ZW h z TI TO i1 i2 l1 l2 xs ys k) {c : Addr} (hc : c ∉ [z, TI, TO, i1, i2, l1, l2]) (ht : ∀ o, h.get? c = some o → ∃ o', h'.get? c = some o') (kp : ∀ b o, b ≠ c → h.get? b = some o → h'.get? b = some o) : ZW h' z TI TO i1 i2 l1 l2 xs ys k := by
  simp only [List.mem_cons, List.not_mem_nil, or_false, not_or] at hc
  obtain ⟨n1, n2, n3, n4, n5, n6, n7⟩ := hc
  rcases S with ⟨rfl, S⟩ | S
  · exact .inl ⟨rfl, kp _ _ (fun e => n1 e.symm) S.z, kp _ _ (fun e => n2 e.symm) S.ti, kp _ _ (fun e => n3 e.symm) S.to, S.i1.at fun o => kp _ o fun e => n4 e.symm, S.i2.at fun o => kp _ o fun e => n5 e.symm, S.l1.at fun o => kp _ o fun e => n6 e.symm, S.l2.at fun o => kp _ o fun e => n7 e.symm⟩
  · obtain ⟨T, f1, o, hz, hT⟩ := S.z
    refine .inr ⟨⟨T, f1, ?_⟩, kp _ _ (fun e => n2 e.symm) S.ti, (let ⟨o, e⟩ := S.to; ⟨o, kp _ _ (fun e => n3 e.symm) e⟩), S.i1.at fun o => kp _ o fun e => n4 e.symm, S.i2.at fun o => kp _ o fun e => n5 e.symm, S.l1.at fun o => kp _ o fun e => n6 e.symm, S.l2.at fun o => kp _ o fun e => n7 e.symm⟩
    by_cases e : T = c
    · subst e
      obtain ⟨o', h2⟩ := ht o hT
      exact ⟨o', kp _ _ (fun e => n1 e.symm) hz, h2⟩
    · exact ⟨o, kp _ _ (fun e => n1 e.symm) hz, kp _ _ e hT⟩
/-- the pairs that were drawn -/
def Prs (h : Heap) (xs ys : Array Value) (bad : List Addr) (lo : Nat) (acc : Array Value) : Prop := ∃ ts : List Addr, acc = (ts.map Value.ref).toArray ∧ ts.Pairwise (· < ·) ∧ ∀ (j : Nat) (t : Addr), ts[j]? = some t → ∃ x y, xs[j]? = some x ∧ ys[j]? = some y ∧ IsPair h t x y ∧ t ∉ bad ∧ lo < t
theorem Prs.keep {h h' : Heap} {xs ys : Array Value} {bad : List Addr} {lo : Nat} {acc : Array Value} (p : Prs h xs ys bad lo acc) (k : ∀ b o, b ∉ bad → h.get? b = some o → h'.get? b = some o) : Prs h' xs ys bad lo acc := by
  obtain ⟨ts, e, pw, q⟩ := p
  refine ⟨ts, e, pw, fun j t ht => ?_⟩
  obtain ⟨x, y, e2, e3, e4, e5, e6⟩ := q j t ht
  exact ⟨x, y, e2, e3, k _ _ e5 e4, e5, e6⟩
end
end DL
set_option Elab.async false
set_option linter.all false
set_option maxRecDepth 100000
set_option maxHeartbeats 2000000
namespace L2
open PySem PySem.Spec PyProof.Rows
open PySem.W (EachIs AllAlike Sortable dataLe)
end L2
namespace DL
open PySem PySem.Spec PyProof.Rows L2
open PySem.W (EachIs AllAlike Sortable dataLe)
open Evl (Ex)
end DL
set_option Elab.async false
set_option linter.all false
set_option maxRecDepth 100000
set_option maxHeartbeats 2000000
namespace L2
open PySem PySem.Spec PyProof.Rows
open PySem.W (EachIs alike SortsAt sortVals)
end L2
namespace DL
open PySem PySem.Spec PyProof.Rows L2
open PySem.W (EachIs alike)
open Evl (Ex)
end DL
set_option Elab.async false
set_option linter.all false
set_option maxRecDepth 100000
set_option maxHeartbeats 2000000
namespace L2
open PySem PySem.Spec PyProof.Rows
end L2
namespace DL
open PySem PySem.Spec PyProof.Rows L2
open Evl (Ex)
end DL
set_option Elab.async false
set_option linter.all false
set_option maxRecDepth 100000
set_option maxHeartbeats 2000000
namespace L2
open PySem PySem.Spec PyProof PyProof.Rows PySem.W
end L2
namespace DL
open PySem PySem.Spec PyProof PyProof.Rows L2
open Evl (Ex)
end DL
namespace DL
open PySem PySem.Spec PyProof PyProof.Rows L2
open Evl (Ex)
end DL
set_option Elab.async false
set_option linter.all false
set_option maxRecDepth 100000
set_option maxHeartbeats 2000000
namespace DL
open PySem PySem.Spec PyProof PyProof.Rows L2
open Evl (Ex)
end DL
set_option Elab.async false
set_option linter.all false
set_option maxRecDepth 100000
set_option maxHeartbeats 2000000
namespace DL
open PySem PySem.Spec PyProof PyProof.Rows L2
open Evl (Ex)
/-- a method of the text, and its promise -/
structure Dm (P : Program) (w : World) (K : PySem.W.Frag) (mg : Str → Option Value) (base : Heap) (k : Nat) (st : Stmt) (x q : Str) (ps : List Str) (dvs : List V) (kws : List (Str × V)) (dsp : DSp) (f : Addr) (fd : FuncData) : Prop where
  fn : FunD K x q (defArgs st) (defBody st) (defScope st) dvs kws f fd
  ok : FnOk P w K mg base CX0 k f fd ps (toSp K dsp)
section
variable {X : Cx} {C f : Addr} {fd : FuncData} {ps ks : List Str} {dsp : DSp} {srcs : List Src} {dvs : List V} {ds : List D} {x m fl : Str} {p pos apos : Pos} {e o : Expr} {es : List Expr} {kws : List Keyword} {te to : DE} {t tk : DA} {n k l : Nat}
/-- C(e, ..), calm -/
theorem e_make (M : Mk X.K C f) (F : FnOk X.prog X.w X.K X.mg X.base CX0 k f fd ps (toSp X.K dsp)) (hr : Room (k + 1) X.A) (hm : X.mg x = some (.ref C)) (hb : Bnd X.K fd ps (n + 1) ks srcs dvs) (hd : ∀ G, VRs X.K G dvs ds)
    (ha : PA X (e :: es) (lowA X.K n t)) (hkw : PK X kws (lowA X.K l tk)) (hmk : l = ks.length := by rfl) (hg : Gl X x := by rfl) (hall : (backToKw pos (keywordEach kws X.env)).all (·.1.isSome) = true := by rfl) (hks : (backToKw pos (keywordEach kws X.env)).filterMap (·.1) = ks := by rfl)
    (hdb : (x == ("__debug__" : Str)) = false := by decide) (he : starEach (e :: es) X.env = (false, eval e X.env) :: starEach es X.env := by rfl)
    (hpl : ((backTo pos (starEach (e :: es) X.env)).any (·.1) || (backToKw pos (keywordEach kws X.env)).any (·.1.isNone)) = false := by rfl) :
    PE X (.Call (.Name x p) (e :: es) kws pos) (lowE X.K (dMakeX C dsp srcs ds t tk X0)) :=
  e_calm (W := W0) (x_make M (warm F) hr takes00 hm hb hd ha hkw hmk hg hall hks hdb he hpl)
theorem e_meth0 {pl : Sem Bool} (he : PE X o (lowE X.K to)) (c : Cls X.K C) (hm : Meth X.K C m f) (F : FnOk X.prog X.w X.K X.mg X.base CX0 k f fd ps (toSp X.K dsp)) (hr : Room k X.A) (hb : Bnd X.K fd ps 1 [] srcs dvs) (hd : ∀ G, VRs X.K G dvs ds)
    (ht : eval (.Call (.Attribute o m apos) [] [] pos) X.env = (do
      let ov ← eval o X.env
      standAt apos.atName
      let (f, first) ← holding [ov] (getMethod ov m pl)
      callWith pos f first (backTo pos (starEach [] X.env)) (backToKw pos (keywordEach [] X.env))) := by rfl) :
    PE X (.Call (.Attribute o m apos) [] [] pos) (lowE X.K (dMethX C m dsp srcs ds (fun _ => to) dNil dNil X0)) :=
  e_calm (W := W0) (x_meth0 (x_of he) c hm (warm F) hr takes00 hb hd ht)
end
end DL
set_option Elab.async false
set_option linter.all false
set_option maxRecDepth 100000
set_option maxHeartbeats 2000000
namespace DL
open PySem PySem.Spec PyProof.Rows L2
open Evl (Ex)
abbrev Tb.Layout (t : Tb) : Addr := t.cl 6
end DL
set_option Elab.async false
set_option linter.all false
set_option maxRecDepth 100000
set_option maxHeartbeats 2000000
namespace DL
open PySem PySem.Spec PyProof.Rows L2
open Evl (Ex)
end DL
set_option Elab.async false
set_option linter.all false
set_option maxRecDepth 100000
set_option maxHeartbeats 2000000
namespace DL
open PySem PySem.Spec PyProof.Rows L2
open Evl (Ex)
/-- an empty tuple as a written default -/
class EmT (K : PySem.W.Frag) (a : Addr) : Prop where
  vr : ∀ G, VR K G (.ref a) (.tup [])
theorem EmT.of {K : PySem.W.Frag} {a : Addr} {od : Option Addr} {n : Nat} {sl : Array (Option Value)} (l : K.lookup a = some ⟨.type "tuple", od, .seq ([] : List Value).toArray n, sl⟩) : EmT K a :=
  ⟨fun G => .tup (vs := []) (.inr ⟨_, ([] : List Value).toArray, n, l, rfl, rfl, by simp, .nil⟩) .nil⟩
end DL
set_option Elab.async false
set_option linter.all false
set_option maxRecDepth 100000
set_option maxHeartbeats 2000000
namespace DL
open PySem PySem.Spec PyProof.Rows L2
open PySem.W (EachIs AllAlike Sortable dataLe)
open Evl (Ex)
end DL
set_option Elab.async false
set_option linter.all false
set_option maxRecDepth 100000
set_option maxHeartbeats 2000000
namespace DL
open PySem PySem.Spec PyProof.Rows L2
open Evl (Ex)
end DL
set_option Elab.async false
set_option linter.all false
set_option maxRecDepth 100000
set_option maxHeartbeats 2000000
namespace DL
open PySem PySem.Spec PyProof.Rows L2
open Evl (Ex)
section
variable {prog : Program} {w : World} {A : Around} {E : Value → Shared → Prop} {s : Shared}
theorem add_refs {l b : Addr} {xs ys : List Value} {Q : Value → Shared → Prop} (hl : s.heap.IsList l xs.toArray) (hb : s.heap.IsList b ys.toArray) (hz : xs.length + ys.length ≤ sizeLine)
    (h : Q (.ref s.heap.objs.size) { s with heap := s.heap.push { cls := .type "list", data := .seq (xs ++ ys).toArray } }) : wpAny (model prog w) A (binaryOp .Add (.ref l) (.ref b)) Q E s := by
  obtain ⟨⟨cls, dd, data, sl⟩, ho, hc, n, hd⟩ := hl
  obtain ⟨⟨cls2, dd2, data2, sl2⟩, ho2, hc2, n2, hd2⟩ := hb
  simp only at hc hd hc2 hd2
  subst hc hd hc2 hd2
  refine concat_meets ⟨_, ho, rfl⟩ ⟨_, ho2, rfl⟩ noFill_list_add seq_list_add PySem.F.slot_list_add PySem.F.entry_list_add (PySem.F.args_list_add_2 _ _) (list_addW l b xs.toArray ys.toArray n n2 dd dd2 sl sl2 (by simpa using hz)) ⟨ho, ho2, ?_⟩
  have ea : xs.toArray ++ ys.toArray = (xs ++ ys).toArray := by simp
  rw [ea]
  exact h
end
section
variable {prog : Program} {w : World} {A : Around} {R : Result → Shared → Prop} {I : Addr} {fp wr : List Addr} {n : Nat} {P : Nat → Value → Prop} {St : Nat → Heap → Prop}
theorem isList_keep {h h' : Heap} {a : Addr} {vs : Array Value} (hl : h.IsList a vs) (k : ∀ o, h.get? a = some o → h'.get? a = some o) : h'.IsList a vs := by
  obtain ⟨o, ho, hc, m, hd⟩ := hl
  exact ⟨o, k o ho, hc, m, hd⟩
def tails (itsOf : Nat → List Value) (n : Nat) : Nat → Nat → List Value
  | 0, _ => []
  | k + 1, i => itsOf i ++ tails itsOf n k (i + 1)
theorem sum_loopL (W : Walks prog w A.in1 I fp wr n P St) (S : Addr) (hSf : S ∉ fp) (itsOf : Nat → List Value) (hwr : ∀ b ∈ wr, b = I) (hI : ∀ i h, St i h → ∃ o, h.get? I = some o) :
    ∀ (k i : Nat) (s : Shared) (T : Addr) (acc : List Value) (c : Nat) (stage : Int), n - i = k → i ≤ n → St i s.heap → s.heap.get? S = some { cls := .type "list", dict := none, data := .seq #[.ref T] c, slots := #[] } →
    s.heap.IsList T acc.toArray → T ∉ wr → T ≠ S → (∀ j, i ≤ j → j < n → ∀ v, P j v → ∃ q, v = .ref q ∧ s.heap.IsList q (itsOf j).toArray ∧ q ∉ wr ∧ q ≠ S) → acc.length + (tails itsOf n k i).length ≤ sizeLine →
    (∀ h' tk T', (∀ b o, b ∉ wr → b ≠ S → s.heap.get? b = some o → h'.get? b = some o) →
      (k = 0 ∧ T' = T ∨ T' ∉ wr ∧ T' ≠ S ∧ s.heap.get? T' = none ∧ ∃ m, h'.get? T' = some { cls := .type "list", dict := none, data := .seq (acc ++ tails itsOf n k i).toArray m, slots := #[] }) → R (.ok (.ret (.ref T'))) { s with heap := h', toks := tk }) →
    codeAny (model prog w) A (.builtin "sum.loop" ⟨[.ref I, .ref S, rawInt stage, rawInt 0], []⟩) R s := by
  have hSw : S ∉ wr := fun h => hSf (W.sub _ h)
  intro k
  induction k with
  | zero =>
    intro i s T acc c stage hk hi hst hS hT hTw hTS hP hz hR
    have hin : i = n := by omega
    subst hin
    refine codeAny_builtin F.entry_sum_loop ?_
    rw [Around.under_plainId F.plain_sum_loop _]
    show wpAny _ A.in1 (seqItems? (.ref S) >>= _) _ _ s
    refine wpAny_bind (wpAny_seqItems hS rfl ?_)
    show wpAny _ A.in1 (tryCatch (pyNext (.ref I)) _ >>= _) _ _ s
    refine wpAny_bind (wpAny_tryCatch (W.done s _ _ hst fun h' tk hk' => ?_))
    exact wpAny_pure (hR h' tk T (fun b o hbw _ e => hk' b o hbw e) (.inl ⟨rfl, rfl⟩))
  | succ k ih =>
    intro i s T acc c stage hk hi hst hS hT hTw hTS hP hz hR
    have hlt : i < n := by omega
    refine codeAny_builtin F.entry_sum_loop ?_
    rw [Around.under_plainId F.plain_sum_loop _]
    show wpAny _ A.in1 (seqItems? (.ref S) >>= _) _ _ s
    refine wpAny_bind (wpAny_seqItems hS rfl ?_)
    show wpAny _ A.in1 (tryCatch (pyNext (.ref I)) _ >>= _) _ _ s
    refine wpAny_bind (wpAny_tryCatch (W.item i s _ _ hlt hst fun v h' tk hPv hst' hk' => ?_))
    obtain ⟨q, rfl, hq, hqw, hqS⟩ := hP i (Nat.le_refl _) hlt v hPv
    have hS' := hk' S _ hSw hS
    have hT' := isList_keep hT fun o e => hk' T o hTw e
    have hq' := isList_keep hq fun o e => hk' q o hqw e
    have hz : acc.length + (itsOf i ++ tails itsOf n k (i + 1)).length ≤ sizeLine := hz
    rw [List.length_append] at hz
    show wpAny _ A.in1 ((holding [Value.ref q] (binaryOp .Add (.ref T) (.ref q))).attempt >>= _) _ _ _
    refine wpAny_bind (wpAny_attempt (wpAny_holding (add_refs hT' hq' (by omega) ?_)))
    have push_old : ∀ b o, h'.get? b = some o → (h'.push { cls := .type "list", data := .seq (acc ++ itsOf i).toArray }).get? b = some o := fun b o e => Heap.get?_push_of_some _ e
    have hS1 := push_old _ _ hS'
    have hnew : (h'.push { cls := .type "list", data := .seq (acc ++ itsOf i).toArray }).get? h'.objs.size = some { cls := .type "list", data := .seq (acc ++ itsOf i).toArray } := Heap.get?_push_size _ rfl
    have nS : h'.objs.size ≠ S := fun z => by
      have := Heap.lt_size hS'
      rw [← z] at this
      exact Nat.lt_irrefl _ this
    have hnw : h'.objs.size ∉ wr := fun z => by
      obtain ⟨o, ho⟩ := hI _ _ hst'
      have := Heap.lt_size ho
      rw [← hwr _ z] at this
      exact Nat.lt_irrefl _ this
    show wpAny _ A.in1 (updateSeq S (fun _ => #[Value.ref h'.objs.size]) >>= _) _ _ _
    refine wpAny_bind ?_
    refine wpAny_updateSeq hS1 rfl ?_
    have hS2 := Heap.get?_update_self (Obj.mapSeq fun _ => #[Value.ref h'.objs.size]) hS1 rfl
    refine wpAny_bind (wpAny_letGo ?_)
    refine wpAny_bind ?_
    have two : ∀ b o, b ≠ S → h'.get? b = some o → (((h'.push { cls := .type "list", data := .seq (acc ++ itsOf i).toArray }).update S (Obj.mapSeq fun _ => #[Value.ref h'.objs.size])).update S (Obj.mapSeq fun _ => #[Value.ref h'.objs.size])).get? b = some o := fun b o hb e =>
      (Heap.get?_update_other _ _ (Ne.symm hb)).trans ((Heap.get?_update_other _ _ (Ne.symm hb)).trans (push_old b o e))
    have two' : (((h'.push { cls := .type "list", data := .seq (acc ++ itsOf i).toArray }).update S (Obj.mapSeq fun _ => #[Value.ref h'.objs.size])).update S (Obj.mapSeq fun _ => #[Value.ref h'.objs.size])).get? h'.objs.size = some { cls := .type "list", data := .seq (acc ++ itsOf i).toArray } :=
      (Heap.get?_update_other _ _ (Ne.symm nS)).trans ((Heap.get?_update_other _ _ (Ne.symm nS)).trans hnew)
    have eacc : acc ++ itsOf i ++ tails itsOf n k (i + 1) = acc ++ tails itsOf n (k + 1) i := List.append_assoc _ _ _
    refine wpAny_updateSeq hS2 rfl (wpAny_pure ⟨plainId_quiet F.plain_sum_loop _, ih (i + 1) _ h'.objs.size (acc ++ itsOf i) _ 2 (by omega) hlt (W.frame _ _ _ hst' fun b hb o e => two b o (fun z => hSf (z ▸ hb)) e) (Heap.get?_update_self _ hS2 rfl) ⟨_, two', rfl, _, rfl⟩ hnw nS ?_ (by rw [List.length_append]; omega) ?_⟩)
    · intro j hj1 hj2 v hv
      obtain ⟨q2, e, hq2, h1, h2⟩ := hP j (by omega) hj2 v hv
      exact ⟨q2, e, isList_keep hq2 fun o e => two q2 o h2 (hk' q2 o h1 e), h1, h2⟩
    · intro h2 tk2 T2 hk2 hres
      refine hR h2 tk2 T2 (fun b o b1 b2 e => hk2 b o b1 b2 (two b o b2 (hk' b o b1 e))) (.inr ?_)
      have hno : ∀ x, x ∉ wr → (∀ o, s.heap.get? x = some o → False) → s.heap.get? x = none := fun x _ hx => by
        cases e : s.heap.get? x with
        | none => rfl
        | some o => exact (hx o e).elim
      rcases hres with ⟨rfl, rfl⟩ | ⟨k1, k2, k3, m, k4⟩
      · refine ⟨hnw, nS, hno _ hnw fun o e => Nat.lt_irrefl _ (Heap.lt_size (hk' _ o hnw e)), 0, ?_⟩
        rw [hk2 _ _ hnw nS two']
        have e0 : tails itsOf n 1 i = itsOf i := List.append_nil _
        rw [e0]
      · refine ⟨k1, k2, hno _ k1 fun o e => ?_, m, by rw [← eacc]; exact k4⟩
        have := two T2 o k2 (hk' T2 o k1 e)
        rw [k3] at this
        cases this
end
theorem args_sum2 (a b : Value) : argsOk "sum" ⟨[a, b], []⟩ := by unfold argsOk; kernel_rfl
theorem sub_list_str : isSubtype (.type "list") (.type "str") = pure false := by rw [isSubtype_type]; kernel_rfl
theorem sub_list_bytes : isSubtype (.type "list") (.type "bytes") = pure false := by rw [isSubtype_type]; kernel_rfl
theorem sub_list_bytearray : isSubtype (.type "list") (.type "bytearray") = pure false := by rw [isSubtype_type]; kernel_rfl
section
variable {prog : Program} {w : World} {A : Around} {E : Value → Shared → Prop} {s : Shared}
theorem call_sumL {x : Value} {b : Addr} {ys : List Value} {Q : Value → Shared → Prop}
    (h : wpAny (model prog w) A.in1 (pyIter x) (fun it s₂ => ∃ I fp wr n P St itsOf, it = .ref I ∧ Walks prog w A.in1 I fp wr n P St ∧ St 0 s₂.heap ∧ (∀ b ∈ fp, b < s₂.heap.objs.size) ∧ (∀ b ∈ wr, b = I) ∧ (∀ i h, St i h → ∃ o, h.get? I = some o) ∧
      s₂.heap.IsList b ys.toArray ∧ b ∉ wr ∧ (∀ j, j < n → ∀ v, P j v → ∃ q, v = .ref q ∧ s₂.heap.IsList q (itsOf j).toArray ∧ q ∉ wr) ∧ ys.length + (tails itsOf n n 0).length ≤ sizeLine ∧
      ∀ h' tk T', (∀ c o, c ∉ wr → s₂.heap.get? c = some o → h'.get? c = some o) → (n = 0 ∧ T' = b ∨ T' ∉ wr ∧ s₂.heap.get? T' = none ∧ ∃ m, h'.get? T' = some { cls := .type "list", dict := none, data := .seq (ys ++ tails itsOf n n 0).toArray m, slots := #[] }) → Q (.ref T') { s₂ with heap := h', toks := tk }) E s) :
    wpAny (model prog w) A (call (.builtin "sum") [x, .ref b]) Q E s := by
  refine call_function_tree F.kind_sum F.plain_sum F.entry_sum (args_sum2 _ _) ?_
  unfold Builtin.«sum»
  simp only [List.length_cons, List.length_nil]
  rw [if_neg (by decide)]
  refine wpAny_bind (wpAny_of_eq (show Builtin.Builtins.bindParams "sum" ["start"] 0 ⟨[.ref b], []⟩ = pure [some (.ref b)] from by first | rfl | kernel_rfl) ?_)
  refine wpAny_bind (wpAny_mono h (fun it s₂ h₂ => ?_) fun _ _ e => e)
  obtain ⟨I, fp, wr, n, P, St, itsOf, rfl, W, hst, hfp, hwr, hI, hb, hbw, hP, hz, hQ⟩ := h₂
  refine wpAny_bind (wpAny_pure ?_)
  simp only [List.forIn_cons, List.forIn_nil]
  have ty : s₂.TypeIs (.ref b) "list" := hb.typeIs
  refine wpAny_bind (wpAny_bind (wpAny_bind (wpAny_isInstance (T := "list") (b := false) ty sub_list_str ?_)))
  simp only [Bool.false_eq_true, if_false]
  refine wpAny_pure (wpAny_bind (wpAny_bind (wpAny_isInstance (T := "list") (b := false) ty sub_list_bytes ?_)))
  simp only [Bool.false_eq_true, if_false]
  refine wpAny_pure (wpAny_bind (wpAny_bind (wpAny_isInstance (T := "list") (b := false) ty sub_list_bytearray ?_)))
  simp only [Bool.false_eq_true, if_false]
  refine wpAny_pure (wpAny_pure ?_)
  refine wpAny_bind (wpAny_newObj_type ?_)
  have hSf : s₂.heap.objs.size ∉ fp := fun hm => Nat.lt_irrefl _ (hfp _ hm)
  have old : ∀ c o, s₂.heap.get? c = some o → (s₂.heap.push { cls := .type "list", data := .seq #[Value.ref b] }).get? c = some o := fun c o e => Heap.get?_push_of_some _ e
  have lt : ∀ c vs, s₂.heap.IsList c vs → c ≠ s₂.heap.objs.size := fun c vs ⟨o, ho, _⟩ z => by
    have := Heap.lt_size ho
    rw [z] at this
    exact Nat.lt_irrefl _ this
  refine wpAny_pure ⟨plainId_quiet F.plain_sum_loop _, sum_loopL W s₂.heap.objs.size hSf itsOf hwr hI n 0 _ b ys 0 2 rfl (Nat.zero_le _)
    (W.frame _ _ _ hst fun b _ o e => old _ _ e) (Heap.get?_push_size _ rfl) (isList_keep hb fun o e => old _ _ e) hbw (lt _ _ hb) (fun j _ hj v hv => ?_) hz fun h' tk T' hk hres => ?_⟩
  · obtain ⟨q, e, hq, hqw⟩ := hP j hj v hv
    exact ⟨q, e, isList_keep hq fun o e => old _ _ e, hqw, lt _ _ hq⟩
  · refine hQ h' tk T' (fun c o hc e => hk c o hc (Nat.ne_of_lt (Heap.lt_size e)) (old c o e)) ?_
    rcases hres with h | ⟨k1, k2, k3, m, k4⟩
    · exact .inl h
    · refine .inr ⟨k1, ?_, m, k4⟩
      cases e : s₂.heap.get? T' with
      | none => rfl
      | some o => rw [old _ _ e] at k3; cases k3
end
theorem iter_listP {prog : Program} {w : World} {A : Around} {E : Value → Shared → Prop} {s : Shared} {l : Addr} {xs : Array Value} {Q : Value → Shared → Prop} (hl : s.heap.IsList l xs)
    (h : ∀ s₂ : Shared, s₂ = { s with heap := s.heap.push { cls := .type "list_iterator", data := .fields #[.ref l, .int 0 0] } } →
      (s₂.heap.IsListIter s.heap.objs.size l 0 ∧ s₂.heap.IsList l xs) → (∀ b ∈ [s.heap.objs.size, l], b < s₂.heap.objs.size) → l ≠ s.heap.objs.size → Q (.ref s.heap.objs.size) s₂) :
    wpAny (model prog w) A (pyIter (.ref l)) Q E s := by
  have hlt : l < s.heap.objs.size := by obtain ⟨_, e, _⟩ := hl; exact Heap.lt_size e
  refine wpAny_pyIter_list hl (h _ rfl ⟨⟨_, Heap.get?_push_size _ rfl, rfl, rfl⟩, hl.push _⟩ (fun b hb => ?_) (Nat.ne_of_lt hlt))
  show b < (s.heap.push _).objs.size
  rw [Heap.size_push]
  rcases List.mem_cons.mp hb with rfl | hb
  · exact Nat.lt_succ_self _
  · rcases List.mem_cons.mp hb with rfl | hb
    · exact Nat.lt_succ_of_lt hlt
    · cases hb
def rSumL (K : PySem.W.Frag) : List V → Hp → VK → Prop := fun vs H Q => ∃ (a b : Addr) (cs : List Addr) (xss : List (List V)) (ys : List V), vs = [.ref a, .ref b] ∧ SqL K H a (cs.map V.ref) ∧ SqL K H b ys ∧ cs.length = xss.length ∧ (∀ (j : Nat) (c : Addr) (xs : List V), cs[j]? = some c → xss[j]? = some xs → SqL K H c xs) ∧ ys.length + xss.flatten.length ≤ sizeLine ∧ (xss = [] → Q (.ref b) H) ∧ ∀ p, H p = none → Q (.ref p) (upd H p (.lst (ys ++ xss.flatten)))
theorem vals_tails {xss : List (List V)} {itsOf : Nat → List Value} (h : ∀ j xs, xss[j]? = some xs → Vals xs (itsOf j)) : ∀ (k i : Nat), xss.length - i = k → Vals ((xss.drop i).flatten) (tails itsOf xss.length k i)
  | 0, i, e => by rw [List.drop_eq_nil_of_le (by omega)]; exact .nil
  | k + 1, i, e => by
    have hi : i < xss.length := by omega
    rw [List.drop_eq_getElem_cons hi, List.flatten_cons]
    exact (h i _ (List.getElem?_eq_getElem hi)).append (vals_tails h k (i + 1) (by omega))
theorem vals_ref_eq : ∀ {cs : List Addr} {us : List Value}, Vals (cs.map V.ref) us → us = cs.map Value.ref
  | [], _, .nil => rfl
  | c :: cs, u :: us, .cons r t => by
    obtain rfl : u = Value.ref c := r
    rw [List.map_cons, ← vals_ref_eq t]
theorem cr_sumL {X : Cx} (hc : X.calm = true) : CallR X (.builtin "sum") (rSumL X.K) := by
  intro pins s σ H vs us Q I r h
  obtain ⟨a, b, cs, xss, ys, rfl, ha, hb, hlen, hcs, hz, q0, q⟩ := h
  obtain ⟨u1, u2, rfl, ra, rb⟩ := vals2 r
  cases ra
  cases rb
  obtain ⟨itsA, rvA, plA, _⟩ := I.list ha
  obtain ⟨itsB, rvB, plB, _⟩ := I.list hb
  obtain rfl := vals_ref_eq rvA
  have hex : ∀ j : Nat, ∃ its : List Value, ∀ (c : Addr) (xs : List V), cs[j]? = some c → xss[j]? = some xs → Vals xs its ∧ s.heap.IsList c its.toArray := fun j => by
    cases e1 : cs[j]? with
    | none => exact ⟨[], fun c xs z => by cases z⟩
    | some c =>
      cases e2 : xss[j]? with
      | none => exact ⟨[], fun c xs _ z => by cases z⟩
      | some xs =>
        obtain ⟨its, rv, pl, _⟩ := I.list (hcs j c xs e1 e2)
        exact ⟨its, fun c' xs' z1 z2 => by cases z1; cases z2; exact ⟨rv, pl.isList⟩⟩
  obtain ⟨itsOf, hits⟩ := Classical.axiomOfChoice hex
  have hv : ∀ j xs, xss[j]? = some xs → Vals xs (itsOf j) := fun j xs e => by
    have hj : j < cs.length := by rw [hlen]; exact (List.getElem?_eq_some_iff.mp e).1
    exact (hits j cs[j] xs (List.getElem?_eq_getElem hj) e).1
  have hvt := vals_tails hv xss.length 0 (by omega)
  rw [List.drop_zero] at hvt
  refine call_sumL (ys := itsB) (iter_listP plA.isList fun s₂ e2 st hfp hlI => ?_)
  subst e2
  have W := Walks.list (prog := X.prog) (w := X.w) (A := X.A.in1) (I.ok.hd hc) s.heap.objs.size a hlI (cs.map Value.ref).toArray
  have hsz : (cs.map Value.ref).toArray.size = xss.length := by rw [List.size_toArray, List.length_map, hlen]
  rw [hsz] at W
  have hlt : ∀ {q : Addr} {vs : Array Value}, s.heap.IsList q vs → q ∉ [s.heap.objs.size] := fun ⟨o, ho, _⟩ hm => by
    have := Heap.lt_size ho
    rw [List.mem_singleton.mp hm] at this
    exact Nat.lt_irrefl _ this
  refine ⟨s.heap.objs.size, [s.heap.objs.size, a], [s.heap.objs.size], xss.length, fun i v => (cs.map Value.ref).toArray[i]? = some v, fun i h => h.IsListIter s.heap.objs.size a i ∧ h.IsList a (cs.map Value.ref).toArray, itsOf, rfl, W, st, hfp, fun b hb => List.mem_singleton.mp hb, fun i h z => by obtain ⟨⟨o, ho, _⟩, _⟩ := z; exact ⟨o, ho⟩, plB.isList.push _, hlt plB.isList, fun j hj v hv => ?_, by rw [← rvB.length, ← hvt.length]; exact hz, fun h' tk T' hk hres => ?_⟩
  · have hjc : j < cs.length := by rw [hlen]; exact hj
    have e1 : cs[j]? = some cs[j] := List.getElem?_eq_getElem hjc
    have e2 : xss[j]? = some xss[j] := List.getElem?_eq_getElem hj
    have hl := (hits j _ _ e1 e2).2
    have hv : (cs.map Value.ref)[j]? = some v := by simpa using hv
    rw [List.getElem?_map, e1] at hv
    exact ⟨cs[j], (Option.some.inj hv).symm, hl.push _, hlt hl⟩
  · have hk2 : ∀ c o, s.heap.get? c = some o → h'.get? c = some o := fun c o e => hk c o (fun hm => by
      have := Heap.lt_size e
      rw [List.mem_singleton.mp hm] at this
      exact Nat.lt_irrefl _ this) (Heap.get?_push_of_some _ e)
    rcases hres with ⟨h0, rfl⟩ | ⟨k1, k2, m, k4⟩
    · exact ⟨.ref T', H, I.kept hk2, rfl, q0 (List.eq_nil_of_length_eq_zero h0)⟩
    · have hn : s.heap.get? T' = none := by
        cases e : s.heap.get? T' with
        | none => rfl
        | some o => rw [Heap.get?_push_of_some _ e] at k2; cases k2
      have hH : H T' = none := I.hok.gone hn
      refine ⟨.ref T', upd H T' (.lst (ys ++ xss.flatten)), I.laidN (t' := tk) hk2 hn hH ⟨by rw [List.length_append]; exact hz, itsB ++ tails itsOf xss.length xss.length 0, m, rvB.append hvt, k4⟩, rfl, q T' hH⟩
def dSumL : DC := fun xs O R => match xs with
  | [x, y] => ∃ (zs : List D) (xss : List (List D)) (ys : List D), lstOf O x = some zs ∧ y = .lst ys ∧ zs.length = xss.length ∧ (∀ (j : Nat) (z : D) (v : List D), zs[j]? = some z → xss[j]? = some v → lstOf O z = some v) ∧ ys.length + xss.flatten.length ≤ sizeLine ∧ R (.lst (ys ++ xss.flatten)) O
  | _ => False
theorem lists_vr {K : PySem.W.Frag} {G : Hp} {O : Om} {H : Hp} (rl : Rel K G O H) : ∀ {zs : List D} {us : List V} {xss : List (List D)}, VRs K G us zs → zs.length = xss.length → (∀ (j : Nat) (z : D) (v : List D), zs[j]? = some z → xss[j]? = some v → lstOf O z = some v) →
    ∃ (cs : List Addr) (vss : List (List V)), us = cs.map V.ref ∧ cs.length = vss.length ∧ (∀ (j : Nat) (c : Addr) (vs : List V), cs[j]? = some c → vss[j]? = some vs → SqL K H c vs) ∧ VRs K G vss.flatten xss.flatten ∧ vss.length = xss.length
  | [], _, [], .nil, _, _ => ⟨[], [], rfl, rfl, fun j c vs z => by simp at z, .nil, rfl⟩
  | [], _, _ :: _, _, e, _ => by cases e
  | _ :: _, _, [], _, e, _ => by cases e
  | z :: zs, u :: us, v :: xss, .cons r t, e, h => by
    obtain ⟨cs, vss, h1, h2, h3, h4, h5⟩ := lists_vr rl t (Nat.succ.inj e) fun j z' v' a b => h (j + 1) z' v' (by simpa using a) (by simpa using b)
    obtain ⟨c, vs, rfl, hq, hv⟩ := rl.lstOf r (h 0 z v rfl rfl)
    refine ⟨c :: cs, vs :: vss, by rw [h1]; rfl, by rw [List.length_cons, List.length_cons, h2], fun j c' vs' a b => ?_, hv.append h4, by rw [List.length_cons, List.length_cons, h5]⟩
    cases j with
    | zero => cases a; cases b; exact hq
    | succ j => exact h3 j c' vs' (by simpa using a) (by simpa using b)
theorem sSumL {K : PySem.W.Frag} : CaS K (rSumL K) dSumL := fun {G O H xs vs R Q} rl hv h k => by
  match xs, vs, hv, h with
  | [x, y], [vx, vy], .cons hx (.cons hy .nil), h =>
    obtain ⟨zs, xss, ys, h1, rfl, h2, h3, h4, r⟩ := h
    obtain ⟨a, us, rfl, hq, hu⟩ := rl.lstOf hx h1
    obtain ⟨b, ws, rfl, hq2, hw⟩ := rl.lstOf (x := .lst ys) hy rfl
    obtain ⟨cs, vss, e1, e2, e3, e4, e5⟩ := lists_vr rl hu h2 h3
    subst e1
    refine ⟨a, b, cs, vss, ws, rfl, hq, hq2, e2, e3, by rw [hw.length, e4.length]; exact h4, fun e0 => ?_, fun p hp => Bk.lstF k rl (hw.append e4) r p hp⟩
    have : xss = [] := List.eq_nil_of_length_eq_zero (by rw [← e5, e0]; rfl)
    rw [this, List.flatten_nil, List.append_nil] at r
    exact k.here rl hy r
end DL
set_option Elab.async false
set_option linter.all false
set_option maxRecDepth 100000
set_option maxHeartbeats 2000000
namespace DL
open PySem PySem.Spec PyProof.Rows L2
open Evl (Ex)
end DL
set_option Elab.async false
set_option linter.all false
set_option maxRecDepth 100000
set_option maxHeartbeats 2000000
namespace DL
open PySem PySem.Spec PyProof.Rows L2
open Evl (Ex)
def rReprD (K : PySem.W.Frag) : List V → Hp → VK → Prop := fun vs H Q => ∃ (a : Addr) (d : PyData), vs = [.ref a] ∧ Dp K H (.ref a) d ∧ d.showable = true ∧ d.hasDict = false ∧ d.depth ≤ 32 ∧ d.shown.length ≤ sizeLine ∧ Q (.str d.shown) H
theorem cr_repr {X : Cx} (hg : X.A.guards = some []) (hu : X.A.units + 64 < cLine) : CallR X (.builtin "repr") (rReprD X.K) := by
  intro pins s σ H vs us Q I r h
  obtain ⟨a, d, rfl, hd, h1, h2, h3, h4, q⟩ := h
  rw [Vals.ref1 r]
  obtain ⟨as, rd⟩ := Dp.reads I d (.ref a) (.ref a) hd rfl
  exact repr_of_reads' rd h1 (PyData.noDict_hsm h2) hg (by omega) (fun _ _ e => e) (fun h' u tk hk => ⟨.str d.shown, H, I.kept hk, ⟨u, rfl⟩, q⟩) h4
def dRepr : DC := fun xs O R => match xs with
  | [x] => ∃ (zs : List D) (d : PyData), lstOf O x = some zs ∧ Vw O x d ∧ d.showable = true ∧ d.hasDict = false ∧ d.depth ≤ 32 ∧ d.shown.length ≤ sizeLine ∧ R (.str d.shown) O
  | _ => False
theorem sRepr {K : PySem.W.Frag} : CaS K (rReprD K) dRepr := fun {G O H xs vs R Q} rl hv h k => by
  match xs, hv, h with
  | [x], hv, h =>
    obtain ⟨v, rfl, hw⟩ := hv.one
    obtain ⟨zs, d, h0, hd, h1, h2, h3, h4, r⟩ := h
    obtain ⟨a, us, rfl, hq, hu⟩ := rl.lstOf hw h0
    exact ⟨a, d, rfl, hd.dp rl hw, h1, h2, h3, h4, k.here rl (.str _) r⟩
theorem callRepr {X : Cx} {k : Nat} (hg : X.A.guards = some []) (hr : Room k X.A) : CallR X (.builtin "repr") (rReprD X.K) := cr_repr hg (by have := hr.un; omega)
structure FnOkG (P : Program) (w : World) (K : PySem.W.Frag) (mg : Str → Option Value) (base : Heap) (k : Nat) (f : Addr) (fd : FuncData) (ps : List Str) (sp : Sp) : Prop where
  run : ∀ (A : Around) (outer : List Env) (s : Shared) (H : Hp) (args : Args) (us : List Value) (vs : List V) (Q : VK) (E : XK), A.guards = some [] → Room k A → Env0 P w K mg base A outer s H → BindsTo s fd args (ps.zip us) → Vals vs us → sp vs H Q E →
    codeAny (model P w) A (.call (.ref f) args) (CR CX0 outer P w H s Q E) s
section
variable {P : Program} {w : World} {K : PySem.W.Frag} {mg : Str → Option Value} {base : Heap}
theorem fn_okG {x qual : Str} {params : Arguments} {body : List Stmt} {scope : Scope} {dvs : List V} {kws : List (Str × V)} {f : Addr} {fd : FuncData} {N ps : List Str} {k : Nat} {dsp : DSp} {t : DS} (F : FunD K x qual params body scope dvs kws f fd) (S : FnScope N ps scope)
    (len : ∀ xs O R Z, dsp xs O R Z → xs.length = ps.length)
    (hb : ∀ (cdv : Value) (A : Around) (outer : List Env) (s : Shared) (H : Hp) (E : XK), A.guards = some [] → Room k (A.deeper (envOfC qual scope s.heap.objs.size f cdv)) → PSs (cxOf CX0 P w K mg base N qual scope f cdv A outer s H E).nox body (lowS K W0 t))
    (hd : ∀ xs O R Z, dsp xs O R Z → t (ends R) (startD N xs) O) : FnOkG P w K mg base (k + 1) f fd ps (toSp K dsp) := by
  obtain ⟨oc, od, dV, kV, doc, pm, an, cdv, ct, osl, rfl, lk, hcd, _, _⟩ := F.ex
  refine ⟨fun A outer s H args us vs Q E gA hr e0 hbd r h => ?_⟩
  obtain ⟨G, O, xs, R, Z, rl, vr, hs, kk, _⟩ := h
  have hl : vs.length = ps.length := by rw [vr.length]; exact len _ _ _ _ hs
  have inK : K.In s.heap := e0.mod.kin.keeps fun b o e => (e0.bs b o e).1
  have nolim : s.heap.NoLimit := e0.mod.nolimit.keeps fun b o e => (e0.bs b o e).1
  refine codeAny_call_function hr.depth (inK _ _ lk) rfl S.co S.gen rfl (PySem.W.codeRec_of inK hcd) (hbd _ _ _ _ ?_)
  refine wpAny_newFunctionEnv_cells S.kind (fun y hy => ?_) fun env he s1 ic => ?_
  · obtain ⟨n, v⟩ := y
    exact (S.par n (List.of_mem_zip hy).1).imp_right fun q => ⟨q, PySem.W.cellsFrom_some _ _ _ (.inl q)⟩
  subst he
  refine ⟨nolim.keeps ic.toInCall.keep, codeAny_func ?_⟩
  have body := (hb cdv A outer s H E gA (hr.deeper _)).nox
  have I : Inv (cxOf CX0 P w K mg base N qual scope f cdv A outer s H E) [] (start N vs) H s1 := inv_start S hr.hd e0 hl r ic
  refine wpAny_mono (body.run [] s1 (start N vs) H { nx := fun _ H' => Q .non H', rt := Q } I ?_) (fun fl s' hf => ?_) fun e s' hf => hf
  · refine ⟨G, O, startD N xs, ends R, rl, GR.start vr, hd _ _ _ _ hs, ⟨fun s' g' O' G' H' go gr q => ?_, fun _ _ _ _ _ _ _ q => q, fun _ _ _ _ _ _ _ q => q, fun x O' v G' H' go vr q => ?_, fun _ _ _ _ _ _ _ _ _ q => q⟩⟩
    · obtain ⟨O2, h1, h2⟩ := q
      exact kk _ _ _ _ _ (go.less h1) .non h2
    · obtain ⟨O2, h1, h2⟩ := q
      exact kk _ _ _ _ _ (go.less h1) vr h2
  · have done : ∀ {σ' : L2.St} {H' : Hp} {v : V} {u : Value}, Inv (cxOf CX0 P w K mg base N qual scope f cdv A outer s H E) [] σ' H' s' → RelV v u → Q v H' → CE outer P w H s Q u s' :=
      fun {_ H' v _} J rv q => ⟨v, H', J.os, J.bare, J.base, J.hok, rv, q⟩
    match fl, hf with
    | .ret u, ⟨v, _, H', J, rv, q⟩ => exact done J rv q
    | .next, ⟨_, H', J, q⟩ => exact done (v := V.non) (u := Value.none) J rfl q
    | .brk, ⟨_, _, _, q⟩ => exact q.elim
    | .cont, ⟨_, _, _, q⟩ => exact q.elim
/-- the law's call, from the top -/
theorem law_callG {mb : Str → Option Value} {k : Nat} {fa a : Addr} {fd : FuncData} {x : Str} {sp : Sp} {s₁ : Shared} {vs : List Value} {ns : List Int}
    (inK : K.In s₁.heap) (hns : s₁.heap.Ns mainGlobals mg) (hb : s₁.heap.Ns builtinsNs mb) (hbb : ∀ x : Str, x ≠ "__name__" → mb x = bootBuiltins x) (hlim : s₁.heap.NoLimit) (hg : s₁.gens = #[])
    (ha : s₁.heap.get? a = some { cls := .type "list", data := .seq vs.toArray }) (hi : IntsAre vs ns) (hl : ns.length ≤ sizeLine) (hr : Room k callerA)
    (F : ∀ base : Heap, K.In base → base.Ns mainGlobals mg → FnOkG P w K mg base k fa fd [x] sp) (hbind : ∀ (s : Shared) (u : Value), BindsTo s fd ⟨[u], []⟩ [(x, u)])
    (hsp : ∀ H : Hp, SqL K H a (ns.map V.int) → sp [.ref a] H (fun v _ => v = .bl true) fun _ _ _ => False) :
    codeAny (model P w) callerA (.call (.ref fa) ⟨[.ref a], []⟩) (fun r s' => r = .ok (.ret (.bool true)) ∧ OldK s₁.heap s'.heap ∧ s'.os = s₁.os ∧ AllBare s'.gens) s₁ := by
  have rv := vals_ints hi
  have hlv : vs.length = ns.length := hi.length
  obtain ⟨H, hH, hS⟩ : ∃ H : Hp, (∀ b u, H b = some u → b = a ∧ K.lookup a = none ∧ u = .frz { cls := .type "list", data := .seq vs.toArray } (.lst (ns.map V.int))) ∧ SqL K H a (ns.map V.int) := by
    cases hk : K.lookup a with
    | none =>
      refine ⟨fun b => if b = a then some (.frz { cls := .type "list", data := .seq vs.toArray } (.lst (ns.map V.int))) else none, fun b u e => ?_, .inl (.inr ⟨_, if_pos rfl⟩)⟩
      by_cases hba : b = a
      · exact ⟨hba, rfl, by have e := (if_pos hba).symm.trans e; exact (Option.some.inj e).symm⟩
      · have e := (if_neg hba).symm.trans e; cases e
    | some o =>
      have e := inK a o hk
      rw [ha] at e
      cases e
      exact ⟨fun _ => none, (fun b u z => by cases z), .inr ⟨_, vs.toArray, _, hk, rfl, rfl, rfl, by rw [List.size_toArray, hlv]; exact hl, by simpa using rv⟩⟩
  have away : ∀ {b : Addr}, b ≠ a → H b = none := fun {b} nb => by
    cases e : H b with
    | none => rfl
    | some u => exact absurd (hH b u e).1 nb
  have dic : ∀ {b : Addr} {m : Str → Option Value}, s₁.heap.Ns b m → (hidT s₁.heap H).Ns b m := fun ⟨o, es, ep, e, d, r⟩ =>
    ⟨o, es, ep, hidT_get e (away fun z => by rw [z, ha] at e; cases e; cases d), d, r⟩
  have hKb : K.In (hidT s₁.heap H) := fun b o e => hidT_get (inK b o e) (by
    cases e2 : H b with
    | none => rfl
    | some u =>
      obtain ⟨z1, z2, _⟩ := hH b u e2
      rw [z1, z2] at e
      cases e)
  have hok : HOk P w H s₁.heap := fun b u e => by
    obtain ⟨z1, _, z3⟩ := hH b u e
    rw [z1, z3]
    exact ⟨ha, by rw [List.length_map]; exact hl, vs, _, rv, ha⟩
  have e0 : Env0 P w K mg (hidT s₁.heap H) callerA [] s₁ H := ⟨rfl, ⟨hKb, dic hns, ⟨mb, dic hb, hbb⟩, hlim.elim fun mc h => ⟨mc, dic h.1, h.2⟩⟩, fun b o e => of_hidT e, Nat.le_of_eq (hidT_size _ _), trivial, fun b hb => absurd (show b ∈ ([] : List Addr) from hb) (by simp), hok, .of_eq hg⟩
  refine codeAny_mono ((F _ hKb (dic hns)).run callerA [] s₁ H ⟨[.ref a], []⟩ [.ref a] [.ref a] _ _ rfl hr e0 (hbind s₁ (.ref a)) (.cons rfl .nil) (hsp H hS)) fun r s' h => ?_
  match r, h with
  | .error e, h => exact False.elim h
  | .ok .next, h => exact False.elim h
  | .ok .brk, h => exact False.elim h
  | .ok .cont, h => exact False.elim h
  | .ok (.ret u), ⟨v, H', os, bare, un, hok', r', q⟩ =>
    obtain rfl : v = .bl true := q
    obtain rfl : u = Value.bool true := r'
    have keep : ∀ b o, s₁.heap.get? b = some o → s'.heap.get? b = some o := fun b o e => by
      cases e2 : H b with
      | none => exact un.keep b o e e2 (fun z => absurd (show b ∈ ([] : List Addr) from z) (by simp)) (by simp)
      | some u =>
        obtain ⟨z1, _, z3⟩ := hH b u e2
        rw [z3] at e2
        have k2 := un.frzs b _ _ e2
        obtain ⟨i1, _⟩ := hok b _ e2
        obtain ⟨i2, _⟩ := hok' b _ k2
        rw [e] at i1
        cases i1
        exact i2
    exact ⟨rfl, ⟨fun b o e => .inl (keep b o e), fun b o e => ⟨o, keep b o e⟩⟩, os, bare⟩
end
/-- the end of a law that asks repr(..) -/
theorem walkG {l : PySem.W.OpenLaw} {q : Program} {loose : List Str} {XP : (Str → Option Value) → Heap → Prop} {YP : World → Heap → Prop} {d : DefRec} {K : Params → PySem.W.Frag} {n k : Nat} {x : Str} (hn : l.most = some n) (hl : n ≤ sizeLine) (hdf : d.params.defaults = []) (hr : Room k callerA)
    (hY : ∀ (w : World) (h : Heap), YP w h → (K w.params).In h)
    (F : ∀ (w : World) (mg : Str → Option Value) (fa : Addr) (h : Heap), YP w h → (K w.params).In h → h.Ns mainGlobals mg → mg d.name = some (.ref fa) →
      ∃ (fd : FuncData) (sp : DSp), (∀ (s : Shared) (u : Value), BindsTo s fd ⟨[u], []⟩ [(x, u)]) ∧ (∀ (ns : List Int) (O : Om) (R : D → Om → Prop) (Z : XD), ns.length ≤ n → (∀ O', R (.bl true) O') → sp [.lst (ns.map D.int)] O R Z) ∧
        ∀ base : Heap, (K w.params).In base → base.Ns mainGlobals mg → FnOkG l.prog w (K w.params) mg base k fa fd [x] (toSp (K w.params) sp)) :
    PySem.W.WalkO q loose XP YP l.row.toRowW d [] (fun f vs => PySem.call f vs) := by
  refine Att.attach_callB hn hdf fun w s₀ s₁ mg mb fa o pm cd doc a vs ns G Y ho hd hcd hmg hobj hints hlen hbits hg => ?_
  have inK := hY w _ Y
  obtain ⟨fd, sp, hbd, hs, hF⟩ := F w mg fa _ Y inK G.T.g hmg
  refine law_callG inK G.T.g G.T.b G.T.builtins G.T.nolimit hg hobj hints (Nat.le_trans hlen hl) hr hF hbd fun H hS => ?_
  refine ⟨H, fun _ => none, [.lst (ns.map D.int)], fun x _ => x = .bl true, fun _ _ _ => False, ⟨fun b o e => e, fun b o e => by cases e⟩, .cons (.lst hS (VRs.ofInts ns)) .nil, hs ns _ _ _ hlen fun _ => rfl, ?_, ?_⟩
  · intro x O' v G' H' go vr e
    have e : x = .bl true := e
    subst e
    cases vr
    rfl
  · intro c e O' G' H' _ z
    exact z
end DL
set_option Elab.async false
set_option linter.all false
set_option maxRecDepth 100000
set_option maxHeartbeats 2000000
namespace L2
open PySem PySem.Spec PyProof.Rows
end L2
namespace DL
open PySem PySem.Spec PyProof.Rows L2
open Evl (Ex)
def DEnds.calm (F : DEnds) : Option Nat → DEnds
  | none => { F with xc := fun _ _ _ _ => False }
  | some i => { F with nx := fun g O => F.nx (g.set i none) O, bk := fun g O => F.bk (g.set i none) O, ct := fun g O => F.ct (g.set i none) O, xc := fun _ _ _ _ => False }
end DL
set_option Elab.async false
set_option linter.all false
set_option maxRecDepth 100000
set_option maxHeartbeats 2000000
namespace DL
open PySem PySem.Spec PyProof.Rows L2
open Evl (Ex)
end DL
set_option Elab.async false
set_option linter.all false
set_option maxRecDepth 100000
set_option maxHeartbeats 2000000
namespace DL
open PySem PySem.Spec PyProof.Rows L2
open PySem.W (alike dataLt)
open Evl (Ex)
end DL
set_option Elab.async false
set_option linter.all false
set_option maxRecDepth 100000
set_option maxHeartbeats 2000000
namespace DL
open PySem PySem.Spec PyProof.Rows L2
open Evl (Ex)
structure InsO (K : PySem.W.Frag) (mg : Str → Option Value) (x : Str) (C : Addr) : Prop where
  c : C8.InsC K C
  g : mg x = some (.ref C)
end DL
set_option Elab.async false
set_option linter.all false
set_option maxRecDepth 100000
set_option maxHeartbeats 2000000
namespace DL
open PySem PySem.Spec PyProof PyProof.Rows L2
open Evl (Ex)
end DL
set_option Elab.async false
set_option linter.all false
set_option maxRecDepth 100000
set_option maxHeartbeats 2000000
namespace DL
open PySem PySem.Spec PyProof.Rows L2
open Evl (Ex)
end DL
set_option Elab.async false
set_option linter.all false
set_option maxRecDepth 100000
set_option maxHeartbeats 2000000
namespace DL
open PySem PySem.Spec PyProof.Rows L2
open Evl (Ex)
section
variable {X : Cx} {CX : CXT} {C f : Addr} {fd : FuncData} {ps : List Str} {sp : Sp} {E : XK} {k : Nat} {A : Around}
theorem env0_sub {pins : List (Addr × Obj)} {σ : L2.St} {H : Hp} {s : Shared} (sb : Sub X k A) (I : Inv X pins σ H s) : Env0 X.prog X.w X.K X.mg X.base A X.stack s H := by
  have e := I.env0
  exact ⟨by rw [sb.fr]; exact e.frames, e.mod, e.bs, e.bsz, e.funs, e.frf, e.hok, e.bare⟩
/-- the callee runs, somewhere below -/
theorem run_fnA {pins : List (Addr × Obj)} {σ : L2.St} {H : Hp} {s : Shared} {Q : VK} {us : List Value} {vs : List V} (F : FnOk X.prog X.w X.K X.mg X.base CX k f fd ps sp) (sb : Sub X k A) (hb : Binds X.K fd ps []) (hx : Passes CX X E)
    (I : Inv X pins σ H s) (r : Vals vs us) (h : sp vs H Q E) : wpAny (model X.prog X.w) A (call (.ref f) us) (EP X pins σ Q) X.xe s := by
  have hl : us.length = ps.length := by rw [← r.length]; exact F.len _ _ _ _ h
  refine wpAny_call (codeAny_mono (F.run A X.stack s H ⟨us, []⟩ us vs Q E sb.room (env0_sub sb I) (by
    have := hb s us I.kIn (by simpa using hl)
    simpa using this) r h) fun r s' hq => ?_)
  cases r with
  | error e => exact hx pins σ H s e s' I hq
  | ok fl =>
    cases fl with
    | ret u => exact I.after hq
    | next => exact False.elim hq
    | brk => exact False.elim hq
    | cont => exact False.elim hq
/-- a method that an operator finds -/
structure OwnM (K : PySem.W.Frag) (C f : Addr) (n : Str) : Prop where
  find : PySem.W.findIn K (.ref C) n = some (some (.ref f))
  fn : PySem.W.isFn K (.ref f) = true
/-- where an own object lies -/
theorem own_at {pins : List (Addr × Obj)} {σ : L2.St} {H : Hp} {s : Shared} {a dx : Addr} {fs : List (Str × V)} (I : Inv X pins σ H s) (ha : H a = some (.ins C dx fs)) : ∃ ox od, PySem.W.InstAt s.heap a ox C od := by
  obtain ⟨mA, J, _⟩ := ins_get I.hok ha
  obtain ⟨od, J, _⟩ := J.look
  exact ⟨_, od, J⟩
theorem own_len_body {pins : List (Addr × Obj)} {σ : L2.St} {H : Hp} {s : Shared} {Q : VK} {a dx : Addr} {fs : List (Str × V)} (F : FnOk X.prog X.w X.K X.mg X.base CX k f fd ps sp) (M : OwnM X.K C f "__len__") (sb : Sub X k A) (hb : Binds X.K fd ps []) (hx : Passes CX X E)
    (I : Inv X pins σ H s) (ha : H a = some (.ins C dx fs)) (h : sp [.ref a] H (fun v H' => ∃ n : Int, v = .int n ∧ 0 ≤ n ∧ n < 2 ^ 63 ∧ Q (.int n) H') E) : wpAny (model X.prog X.w) A (Builtin.«len» ⟨[.ref a], []⟩) (fun fin s' => ∃ (n : Int) (t : Tok) (H' : Hp), fin = .done (.ret (.int n t)) ∧ Inv X pins σ H' s' ∧ Q (.int n) H') X.xe s := by
  obtain ⟨ox, od, J⟩ := own_at I ha
  unfold Builtin.«len»
  refine wpAny_bind (m := oneArg "len" _) (wpAny_pure ?_)
  refine wpAny_bind (m := callSpecial? (.ref a) (Str.ofString "__len__")) (PySem.W.special_fn I.kIn J M.find (beq_iff_eq.mp M.fn) (wpAny_mono (run_fnA (us := [.ref a]) (vs := [.ref a]) F sb hb hx I (.cons rfl .nil) h) (fun v s' hv => ?_) fun _ _ e => e))
  obtain ⟨z, H', I', rz, n, rfl, h0, h1, q⟩ := hv
  obtain ⟨t, rfl⟩ := rz
  refine wpAny_bind (wpAny_holding (wpAny_pure ?_))
  refine wpAny_bind (wpAny_letGo ?_)
  show wpAny _ _ (if n < 0 then _ else _) _ _ _
  rw [if_neg (by omega)]
  show wpAny _ _ (if n ≥ 2 ^ 63 then _ else _) _ _ _
  rw [if_neg (by omega)]
  exact wpAny_bind (wpAny_mkInt (wpAny_pure ⟨n, _, H', rfl, I'.tok _, q⟩))
/-- len(o) -/
theorem own_len {pins : List (Addr × Obj)} {σ : L2.St} {H : Hp} {s : Shared} {Q : VK} {a dx : Addr} {fs : List (Str × V)} (F : FnOk X.prog X.w X.K X.mg X.base CX k f fd ps sp) (M : OwnM X.K C f "__len__") (sb : Sub X (k + 1) A) (hb : Binds X.K fd ps []) (hx : Passes CX X E)
    (I : Inv X pins σ H s) (ha : H a = some (.ins C dx fs)) (h : sp [.ref a] H (fun v H' => ∃ n : Int, v = .int n ∧ 0 ≤ n ∧ n < 2 ^ 63 ∧ Q (.int n) H') E) : wpAny (model X.prog X.w) A (call (.builtin "len") [.ref a]) (EP X pins σ Q) X.xe s := by
  refine Calls.call_function_entry kind_len plain_len entry_len (args_len1 _) (wpAny_mono (own_len_body F M sb.in1 hb hx I ha h) (fun fin s' h' => ?_) fun _ _ e => e)
  obtain ⟨n, t, H', rfl, I', q⟩ := h'
  exact ⟨_, rfl, .int n, H', I', ⟨_, rfl⟩, q⟩
/-- bool(o): by __len__ -/
theorem own_truthy {pins : List (Addr × Obj)} {σ : L2.St} {H : Hp} {s : Shared} {Q : Bool → Hp → Prop} {a dx : Addr} {fs : List (Str × V)} (F : FnOk X.prog X.w X.K X.mg X.base CX k f fd ps sp) (M : OwnM X.K C f "__len__") (hnb : PySem.W.findIn X.K (.ref C) "__bool__" = some none) (sb : Sub X (k + 1) A) (hb : Binds X.K fd ps []) (hx : Passes CX X E)
    (I : Inv X pins σ H s) (ha : H a = some (.ins C dx fs)) (h : sp [.ref a] H (fun v H' => ∃ n : Int, v = .int n ∧ 0 ≤ n ∧ n < 2 ^ 63 ∧ ∃ m : Int, V.int n = V.int m ∧ Q (m != 0) H') E) : wpAny (model X.prog X.w) A (truthy (.ref a)) (TP X pins σ Q) X.xe s := by
  obtain ⟨ox, od, J⟩ := own_at I ha
  have key : wpAny (model X.prog X.w) A (runValue (.builtin "len" ⟨[.ref a], []⟩)) (fun r s' => ∃ (n : Int) (t : Tok) (H' : Hp), r = .int n t ∧ Inv X pins σ H' s' ∧ Q (n != 0) H') X.xe s := by
    refine wpAny_runValue (codeAny_builtin entry_len ?_)
    rw [Around.under_plainId plain_len _]
    refine wpAny_mono (own_len_body (Q := fun v H' => ∃ n : Int, v = .int n ∧ Q (n != 0) H') F M sb.in1 hb hx I ha h) (fun fin s' h' => ?_) fun _ _ e => e
    obtain ⟨n, t, H', rfl, I', n2, e, q⟩ := h'
    cases e
    exact ⟨n, t, H', rfl, I', q⟩
  unfold truthy
  have nob : ∀ {R : Option Value → Shared → Prop}, R none s → wpAny (model X.prog X.w) A (callSpecial? (.ref a) (Str.ofString "__bool__") []) R X.xe s := fun {R} hR => by
    unfold callSpecial?
    exact wpAny_bind (wpAny_bind (J.type.here ((PySem.W.looks_findIn I.kIn hnb).here (wpAny_pure hR))))
  have hasl : ∀ {R : Option Value → Shared → Prop}, R (some (.ref f)) s → wpAny (model X.prog X.w) A (specialOf (.ref a) (Str.ofString "__len__")) R X.xe s := fun {R} hR =>
    wpAny_bind (J.type.here ((PySem.W.looks_findIn I.kIn M.find).here hR))
  first
    | refine wpAny_bind (nob ?_)
    | refine wpAny_bind (wpAny_pure (wpAny_bind (nob ?_)))
  first
    | refine wpAny_bind (hasl ?_)
    | refine wpAny_bind (wpAny_pure (wpAny_bind (hasl ?_)))
  first
    | exact wpAny_bind (wpAny_mono key (fun r s' h' => by obtain ⟨n, t, H', rfl, I', q⟩ := h'; exact wpAny_pure ⟨H', I', q⟩) fun _ _ e => e)
    | exact wpAny_bind (wpAny_pure (wpAny_bind (wpAny_mono key (fun r s' h' => by obtain ⟨n, t, H', rfl, I', q⟩ := h'; exact wpAny_pure ⟨H', I', q⟩) fun _ _ e => e)))
/-- str(o) -/
theorem own_str {pins : List (Addr × Obj)} {σ : L2.St} {H : Hp} {s : Shared} {Q : VK} {a dx : Addr} {fs : List (Str × V)} (F : FnOk X.prog X.w X.K X.mg X.base CX k f fd ps sp) (M : OwnM X.K C f "__str__") (sb : Sub X (k + 2) A) (hb : Binds X.K fd ps []) (hx : Passes CX X E)
    (I : Inv X pins σ H s) (ha : H a = some (.ins C dx fs)) (h : sp [.ref a] H (fun v H' => ∃ y : Str, v = .str y ∧ Q (.str y) H') E) : wpAny (model X.prog X.w) A (call (.type "str") [.ref a]) (EP X pins σ Q) X.xe s := by
  obtain ⟨ox, od, J⟩ := own_at I ha
  refine PySem.W.kso_call sb.in1.in1.room.units0 I.kIn J M.find M.fn (wpAny_mono (run_fnA (us := [.ref a]) (vs := [.ref a]) F sb.in1.in1 hb hx I (.cons rfl .nil) h) (fun v s' hv => ?_) fun _ _ e => e)
  obtain ⟨z, H', I', rz, y, rfl, q⟩ := hv
  obtain ⟨t, rfl⟩ := rz
  exact ⟨.str y, H', I', ⟨_, rfl⟩, q⟩
/-- repr(o) -/
theorem own_repr {pins : List (Addr × Obj)} {σ : L2.St} {H : Hp} {s : Shared} {Q : VK} {a dx : Addr} {fs : List (Str × V)} (M : OwnM X.K C f "__repr__") (sb : Sub X (k + 1) A)
    (I : Inv X pins σ H s) (ha : H a = some (.ins C dx fs)) (h : wpAny (model X.prog X.w) A.in1 (call (.ref f) [.ref a]) (EP X pins σ fun v H' => ∃ y : Str, v = .str y ∧ Q (.str y) H') X.xe s) : wpAny (model X.prog X.w) A (call (.builtin "repr") [.ref a]) (EP X pins σ Q) X.xe s := by
  obtain ⟨ox, od, J⟩ := own_at I ha
  refine Calls.call_function_entry F.kind_repr F.plain_repr F.entry_repr (F.args_repr1 _) ?_
  unfold Builtin.«repr»
  refine wpAny_bind (m := oneArg "repr" _) (wpAny_pure ?_)
  refine wpAny_bind (m := cRoomFor _ _) (wpAny_cRoomFor sb.in1.room.units0 ?_)
  refine wpAny_bind (wpAny_bind (J.type.here ((PySem.W.looks_findIn I.kIn M.find).here ?_)))
  refine wpAny_bind (m := callSpecialIfBound? (.ref a) (Str.ofString "__repr__") []) (PySem.W.ifBound_K I.kIn J M.find M.fn (wpAny_mono h (fun v s' hv => ?_) fun _ _ e => e))
  obtain ⟨z, H', I', rz, y, rfl, q⟩ := hv
  obtain ⟨t, rfl⟩ := rz
  refine wpAny_bind (wpAny_isInstance (T := "str") (b := true) rfl isSubtype_str_str ?_)
  exact wpAny_pure ⟨_, rfl, .str y, H', I', ⟨_, rfl⟩, q⟩
/-- o == u -/
theorem own_eq {pins : List (Addr × Obj)} {σ : L2.St} {H : Hp} {s : Shared} {Q : VK} {a dx : Addr} {fs : List (Str × V)} {y : V} {u tb : Value} (F : FnOk X.prog X.w X.K X.mg X.base CX k f fd ps sp) (M : OwnM X.K C f "__eq__") (sb : Sub X k A) (hb : Binds X.K fd ps []) (hx : Passes CX X E)
    (I : Inv X pins σ H s) (ha : H a = some (.ins C dx fs)) (hu : PySem.W.Looks (model X.prog X.w) s.heap (typeOf u) tb) (hn : PySem.W.notFirst X.K C tb = true) (ry : RelV y u) (h : sp [.ref a, y] H (fun v H' => ∃ r, v = .bl r ∧ Q (.bl r) H') E) :
    wpAny (model X.prog X.w) A (richCompare .Eq (.ref a) u) (EP X pins σ Q) X.xe s := by
  obtain ⟨ox, od, J⟩ := own_at I ha
  obtain ⟨m, hF⟩ := I.fr
  refine PySem.W.cmp_K (op := .Eq) sb.room.units0 hF I.ok.mod.kin J hu hn M.find M.fn (wpAny_mono (run_fnA (us := [.ref a, u]) (vs := [.ref a, y]) F sb hb hx I (.cons rfl (.cons ry .nil)) h) (fun v s' hv => ?_) fun _ _ e => e)
  obtain ⟨z, H', I', rz, r, rfl, q⟩ := hv
  cases rz
  exact ⟨.bl r, H', I', rfl, q⟩
/-- o != u, by the own == -/
theorem own_ne {pins : List (Addr × Obj)} {σ : L2.St} {H : Hp} {s : Shared} {Q : VK} {a dx : Addr} {fs : List (Str × V)} {y : V} {u tb : Value} (F : FnOk X.prog X.w X.K X.mg X.base CX k f fd ps sp) (M : OwnM X.K C f "__eq__") (hne : PySem.W.findIn X.K (.ref C) "__ne__" = some (some (.builtin "object.__ne__")))
    (hm : PySem.W.mroIn X.K C (.type "object") = some true) (sb : Sub X (k + 1) A) (hb : Binds X.K fd ps []) (hx : Passes CX X E)
    (I : Inv X pins σ H s) (ha : H a = some (.ins C dx fs)) (hu : PySem.W.Looks (model X.prog X.w) s.heap (typeOf u) tb) (hn : PySem.W.notFirst X.K C tb = true) (ry : RelV y u) (h : sp [.ref a, y] H (fun v H' => ∃ r, v = .bl r ∧ Q (.bl (!r)) H') E) :
    wpAny (model X.prog X.w) A (richCompare .NotEq (.ref a) u) (EP X pins σ Q) X.xe s := by
  obtain ⟨ox, od, J⟩ := own_at I ha
  have one : wpAny (model X.prog X.w) A (tryCompare (.ref a) (cmpInfo .NotEq).2.1 u) (fun r s' => ∃ v, r = some v ∧ EP X pins σ Q v s') X.xe s := by
    unfold tryCompare
    have body : wpAny (model X.prog X.w) A (call (.builtin "object.__ne__") [.ref a, u]) (fun v s' => v ≠ .notImplemented ∧ EP X pins σ Q v s') X.xe s := by
      refine wpAny_call (codeAny_call_builtin PySem.F.slot_object_ne.plain PySem.F.entry_object_ne (PySem.W.check_slot (i := "object.__ne__") (owner := "object") (n := "__ne__") (by decide +kernel) (by decide +kernel) (J.type.andThen (PySem.W.looks_mroIn I.kIn hm)) (PySem.F.args_object_ne_2 _ _) ?_))
      unfold Builtin.«object.__ne__»
      refine wpAny_bind (m := slotArgs "__ne__" 1 _) (wpAny_pure ?_)
      refine wpAny_bind (m := cRoomFor _ _) (wpAny_cRoomFor sb.in1.room.units0 ?_)
      refine wpAny_bind (m := callSpecialIfBound? (.ref a) (Str.ofString "__eq__") [u]) (PySem.W.ifBound_K I.kIn J M.find M.fn (wpAny_mono (run_fnA (us := [.ref a, u]) (vs := [.ref a, y]) F sb.in1 hb hx I (.cons rfl (.cons ry .nil)) h) (fun v s' hv => ?_) fun _ _ e => e))
      obtain ⟨z, H', I', rz, r, rfl, q⟩ := hv
      cases rz
      refine wpAny_bind (m := truthy (.bool r)) (wpAny_truthy_bool ?_)
      exact wpAny_pure ⟨(fun z => nomatch z), .bl (!r), H', I', rfl, q⟩
    refine wpAny_bind (m := callSpecialIfBound? (.ref a) (cmpInfo .NotEq).2.1 [u]) ?_
    simp only [callSpecialIfBound?, bindSpecialIfBound?]
    refine wpAny_holding (wpAny_bind (wpAny_bind (wpAny_bind (J.type.here ((PySem.W.looks_findIn I.kIn hne).here ?_)))))
    refine wpAny_bind (wpAny_askSetting (wpAny_ite ?_))
    have fin : wpAny (model X.prog X.w) A (call (.builtin "object.__ne__") ([.ref a] ++ [u]) >>= fun v => pure (some v)) (fun a_1 s' => wpAny (model X.prog X.w) A (match a_1 with | some Value.notImplemented => pure none | none => pure none | some v => pure (some v)) (fun r s' => ∃ v, r = some v ∧ EP X pins σ Q v s') X.xe s') X.xe s := wpAny_bind (wpAny_mono body (fun v s' h' => wpAny_pure (by
      obtain ⟨h1, h2⟩ := h'
      cases v <;> first | exact absurd rfl h1 | exact wpAny_pure ⟨_, rfl, h2⟩)) fun _ _ h' => h')
    simp only [PySem.F.slot_object_ne.bind]
    split
    · exact wpAny_bind (wpAny_pure (wpAny_pure (by exact fin)))
    · exact wpAny_tryCatch (wpAny_bind (wpAny_pure (wpAny_pure (by exact fin))))
  unfold richCompare
  simp only [oneThing_ref]
  refine wpAny_holding (wpAny_bind (wpAny_cRoomFor sb.room.units0 ?_))
  refine wpAny_bind (J.type.here (wpAny_bind (hu.here ?_)))
  split
  · rename_i q
    have e : PySem.W.subIn X.K tb (.ref C) = some false := by
      rcases Bool.or_eq_true_iff.mp hn with e | e
      · rw [beq_iff_eq.mp e] at q; simp at q
      · exact beq_iff_eq.mp e
    refine wpAny_bind ((PySem.W.looks_subIn I.kIn e).here ?_)
    simp only [Bool.false_eq_true, if_false]
    refine wpAny_bind (wpAny_mono one (fun r s' z => ?_) fun _ _ e => e)
    obtain ⟨v, rfl, hq⟩ := z
    exact wpAny_pure hq
  · refine wpAny_bind (wpAny_pure ?_)
    simp only [Bool.false_eq_true, if_false]
    refine wpAny_bind (wpAny_mono one (fun r s' z => ?_) fun _ _ e => e)
    obtain ⟨v, rfl, hq⟩ := z
    exact wpAny_pure hq
theorem contains_loopG {prog : Program} {w : World} {A : Around} {E : Value → Shared → Prop} {R : Result → Shared → Prop} (hE : ∀ e s', E e s' → R (.error e) s') (l : Addr) (x : Value) (N : Nat) (I : Nat → Shared → Prop)
    (hl : ∀ i s, I i s → ∃ (items : Array Value) (n : Nat) (dd : Option Addr) (sl : Array (Option Value)), s.heap.get? l = some { cls := .type "list", dict := dd, data := .seq items n, slots := sl } ∧ items.size = N ∧ ∀ (h1 : i < items.size), wpAny (model prog w) A.in1 (eqBool items[i] x) (fun r s' => r = false ∧ I (i + 1) s') E s)
    (fin : ∀ s, I N s → R (.ok (.ret (.bool false))) s) (k : Nat) :
    ∀ i : Nat, N - i = k → i ≤ N → ∀ s, I i s → wpAny (model prog w) A.in1 (Builtin.«list.__contains__.loop» ⟨[.ref l, x, rawInt i], []⟩) (GQ.FinOf prog w A R) (fun e s' => R (.error e) s') s := by
  induction k with
  | zero =>
    intro i hk hi s h
    obtain ⟨items, n, dd, sl, hl1, hs1, _⟩ := hl _ _ h
    have hi' : i = N := by omega
    have hR : R (.ok (.ret (.bool false))) s := fin s (hi' ▸ h)
    obtain ⟨hp, g, d, tk, os⟩ := s
    wp_walk using AutoSeq1.wpAny_loadPart' hl1
    have hi1 : items[((i : Nat) : Int).toNat]? = none := by simp; omega
    rw [hi1]
    wp_walk
    exact hR
  | succ k ih =>
    intro i hk hi s h
    obtain ⟨items, n, dd, sl, hl1, hs1, turn⟩ := hl _ _ h
    have hlt : i < items.size := by omega
    have ht := turn hlt
    obtain ⟨hp, g, d, tk, os⟩ := s
    wp_walk using AutoSeq1.wpAny_loadPart' hl1
    have hi1 : items[((i : Nat) : Int).toNat]? = some items[i] := by simp [hlt]
    have hc : ((i : Int) + 1) = ((i + 1 : Nat) : Int) := by omega
    rw [hi1]
    refine wpAny_bind (wpAny_mono ht (fun r s2 h2 => ?_) fun e s' x => hE e s' x)
    obtain ⟨hr, h2⟩ := h2
    subst hr
    have hrec := ih (i + 1) (by omega) (by omega) s2 h2
    obtain ⟨hp2, g2, d2, tk2, os2⟩ := s2
    wp_walk
    rw [hc]
    exact ⟨plainId_quiet MeetsSeq.plain_contains_loop _, codeAny_builtin MeetsSeq.entry_contains_loop (by
      rw [Around.under_plainId MeetsSeq.plain_contains_loop _]
      exact hrec)⟩
/-- u == o inside a builtin, u of a built-in type that knows nothing of o -/
theorem own_eqb {pins : List (Addr × Obj)} {σ : L2.St} {H : Hp} {s : Shared} {J : Hp → Prop} {a dx : Addr} {fs : List (Str × V)} {y : V} {u : Value} {T id : String} (F : FnOk X.prog X.w X.K X.mg X.base CX k f fd ps sp) (M : OwnM X.K C f "__eq__") (sb : Sub X k A) (hb : Binds X.K fd ps []) (hx : Passes CX X E)
    (I : Inv X pins σ H s) (ha : H a = some (.ins C dx fs)) (hnr : ∀ b, u ≠ .ref b) (hnf : ∀ x t, u ≠ .float x t) (hnb : ∀ i, u ≠ .builtin i) (hT : s.TypeIs u T) (slot : Slot T (cmpInfo .Eq).2.1 id) (hsub : PySem.W.subIn X.K (.ref C) (.type T) = some false)
    (hno : ∀ Q : Value → Shared → Prop, Q .notImplemented s → wpAny (model X.prog X.w) A (call (.builtin id) [u, .ref a]) Q X.xe s) (ry : RelV y u) (h : sp [.ref a, y] H (fun v H' => v = .bl false ∧ J H') E) :
    wpAny (model X.prog X.w) A (eqBool u (.ref a)) (fun r s' => r = false ∧ ∃ H', Inv X pins σ H' s' ∧ J H') X.xe s := by
  obtain ⟨ox, od, Ja⟩ := own_at I ha
  have one : wpAny (model X.prog X.w) A (tryCompare (.ref a) (cmpInfo .Eq).2.2 u) (fun r s' => r = some (.bool false) ∧ ∃ H', Inv X pins σ H' s' ∧ J H') X.xe s := by
    unfold tryCompare
    refine wpAny_bind (PySem.W.ifBound_K I.kIn Ja M.find M.fn (wpAny_mono (run_fnA (us := [.ref a, u]) (vs := [.ref a, y]) F sb hb hx I (.cons rfl (.cons ry .nil)) h) (fun v s' hv => ?_) fun _ _ e => e))
    obtain ⟨z, H', I', rz, rfl, q⟩ := hv
    cases rz
    exact wpAny_pure ⟨rfl, H', I', q⟩
  have two : ∀ {Q : Option Value → Shared → Prop}, Q none s → wpAny (model X.prog X.w) A (tryCompare u (cmpInfo .Eq).2.1 (.ref a)) Q X.xe s := fun {Q} q => by
    unfold tryCompare
    exact wpAny_bind (wpAny_callSpecialIfBound?_slot hT slot (hno _ (wpAny_pure q)))
  have rc : wpAny (model X.prog X.w) A (richCompare .Eq u (.ref a)) (fun v s' => v = .bool false ∧ ∃ H', Inv X pins σ H' s' ∧ J H') X.xe s := by
    unfold richCompare
    have e1 : oneThing? .Eq u (.ref a) = none := by
      cases u <;> rfl
    refine wpAny_holding (wpAny_bind (wpAny_cRoomFor sb.room.units0 ?_))
    simp only [e1]
    refine wpAny_bind (wpAny_typeOf hT ?_)
    refine wpAny_bind (Ja.type.here ?_)
    rw [show (Value.type T != Value.ref C) = true from by simp]
    simp only [if_true]
    refine wpAny_bind ((PySem.W.looks_subIn I.kIn hsub).here ?_)
    simp only [Bool.false_eq_true, if_false]
    refine wpAny_bind (two ?_)
    simp only [Bool.not_false, if_true]
    refine wpAny_bind (wpAny_mono one (fun r s' z => ?_) fun _ _ e => e)
    obtain ⟨rfl, hq⟩ := z
    exact wpAny_pure ⟨rfl, hq⟩
  unfold eqBool
  refine wpAny_holding ?_
  refine wpAny_ite_split (fun hab => absurd (eq_of_beq hab) (hnr a)) (fun _ => ?_)
  have tail : wpAny (model X.prog X.w) A (do truthOfDropped (← richCompare .Eq u (.ref a))) (fun r s' => r = false ∧ ∃ H', Inv X pins σ H' s' ∧ J H') X.xe s := by
    refine wpAny_bind (wpAny_mono rc (fun v s' hv => ?_) fun _ _ x => x)
    obtain ⟨rfl, q⟩ := hv
    exact wpAny_truthy_bool ⟨rfl, q⟩
  cases u <;> first | exact tail | exact absurd rfl (hnf _ _) | exact absurd rfl (hnr _)
theorem own_obj {pins : List (Addr × Obj)} {σ : L2.St} {H : Hp} {s : Shared} {a dx : Addr} {fs : List (Str × V)} (I : Inv X pins σ H s) (ha : H a = some (.ins C dx fs)) : s.heap.get? a = some (PySem.W.instObj C dx) := by
  obtain ⟨mA, J, _⟩ := ins_get I.hok ha
  exact J.obj
theorem no_none {s : Shared} {a : Addr} {Q : Value → Shared → Prop} (q : Q .notImplemented s) : wpAny (model X.prog X.w) A (call (.builtin "NoneType.__eq__") [.none, .ref a]) Q X.xe s := by
  refine GQ.call_here PySem.F.slot_NoneType_eq rfl PySem.F.entry_NoneType_eq (PySem.F.args_NoneType_eq_2 _ _) ?_
  unfold Builtin.«NoneType.__eq__»
  refine wpAny_bind (m := slotArgs "__eq__" 1 _) (wpAny_pure ?_)
  exact wpAny_pure q
theorem no_int {s : Shared} {a C dx : Addr} {i : Int} {t : Tok} {Q : Value → Shared → Prop} (ho : s.heap.get? a = some (PySem.W.instObj C dx)) (q : Q .notImplemented s) : wpAny (model X.prog X.w) A (call (.builtin "int.__eq__") [.int i t, .ref a]) Q X.xe s := by
  refine GQ.call_here PySem.F.slot_int_eq rfl PySem.F.entry_int_eq (PySem.F.args_int_eq_2 _ _) ?_
  obtain ⟨hp, g, d, tk, os⟩ := s
  wp_walk using AutoSeq1.wpAny_loadPart' ho
  exact q
theorem no_str {s : Shared} {a C dx : Addr} {x : Str} {t : Tok} {Q : Value → Shared → Prop} (ho : s.heap.get? a = some (PySem.W.instObj C dx)) (q : Q .notImplemented s) : wpAny (model X.prog X.w) A (call (.builtin "str.__eq__") [.str x t, .ref a]) Q X.xe s := by
  refine GQ.call_here PySem.F.slot_str_eq rfl PySem.F.entry_str_eq (PySem.F.args_str_eq_2 _ _) ?_
  obtain ⟨hp, g, d, tk, os⟩ := s
  wp_walk using AutoSeq1.wpAny_loadPart' ho
  exact q
/-- o in [flat things] -/
theorem own_in {pins : List (Addr × Obj)} {σ : L2.St} {H : Hp} {s : Shared} {J : Hp → Prop} {a l : Addr} {zs : List V} (F : FnOk X.prog X.w X.K X.mg X.base CX k f fd ps sp) (M : OwnM X.K C f "__eq__") (sb : Sub X (k + 2) A) (hb : Binds X.K fd ps []) (hx : Passes CX X E)
    (hs : PySem.W.subIn X.K (.ref C) (.type "int") = some false ∧ PySem.W.subIn X.K (.ref C) (.type "str") = some false ∧ PySem.W.subIn X.K (.ref C) (.type "NoneType") = some false)
    (hz : ∀ y ∈ zs, y = .non ∨ (∃ i, y = .int i) ∨ ∃ x, y = .str x)
    (hJ : ∀ H, J H → SqL X.K H l zs ∧ (∃ dx fs, H a = some (.ins C dx fs)) ∧ ∀ y ∈ zs, sp [.ref a, y] H (fun v H' => v = .bl false ∧ J H') E)
    (I : Inv X pins σ H s) (h : J H) : wpAny (model X.prog X.w) A (compareOp .In (.ref a) (.ref l)) (fun v s' => v = .bool false ∧ ∃ H', Inv X pins σ H' s' ∧ J H') X.xe s := by
  obtain ⟨hq, _, _⟩ := hJ _ h
  obtain ⟨its, rv, pl, hsz⟩ := I.list hq
  obtain ⟨⟨cls, dd, data, sl⟩, ho, hc, n, hd⟩ := id pl.isList
  simp only at hc hd
  subst hc hd
  refine In_slot ⟨_, ho, rfl⟩ PySem.F.slot_list_contains (GQ.call_here PySem.F.slot_list_contains ⟨_, ho, rfl⟩ PySem.F.entry_list_contains (PySem.F.args_list_contains_2 _ _) ?_)
  have hrec := contains_loopG (prog := X.prog) (w := X.w) (A := A) (E := X.xe) (R := wants (fun r s' => wpAny (model X.prog X.w) A (truthy r) (fun b s'' => Value.bool b = .bool false ∧ ∃ H', Inv X pins σ H' s'' ∧ J H') X.xe s') X.xe) (fun e s' z => z) l (.ref a) zs.length (fun _ s' => ∃ H', Inv X pins σ H' s' ∧ J H') (fun i s' hI => by
    obtain ⟨H', I', j⟩ := hI
    obtain ⟨hq', ⟨dx, fs, ha⟩, hcall⟩ := hJ _ j
    obtain ⟨its', rv', pl', hsz'⟩ := I'.list hq'
    obtain ⟨⟨cls, dd, data, sl⟩, ho', hc, n, hd⟩ := id pl'.isList
    simp only at hc hd
    subst hc hd
    refine ⟨its'.toArray, n, dd, sl, ho', by rw [List.size_toArray, ← rv'.length], fun h1 => ?_⟩
    have k1 : i < zs.length := by rw [rv'.length]; simpa using h1
    have hmem : zs[i] ∈ zs := List.getElem_mem k1
    obtain ⟨u, hu, ru⟩ := rv'.get (List.getElem?_eq_getElem k1)
    have g1 : its'.toArray[i] = u := by
      have h1' : i < its'.length := by simpa using h1
      rw [List.getElem?_eq_getElem h1'] at hu
      have := Option.some.inj hu
      simpa using this
    rw [g1]
    have hob := own_obj I' ha
    have hcl := hcall _ hmem
    generalize zs[i] = y at *
    rcases hz y hmem with rfl | ⟨n, rfl⟩ | ⟨x, rfl⟩
    · cases ru
      exact own_eqb F M (sb.in1.mono (by omega)) hb hx I' ha (fun _ z => nomatch z) (fun _ _ z => nomatch z) (fun _ z => nomatch z) rfl PySem.F.slot_NoneType_eq hs.2.2 (fun Q q => no_none q) (y := .non) rfl hcl
    · obtain ⟨t, rfl⟩ := ru
      exact own_eqb F M (sb.in1.mono (by omega)) hb hx I' ha (fun _ z => nomatch z) (fun _ _ z => nomatch z) (fun _ z => nomatch z) rfl PySem.F.slot_int_eq hs.1 (fun Q q => no_int hob q) (y := .int n) ⟨t, rfl⟩ hcl
    · obtain ⟨t, rfl⟩ := ru
      exact own_eqb F M (sb.in1.mono (by omega)) hb hx I' ha (fun _ z => nomatch z) (fun _ _ z => nomatch z) (fun _ z => nomatch z) rfl PySem.F.slot_str_eq hs.2.1 (fun Q q => no_str hob q) (y := .str x) ⟨t, rfl⟩ hcl)
    (fun s' hI => wpAny_truthy_bool ⟨rfl, hI⟩) _ 0 rfl (Nat.zero_le _) s ⟨H, I, h⟩
  obtain ⟨hp, g, d, tk, os⟩ := s
  wp_walk using AutoSeq1.wpAny_loadPart' ho
  exact ⟨plainId_quiet MeetsSeq.plain_contains_loop _, codeAny_builtin MeetsSeq.entry_contains_loop (by
    rw [Around.under_plainId MeetsSeq.plain_contains_loop _]
    exact hrec)⟩
end
end DL
set_option Elab.async false
set_option linter.all false
set_option maxRecDepth 100000
set_option maxHeartbeats 2000000
namespace DL
open PySem PySem.Spec PyProof.Rows L2
open Evl (Ex)
section
variable {K : PySem.W.Frag} {fd : FuncData}
theorem bndO1 {p : Str} (h : Bnd K fd [p] 1 [] [.p 0] []) : Binds K fd [p] [] := fun s us hk hl => by
  obtain ⟨ds, rd, hb⟩ := h.to
  cases rd
  rw [List.append_nil] at hl ⊢
  match us, hl with
  | [u], _ => exact hb s [u] [] hk rfl rfl
theorem bndO2 {p q : Str} (h : Bnd K fd [p, q] 2 [] [.p 0, .p 1] []) : Binds K fd [p, q] [] := fun s us hk hl => by
  obtain ⟨ds, rd, hb⟩ := h.to
  cases rd
  rw [List.append_nil] at hl ⊢
  match us, hl with
  | [u, v], _ => exact hb s [u, v] [] hk rfl rfl
end
section
variable {X : Cx} {C f : Addr} {fd : FuncData} {ps : List Str} {sp : Sp} {dsp : DSp} {k : Nat} {p q : Str}
theorem ownOf {K : PySem.W.Frag} {n : Str} (h : Meth K C n f) : OwnM K C f n := ⟨h.at_, h.fn⟩
def rLenO (C : Addr) (sp : Sp) : List V → Hp → VK → Prop := fun vs H Q => ∃ a dx fs, vs = [.ref a] ∧ H a = some (.ins C dx fs) ∧ sp [.ref a] H (fun v H' => ∃ n : Int, v = .int n ∧ 0 ≤ n ∧ n < 2 ^ 63 ∧ Q (.int n) H') E0
def dLenO (C : Addr) (d : DSp) : DC := fun xs O R => match xs with | [.ref a] => ∃ dx fs, O a = some (.ins C dx fs) ∧ d [.ref a] O (fun v O' => ∃ n : Int, v = .int n ∧ 0 ≤ n ∧ n < 2 ^ 63 ∧ R (.int n) O') X0 | _ => False
theorem cr_lenO (F : FnOk X.prog X.w X.K X.mg X.base CX0 k f fd [p] sp) (M : Meth X.K C "__len__" f) (hr : Room (k + 1) X.A) (hb : Bnd X.K fd [p] 1 [] [.p 0] []) : CallR X (.builtin "len") (rLenO C sp) := by
  intro pins s σ H xs us Q I r h
  obtain ⟨a, dx, fs, rfl, ha, h⟩ := h
  rw [Vals.ref1 r]
  exact own_len F (ownOf M) ⟨hr, rfl⟩ (bndO1 hb) pass0 I ha h
theorem toSp_of {K : PySem.W.Frag} {G : Hp} {O : Om} {H : Hp} {vs : List V} {xs : List D} {R : D → Om → Prop} {Q : VK} (rl : Rel K G O H) (hv : VRs K G vs xs) (h : dsp xs O R X0) (k : ∀ x O' v G' H', Go K G O H G' O' H' → VR K G' v x → R x O' → Q v H') : toSp K dsp vs H Q E0 :=
  ⟨G, O, xs, R, X0, rl, hv, h, k, fun _ _ _ _ _ _ z => z.elim⟩
theorem sLenO {K : PySem.W.Frag} : CaS K (rLenO C (toSp K dsp)) (dLenO C dsp) := fun {G O H xs vs R Q} rl hv h k => by
  match xs, hv, h with
  | [.ref a], hv, ⟨dx, fs, e, h⟩ =>
    obtain ⟨v, rfl, hw⟩ := hv.one
    cases hw
    obtain ⟨us, hu, _⟩ := rl.ins e
    refine ⟨a, dx, us, rfl, hu, toSp_of rl hv h fun x O' v G' H' go vr q => ?_⟩
    obtain ⟨n, rfl, h0, h1, q⟩ := q
    cases vr
    exact ⟨n, rfl, h0, h1, k _ _ _ _ _ go (.int _) q⟩
/-- bool(o) -/
def rBoolO (C : Addr) (sp : Sp) : List V → Hp → VK → Prop := fun vs H Q => ∃ a dx fs, vs = [.ref a] ∧ H a = some (.ins C dx fs) ∧ sp [.ref a] H (fun v H' => ∃ n : Int, v = .int n ∧ 0 ≤ n ∧ n < 2 ^ 63 ∧ ∃ m : Int, V.int n = V.int m ∧ Q (.bl (m != 0)) H') E0
def dBoolO (C : Addr) (d : DSp) : DC := fun xs O R => match xs with | [.ref a] => ∃ dx fs, O a = some (.ins C dx fs) ∧ d [.ref a] O (fun v O' => ∃ n : Int, v = .int n ∧ 0 ≤ n ∧ n < 2 ^ 63 ∧ R (.bl (n != 0)) O') X0 | _ => False
theorem cr_boolO (F : FnOk X.prog X.w X.K X.mg X.base CX0 k f fd [p] sp) (M : Meth X.K C "__len__" f) (hnb : PySem.W.findIn X.K (.ref C) "__bool__" = some none) (hr : Room (k + 4) X.A) (hb : Bnd X.K fd [p] 1 [] [.p 0] []) : CallR X (.type "bool") (rBoolO C sp) := by
  intro pins s σ H xs us Q I r h
  obtain ⟨a, dx, fs, rfl, ha, h⟩ := h
  rw [Vals.ref1 r]
  have sb : Sub X (k + 4) X.A := ⟨hr, rfl⟩
  refine callType_codes (T := "bool") (Bi := Builtin.«object.__init__») (Q₁ := fun r s₁ => ∃ b, r = .bool b ∧ EP X pins σ Q r s₁) PySem.F.called_bool (PySem.F.typeCall_bool_1 _) PySem.F.entry_object_init ?_ ?_
  · refine codeAny_of_tree ?_
    show wpAny _ X.A.in1.in1 (do checkBuiltinCall "bool.__new__" ⟨[.type "bool", .ref a], []⟩; again (.builtin "bool.__new__" ⟨[.type "bool", .ref a], []⟩)) _ _ s
    refine wpAny_bind (wpAny_of_eq (PySem.F.newCall_bool_1 _) (wpAny_pure ⟨plainId_quiet (by decide +kernel) _, codeAny_builtin PySem.F.entry_bool_new ?_⟩))
    rw [Around.under_plainId (by decide +kernel) _]
    have f1 := PySem.F.conv_sub_bool
    have ht := own_truthy (Q := fun b H' => Q (.bl b) H') F (ownOf M) hnb (sb.in1.in1.mono (by omega)) (bndO1 hb) pass0 I ha h
    unfold Builtin.«bool.__new__»
    repeat (first
      | (refine wpAny_bind (m := truthy (.ref a)) (wpAny_mono ht (fun b s' hv => ?_) fun _ _ e => e))
      | assumption
      | wp_step)
    obtain ⟨H', I', q⟩ := hv
    exact ⟨b, rfl, .bl b, H', I', rfl, q⟩
  · rintro obj s₁ ⟨b, rfl, hq⟩
    exact ⟨rfl, PySem.F.args_object_init_2 _ _, object_init_meets PySem.F.called_bool.init.lookup PySem.F.called_bool.made (by decide) X.prog X.w X.A.in1 _ s₁ ⟨rfl, rfl, hq⟩⟩
theorem sBoolO {K : PySem.W.Frag} : CaS K (rBoolO C (toSp K dsp)) (dBoolO C dsp) := fun {G O H xs vs R Q} rl hv h k => by
  match xs, hv, h with
  | [.ref a], hv, ⟨dx, fs, e, h⟩ =>
    obtain ⟨v, rfl, hw⟩ := hv.one
    cases hw
    obtain ⟨us, hu, _⟩ := rl.ins e
    refine ⟨a, dx, us, rfl, hu, toSp_of rl hv h fun x O' v G' H' go vr q => ?_⟩
    obtain ⟨n, rfl, h0, h1, q⟩ := q
    cases vr
    exact ⟨n, rfl, h0, h1, n, rfl, k _ _ _ _ _ go (.bl _) q⟩
/-- str(o) -/
def rStrO (C : Addr) (sp : Sp) : List V → Hp → VK → Prop := fun vs H Q => ∃ a dx fs, vs = [.ref a] ∧ H a = some (.ins C dx fs) ∧ sp [.ref a] H (fun v H' => ∃ y : Str, v = .str y ∧ Q (.str y) H') E0
def dStrO (C : Addr) (d : DSp) : DC := fun xs O R => match xs with | [.ref a] => ∃ dx fs, O a = some (.ins C dx fs) ∧ d [.ref a] O (fun v O' => ∃ y : Str, v = .str y ∧ R (.str y) O') X0 | _ => False
theorem cr_strO (F : FnOk X.prog X.w X.K X.mg X.base CX0 k f fd [p] sp) (M : Meth X.K C "__str__" f) (hr : Room (k + 2) X.A) (hb : Bnd X.K fd [p] 1 [] [.p 0] []) : CallR X (.type "str") (rStrO C sp) := by
  intro pins s σ H xs us Q I r h
  obtain ⟨a, dx, fs, rfl, ha, h⟩ := h
  rw [Vals.ref1 r]
  exact own_str F (ownOf M) ⟨hr, rfl⟩ (bndO1 hb) pass0 I ha h
theorem sStrO {K : PySem.W.Frag} : CaS K (rStrO C (toSp K dsp)) (dStrO C dsp) := fun {G O H xs vs R Q} rl hv h k => by
  match xs, hv, h with
  | [.ref a], hv, ⟨dx, fs, e, h⟩ =>
    obtain ⟨v, rfl, hw⟩ := hv.one
    cases hw
    obtain ⟨us, hu, _⟩ := rl.ins e
    refine ⟨a, dx, us, rfl, hu, toSp_of rl hv h fun x O' v G' H' go vr q => ?_⟩
    obtain ⟨y, rfl, q⟩ := q
    cases vr
    exact ⟨y, rfl, k _ _ _ _ _ go (.str _) q⟩
/-- repr(o), where no repr is under way -/
theorem cr_reprO (F : FnOkG X.prog X.w X.K X.mg X.base k f fd [p] sp) (M : Meth X.K C "__repr__" f) (hg : X.A.guards = some []) (hr : Room (k + 1) X.A) (hb : Bnd X.K fd [p] 1 [] [.p 0] []) : CallR X (.builtin "repr") (rStrO C sp) := by
  intro pins s σ H xs us Q I r h
  obtain ⟨a, dx, fs, rfl, ha, h⟩ := h
  rw [Vals.ref1 r]
  have sb : Sub X (k + 1) X.A := ⟨hr, rfl⟩
  refine own_repr (ownOf M) sb I ha ?_
  have hb' := bndO1 hb s [.ref a] I.kIn rfl
  refine wpAny_call (codeAny_mono (F.run X.A.in1 X.stack s H ⟨[.ref a], []⟩ [.ref a] [.ref a] _ E0 hg sb.in1.room (env0_sub sb.in1 I) hb' (.cons rfl .nil) h) fun r s' hq => ?_)
  cases r with
  | error e => exact hq.elim
  | ok fl =>
    cases fl with
    | ret u => exact I.after hq
    | next => exact False.elim hq
    | brk => exact False.elim hq
    | cont => exact False.elim hq
def KnV (K : PySem.W.Frag) (C : Addr) (y : V) (H : Hp) : Prop := (∃ x, y = .str x) ∨ (∃ b zs, y = .ref b ∧ SqL K H b zs) ∨ ∃ b dy gs, y = .ref b ∧ H b = some (.ins C dy gs)
theorem nf_type {K : PySem.W.Frag} {C : Addr} {T : String} {l : List Value} (h : fastBuiltinMro T = some l) (hc : l.contains (.ref C) = false) : PySem.W.notFirst K C (.type T) = true := by
  show (Value.type T == Value.ref C || ((fastBuiltinMro T).map (·.contains (.ref C))) == some false) = true
  rw [h]
  show (Value.type T == Value.ref C || (some (l.contains (.ref C))) == some false) = true
  rw [hc]
  simp
theorem nf_list {K : PySem.W.Frag} {C : Addr} : PySem.W.notFirst K C (.type "list") = true := nf_type (l := [.type "list", .type "object"]) (by kernel_rfl) rfl
theorem nf_str {K : PySem.W.Frag} {C : Addr} : PySem.W.notFirst K C (.type "str") = true := nf_type (l := [.type "str", .type "object"]) (by kernel_rfl) rfl
theorem nf_own {K : PySem.W.Frag} {C : Addr} : PySem.W.notFirst K C (.ref C) = true := by unfold PySem.W.notFirst; simp
theorem knV_looks {pins : List (Addr × Obj)} {σ : L2.St} {H : Hp} {s : Shared} {y : V} {u : Value} (I : Inv X pins σ H s) (h : KnV X.K C y H) (r : RelV y u) : ∃ tb, PySem.W.Looks (model X.prog X.w) s.heap (typeOf u) tb ∧ PySem.W.notFirst X.K C tb = true := by
  rcases h with ⟨x, rfl⟩ | ⟨b, zs, rfl, hq⟩ | ⟨b, dy, gs, rfl, hb⟩
  · obtain ⟨t, rfl⟩ := r
    exact ⟨.type "str", .now, nf_str⟩
  · cases r
    obtain ⟨its, rv, pl, hz⟩ := I.list hq
    obtain ⟨o, ho, hc, _⟩ := pl.isList
    exact ⟨.type "list", hc ▸ (PySem.W.Looks.ld ho).andThen .now, nf_list⟩
  · cases r
    obtain ⟨ox, od, J⟩ := own_at I hb
    exact ⟨.ref C, J.type, nf_own⟩
def rEqO (K : PySem.W.Frag) (C : Addr) (sp : Sp) (b : Bool) : R2 := fun x y H Q => ∃ a dx fs, x = .ref a ∧ H a = some (.ins C dx fs) ∧ KnV K C y H ∧ sp [.ref a, y] H (fun v H' => ∃ r, v = .bl r ∧ Q (.bl (r != b)) H') E0
def KnD (C : Addr) (y : D) (O : Om) : Prop := (∃ x, y = .str x) ∨ (∃ zs, lstOf O y = some zs) ∨ ∃ b dy gs, y = .ref b ∧ O b = some (.ins C dy gs)
def dEqO (C : Addr) (d : DSp) (b : Bool) : D2 := fun x y O R => ∃ a dx fs, x = .ref a ∧ O a = some (.ins C dx fs) ∧ KnD C y O ∧ d [.ref a, y] O (fun v O' => ∃ r, v = .bl r ∧ R (.bl (r != b)) O') X0
theorem op_eqO (F : FnOk X.prog X.w X.K X.mg X.base CX0 k f fd [p, q] sp) (M : Meth X.K C "__eq__" f) (hr : Room k X.A) (hb : Bnd X.K fd [p, q] 2 [] [.p 0, .p 1] []) : OpR X (compareOp .Eq) (rEqO X.K C sp false) := by
  intro pins s σ H x y v u Q I rx ry h
  obtain ⟨a, dx, fs, rfl, ha, hk, h⟩ := h
  cases rx
  obtain ⟨tb, L, nf⟩ := knV_looks I hk ry
  show wpAny _ _ (richCompare .Eq (.ref a) u) _ _ _
  refine own_eq F (ownOf M) ⟨hr, rfl⟩ (bndO2 hb) pass0 I ha L nf ry ?_
  have e : (fun (v : V) (H' : Hp) => ∃ r, v = .bl r ∧ Q (.bl (r != false)) H') = fun v H' => ∃ r, v = .bl r ∧ Q (.bl r) H' := by
    funext v H'
    simp
  rw [← e]
  exact h
theorem op_neO (F : FnOk X.prog X.w X.K X.mg X.base CX0 k f fd [p, q] sp) (M : Meth X.K C "__eq__" f) (hne : PySem.W.findIn X.K (.ref C) "__ne__" = some (some (.builtin "object.__ne__"))) (hm : PySem.W.mroIn X.K C (.type "object") = some true) (hr : Room (k + 1) X.A) (hb : Bnd X.K fd [p, q] 2 [] [.p 0, .p 1] []) : OpR X (compareOp .NotEq) (rEqO X.K C sp true) := by
  intro pins s σ H x y v u Q I rx ry h
  obtain ⟨a, dx, fs, rfl, ha, hk, h⟩ := h
  cases rx
  obtain ⟨tb, L, nf⟩ := knV_looks I hk ry
  show wpAny _ _ (richCompare .NotEq (.ref a) u) _ _ _
  refine own_ne F (ownOf M) hne hm ⟨hr, rfl⟩ (bndO2 hb) pass0 I ha L nf ry ?_
  have e : (fun (v : V) (H' : Hp) => ∃ r, v = .bl r ∧ Q (.bl (r != true)) H') = fun v H' => ∃ r, v = .bl r ∧ Q (.bl (!r)) H' := by
    funext v H'
    simp
  rw [← e]
  exact h
theorem sEqO {K : PySem.W.Frag} {b : Bool} : OpS K (rEqO K C (toSp K dsp) b) (dEqO C dsp b) := fun {G O H x y v u R Q} rl hx hy h k => by
  obtain ⟨a, dx, fs, rfl, e, hk, h⟩ := h
  obtain ⟨us, hu, _⟩ := rl.ins e
  have hv : VRs K G [v, u] [.ref a, y] := .cons hx (.cons hy .nil)
  cases hx
  refine ⟨a, dx, us, rfl, hu, ?_, toSp_of rl hv h fun x O' w G' H' go vr q => ?_⟩
  · rcases hk with ⟨z, rfl⟩ | ⟨zs, hzs⟩ | ⟨c, dy, gs, rfl, e2⟩
    · cases hy
      exact .inl ⟨_, rfl⟩
    · obtain ⟨c, ws, rfl, hq, _⟩ := rl.lstOf hy hzs
      exact .inr (.inl ⟨c, ws, rfl, hq⟩)
    · cases hy
      obtain ⟨us2, hu2, _⟩ := rl.ins e2
      exact .inr (.inr ⟨c, dy, us2, rfl, hu2⟩)
  · obtain ⟨r, rfl, q⟩ := q
    cases vr
    exact ⟨r, rfl, k _ _ _ _ _ go (.bl _) q⟩
def FlV (y : V) : Prop := y = .non ∨ (∃ i, y = .int i) ∨ ∃ x, y = .str x
def FlD (y : D) : Prop := y = .non ∨ (∃ i, y = .int i) ∨ ∃ x, y = .str x
def rInO (K : PySem.W.Frag) (C : Addr) (sp : Sp) : R2 := fun x y H Q => ∃ (a l : Addr) (zs : List V) (J : Hp → Prop), x = .ref a ∧ y = .ref l ∧ (∀ y ∈ zs, FlV y) ∧ J H ∧ (∀ H, J H → SqL K H l zs ∧ (∃ dx fs, H a = some (.ins C dx fs)) ∧ ∀ y ∈ zs, sp [.ref a, y] H (fun v H' => v = .bl false ∧ J H') E0) ∧ ∀ H', J H' → Q (.bl false) H'
def dInO (C : Addr) (d : DSp) : D2 := fun x y O R => ∃ a dx fs zs, x = .ref a ∧ O a = some (.ins C dx fs) ∧ lstOf O y = some zs ∧ (∀ z ∈ zs, FlD z) ∧ (∀ z ∈ zs, d [.ref a, z] O (fun v O' => v = .bl false ∧ O' = O) X0) ∧ R (.bl false) O
theorem op_inO (F : FnOk X.prog X.w X.K X.mg X.base CX0 k f fd [p, q] sp) (M : Meth X.K C "__eq__" f) (hs : PySem.W.subIn X.K (.ref C) (.type "int") = some false ∧ PySem.W.subIn X.K (.ref C) (.type "str") = some false ∧ PySem.W.subIn X.K (.ref C) (.type "NoneType") = some false) (hr : Room (k + 2) X.A) (hb : Bnd X.K fd [p, q] 2 [] [.p 0, .p 1] []) : OpR X (compareOp .In) (rInO X.K C sp) := by
  intro pins s σ H x y v u Q I rx ry h
  obtain ⟨a, l, zs, J, rfl, rfl, hz, j, hJ, kk⟩ := h
  cases rx
  cases ry
  refine wpAny_mono (own_in F (ownOf M) ⟨hr, rfl⟩ (bndO2 hb) pass0 hs hz hJ I j) (fun v s' hv => ?_) fun _ _ e => e
  obtain ⟨rfl, H', I', j'⟩ := hv
  exact ⟨.bl false, H', I', rfl, kk H' j'⟩
def vOf : D → V
  | .int i => .int i
  | .str x => .str x
  | _ => .non
theorem vr_flat {K : PySem.W.Frag} {G : Hp} {v : V} {z : D} (h : VR K G v z) (hz : FlD z) : v = vOf z ∧ FlV v := by
  rcases hz with rfl | ⟨i, rfl⟩ | ⟨x, rfl⟩
  · cases h; exact ⟨rfl, .inl rfl⟩
  · cases h; exact ⟨rfl, .inr (.inl ⟨_, rfl⟩)⟩
  · cases h; exact ⟨rfl, .inr (.inr ⟨_, rfl⟩)⟩
theorem vrs_flat {K : PySem.W.Frag} {G : Hp} : ∀ {vs : List V} {zs : List D}, VRs K G vs zs → (∀ z ∈ zs, FlD z) → vs = zs.map vOf ∧ ∀ v ∈ vs, FlV v
  | _, _, .nil, _ => ⟨rfl, fun _ h => nomatch h⟩
  | _, _, .cons h r, hz => by
    obtain ⟨e1, f1⟩ := vr_flat h (hz _ List.mem_cons_self)
    obtain ⟨e2, f2⟩ := vrs_flat r fun z h => hz z (List.mem_cons_of_mem _ h)
    refine ⟨by rw [e2, e1]; rfl, fun v hv => ?_⟩
    rcases List.mem_cons.mp hv with rfl | hv
    · exact f1
    · exact f2 v hv
theorem vr_of_flat {K : PySem.W.Frag} {G : Hp} {z : D} (hz : FlD z) : VR K G (vOf z) z := by
  rcases hz with rfl | ⟨i, rfl⟩ | ⟨x, rfl⟩
  · exact .non
  · exact .int _
  · exact .str _
theorem sInO {K : PySem.W.Frag} : OpS K (rInO K C (toSp K dsp)) (dInO C dsp) := fun {G O H x y v u R Q} rl hx hy h k => by
  obtain ⟨a, dx, fs, zs, rfl, e, hl, hz, hc, r⟩ := h
  obtain ⟨l, ws, rfl, hq, hw⟩ := rl.lstOf hy hl
  obtain ⟨ew, hf⟩ := vrs_flat hw hz
  cases hx
  refine ⟨a, l, ws, fun H' => ∃ G', Go K G O H G' O H', rfl, rfl, hf, ⟨G, Go.refl rl⟩, fun H1 hH1 => ?_, fun H' ⟨G', go⟩ => k _ _ _ _ _ go (.bl _) r⟩
  obtain ⟨G1, go1⟩ := hH1
  obtain ⟨l', ws', e', hq', hw'⟩ := go1.rel.lstOf (hy.mono go1.ex) hl
  cases e'
  rw [(vrs_flat hw' hz).1, ← ew] at hq'
  obtain ⟨us, hu, _⟩ := go1.rel.ins e
  refine ⟨hq', ⟨dx, us, hu⟩, fun y hy' => ?_⟩
  rw [ew] at hy'
  obtain ⟨z, hzm, rfl⟩ := List.mem_map.mp hy'
  refine toSp_of go1.rel (.cons (.ref _) (.cons (vr_of_flat (hz z hzm)) .nil)) (hc z hzm) fun x O' w G' H' go vr q => ?_
  obtain ⟨rfl, rfl⟩ := q
  cases vr
  exact ⟨rfl, G', go1.trans rl go⟩
/-- C(k = v), calm -/
theorem e_make0 {fd : FuncData} {ps ks : List Str} {srcs : List Src} {dvs : List V} {ds : List D} {x : Str} {p pos : Pos} {kws : List Keyword} {tk : DA} {k l : Nat} (M : Mk X.K C f) (F : FnOk X.prog X.w X.K X.mg X.base CX0 k f fd ps (toSp X.K dsp)) (hr : Room (k + 1) X.A) (hm : X.mg x = some (.ref C)) (hb : Bnd X.K fd ps 1 ks srcs dvs) (hd : ∀ G, VRs X.K G dvs ds)
    (hkw : PK X kws (lowA X.K l tk)) (hmk : l = ks.length := by rfl) (hg : Gl X x := by rfl) (hall : (backToKw pos (keywordEach kws X.env)).all (·.1.isSome) = true := by rfl) (hks : (backToKw pos (keywordEach kws X.env)).filterMap (·.1) = ks := by rfl)
    (hdb : (x == ("__debug__" : Str)) = false := by decide)
    (hpl : ((backTo pos (starEach [] X.env)).any (·.1) || (backToKw pos (keywordEach kws X.env)).any (·.1.isNone)) = false := by rfl) :
    PE X (.Call (.Name x p) [] kws pos) (lowE X.K (dMakeX C dsp srcs ds dNil tk X0)) :=
  e_calm (W := W0) (x_make0 M (warm F) hr takes00 hm hb hd hkw hmk hg hall hks hdb hpl)
/-- a method that is called where no repr is under way -/
structure DmG (P : Program) (w : World) (K : PySem.W.Frag) (mg : Str → Option Value) (base : Heap) (k : Nat) (st : Stmt) (x q : Str) (ps : List Str) (dvs : List V) (kws : List (Str × V)) (dsp : DSp) (f : Addr) (fd : FuncData) : Prop where
  fn : FunD K x q (defArgs st) (defBody st) (defScope st) dvs kws f fd
  ok : FnOkG P w K mg base k f fd ps (toSp K dsp)
end
end DL
set_option Elab.async false
set_option linter.all false
set_option maxRecDepth 100000
set_option maxHeartbeats 2000000
namespace DL
open PySem PySem.Spec PyProof.Rows L2
open Evl (Ex)
def dJoin (to te : DE) : DE := fun g O R => to g O fun x O1 => te g O1 fun y O2 => ∃ (a : Str) (ys : List Str), x = .str a ∧ lstOf O2 y = some (ys.map D.str) ∧ (ys.map (·.length)).sum + ys.length * a.length ≤ 16777216 ∧ R (.str (Txt.join a ys)) O2
def dFmtL : D1 := fun x O R => dRepr [x] O R
section
variable {X : Cx} {o e : Expr} {to te : DE} {pos apos : Pos} {k : Nat}
theorem e_join (ho : PE X o (lowE X.K to)) (he : PE X e (lowE X.K te)) (hst : ∀ g O R, to g O R → to g O fun x O1 => (∃ a, x = .str a) ∧ R x O1) (hs : starEach [e] X.env = [(false, eval e X.env)] := by rfl) (hbase : attributeBase o "join" X.env (eval o X.env) = eval o X.env := by rfl) (hline : (apos.endLine == pos.line) = true := by rfl) :
    PE X (.Call (.Attribute o "join" apos) [e] [] pos) (lowE X.K (dJoin to te)) := PE.by (pe_join ho he hs hbase hline) fun s H Q ⟨G, O, g, R, rl, gr, h, k⟩ =>
  ⟨G, O, g, _, rl, gr, hst _ _ _ h, fun x O1 v G1 H1 go1 vr1 q1 => by
    obtain ⟨⟨a, rfl⟩, q1⟩ := q1
    cases vr1
    refine ⟨⟨a, rfl⟩, G1, O1, g, _, go1.rel, gr.mono go1.ex, q1, fun y O2 u G2 H2 go2 vr2 q2 => ?_⟩
    obtain ⟨a', ys, e', hl, hz, r⟩ := q2
    cases e'
    obtain ⟨p, us, rfl, hq, hu⟩ := go2.rel.lstOf vr2 hl
    rw [hu.strs] at hq
    exact ⟨a, p, ys, rfl, rfl, .inl hq, hz, k _ _ _ _ _ (go1.trans rl go2) (.str _) r⟩⟩
theorem st_const {x : Str} : ∀ (g : Gm) (O : Om) (R : D → Om → Prop), dC (.str x) g O R → dC (.str x) g O fun x O1 => (∃ a, x = .str a) ∧ R x O1 := fun _ _ _ h => ⟨⟨x, rfl⟩, h⟩
theorem pe_fmtL {t : TE} (hg : X.A.guards = some []) (hr : Room k X.A) (he : PE X e t) : PE X (.FormattedValue e (-1) none pos) (fun σ H Q => t σ H fun x H1 => rReprD X.K [x] H1 Q) := by
  refine ⟨fun pins s σ H Q I h => ?_⟩
  refine wpAny_FormattedValue_plain (thn (he.run pins s σ H _ I h) fun v s1 hv => ?_)
  obtain ⟨x, H1, I1, r1, q⟩ := hv
  obtain ⟨a, d, ex, hd, h1, h2, h3, h4, q⟩ := q
  cases ex
  cases r1
  obtain ⟨as, rd⟩ := Dp.reads I1 d (.ref a) (.ref a) hd rfl
  have hu := hr.un
  exact formatField_of_reads rd h1 (PyData.noDict_hsm h2) hg (by omega) (fun _ _ e => e) (fun h' u tk hk => ⟨.str d.shown, H1, I1.kept hk, ⟨u, rfl⟩, q⟩) h4
theorem e_fmtL (hg : X.A.guards = some []) (hr : Room k X.A) (he : PE X e (lowE X.K te)) : PE X (.FormattedValue e (-1) none pos) (lowE X.K (dUn dFmtL te)) := PE.by (pe_fmtL hg hr he) fun s H Q ⟨G, O, g, R, rl, gr, h, k⟩ =>
  ⟨G, O, g, _, rl, gr, h, fun x O1 v G1 H1 go1 vr1 q1 => sRepr go1.rel (.cons vr1 .nil) q1 fun y O2 u G2 H2 go2 vr2 q2 => k _ _ _ _ _ (go1.trans rl go2) vr2 q2⟩
end
end DL
set_option Elab.async false
set_option linter.all false
set_option maxRecDepth 100000
set_option maxHeartbeats 2000000
namespace DL
open PySem PySem.Spec PyProof.Rows L2
open Evl (Ex)
structure InsO2 (K : PySem.W.Frag) (mg : Str → Option Value) (x : Str) (C : Addr) : Prop where
  i : InsO K mg x C
  ls : PySem.W.kitOne K (.type "list") (.ref C) = some false
  st : PySem.W.kitOne K (.type "str") (.ref C) = some false
  it : PySem.W.kitOne K (.type "int") (.ref C) = some false
  no : PySem.W.kitOne K (.type "NoneType") (.ref C) = some false
def rIsO2 (K : PySem.W.Frag) (C : Addr) : List V → Hp → VK → Prop := fun xs H Q => ∃ y, xs = [y, .ref C] ∧ ((∃ a dx fs, y = .ref a ∧ H a = some (.ins C dx fs) ∧ Q (.bl true) H) ∨ ((FlV y ∨ ∃ b zs, y = .ref b ∧ SqL K H b zs) ∧ Q (.bl false) H))
theorem call_isO2 {X : Cx} {x : Str} {C : Addr} (c : InsO2 X.K X.mg x C) : CallR X (.builtin "isinstance") (rIsO2 X.K C) := by
  intro pins s σ H xs us Q I r h
  obtain ⟨y, rfl, h⟩ := h
  obtain ⟨u, w', rfl, ru, rw'⟩ := vals2 r
  cases rw'
  rcases h with ⟨a, dx, fs, rfl, ha, q⟩ | ⟨hy, q⟩
  · exact isinst_ok I ru (TyOf.ins ha c.i.c.cl c.i.c.ha c.i.c.hn c.i.c.htk c.i.c.hm) c.i.c.me fun tk => ⟨.bl true, H, I.tok _, rfl, q⟩
  · rcases hy with (rfl | ⟨i, rfl⟩ | ⟨z, rfl⟩) | ⟨b, zs, rfl, hq⟩
    · exact isinst_ok I ru .non c.no fun tk => ⟨.bl false, H, I.tok _, rfl, q⟩
    · exact isinst_ok I ru (.int _) c.it fun tk => ⟨.bl false, H, I.tok _, rfl, q⟩
    · exact isinst_ok I ru (.str _) c.st fun tk => ⟨.bl false, H, I.tok _, rfl, q⟩
    · cases ru
      obtain ⟨its, rv, pl, hz⟩ := I.list hq
      obtain ⟨o, ho, hc, _⟩ := pl.isList
      exact PySem.W.kia_one PySem.W.kitx_list I.kIn ⟨o, ho, hc⟩ c.ls (fun z => nomatch z) fun tk => ⟨.bl false, H, I.tok _, rfl, q⟩
def dIsO2 (C : Addr) : D1 := fun x O R => (∃ a dx fs, x = .ref a ∧ O a = some (.ins C dx fs) ∧ R (.bl true) O) ∨ ((FlD x ∨ ∃ zs, lstOf O x = some zs) ∧ R (.bl false) O)
section
variable {X : Cx} {e : Expr} {te : DE} {pos p p2 : Pos} {xn : Str} {C : Addr}
theorem e_isO2 (c : InsO2 X.K X.mg xn C) (hm : X.mg "isinstance" = none) (he : PE X e (lowE X.K te)) (hgx : Gl X xn := by rfl) (hd : (xn == ("__debug__" : Str)) = false := by decide) (hg : Gl X "isinstance" := by rfl) (hs : starEach [e, .Name xn p2] X.env = (false, eval e X.env) :: starEach [.Name xn p2] X.env := by rfl) (hs2 : starEach [.Name xn p2] X.env = (false, eval (.Name xn p2) X.env) :: starEach [] X.env := by rfl) (hpl : (backTo pos (starEach [.Name xn p2] X.env)).any (·.1) = false := by rfl) :
    PE X (.Call (.Name "isinstance" p) [e, .Name xn p2] [] pos) (lowE X.K (dUn (dIsO2 C) te)) := PE.by (pe_callB (call_isO2 c) hg hm PyProof.Rows.boot_isinstance (pa_cons he (pa_cons (C8.pe_gc (v := .ref C) hgx ⟨_, c.i.g, rfl⟩ hd) pa_nil hs2) hs) (by decide) (by decide) hs hpl) fun s H Q ⟨G, O, g, R, rl, gr, h, k⟩ =>
  ⟨G, O, g, _, rl, gr, h, fun x O1 v G1 H1 go1 vr1 q1 => by
    refine ⟨v, rfl, ?_⟩
    rcases q1 with ⟨a, dx, fs, rfl, e1, q⟩ | ⟨hk, q⟩
    · cases vr1
      obtain ⟨us, hi, _⟩ := go1.rel.ins e1
      exact .inl ⟨a, dx, us, rfl, hi, k _ _ _ _ _ go1 (.bl _) q⟩
    · refine .inr ⟨?_, k _ _ _ _ _ go1 (.bl _) q⟩
      rcases hk with hf | ⟨zs, hzs⟩
      · exact .inl (vr_flat vr1 hf).2
      · obtain ⟨b, us, rfl, hq, _⟩ := go1.rel.lstOf vr1 hzs
        exact .inr ⟨b, us, rfl, hq⟩⟩
end
end DL
set_option linter.all false
set_option maxRecDepth 100000
set_option maxHeartbeats 4000000
namespace Lw
open PySem PySem.Spec PyProof.Rows L2 DL
open Evl (Ex)
abbrev PI := Int × Int
def pqD (p : PI) : D := .tup [.int p.1, .int p.2]
def lfD (l : List PI) : D := .lst (l.map pqD)
def pqQ (p : PI) : PyData := .tuple [.int p.1, .int p.2]
def lfQ (l : List PI) : PyData := .list (l.map pqQ)
def lsQ (ls : List (List PI)) : PyData := .list (ls.map lfQ)
structure GLv (ls : List (List PI)) : Prop where
  len : ls.length ≤ 5
  all : ∀ l ∈ ls, l.length ≤ 4 ∧ ∀ p ∈ l, 0 ≤ p.1 ∧ p.1 ≤ 12 ∧ 0 ≤ p.2 ∧ p.2 ≤ 12
theorem flat_len : ∀ ls : List (List PI), (∀ l ∈ ls, l.length ≤ 4) → ls.flatten.length ≤ 4 * ls.length
  | [], _ => Nat.le_refl _
  | l :: ls, h => by
    have h1 := h l List.mem_cons_self
    have h2 := flat_len ls fun x hx => h x (List.mem_cons_of_mem _ hx)
    rw [List.flatten_cons, List.length_append, List.length_cons]
    omega
theorem GLv.flat {ls : List (List PI)} (h : GLv ls) : ls.flatten.length ≤ 20 := by
  have h1 := h.len
  have h2 := flat_len ls fun l hl => (h.all l hl).1
  omega
theorem seen_pq {O : Om} (p : PI) : Seen O 1 (pqD p) (pqQ p) := SeenAll.tup (.cons .int (.cons .int .nil))
theorem seen_lf {O : Om} (l : List PI) : Seen O 2 (lfD l) (lfQ l) := SeenAll.lst (SeenAll.map fun p _ => seen_pq p)
theorem seen_lfs {O : Om} (ls : List (List PI)) : SeenAll O 2 (ls.map lfD) (ls.map lfQ) := SeenAll.map fun l _ => seen_lf l
theorem eqv_pq (p q : PI) : PyData.eqv (pqQ p) (pqQ q) = decide (p = q) := by
  show PyData.eqvAll [.int p.1, .int p.2] [.int q.1, .int q.2] = _
  simp only [PyData.eqvAll, PyData.eqv, Bool.and_true]
  rw [Bool.eq_iff_iff, Bool.and_eq_true, beq_iff_eq, beq_iff_eq, decide_eq_true_iff, Prod.ext_iff]
theorem eqv_pqs : ∀ xs ys : List PI, PyData.eqvAll (xs.map pqQ) (ys.map pqQ) = decide (xs = ys)
  | [], [] => rfl
  | [], y :: ys => rfl
  | x :: xs, [] => rfl
  | x :: xs, y :: ys => by
    rw [List.map_cons, List.map_cons, PyData.eqvAll, eqv_pq, eqv_pqs xs ys, Bool.eq_iff_iff, Bool.and_eq_true, decide_eq_true_iff, decide_eq_true_iff, decide_eq_true_iff, List.cons.injEq]
theorem eqv_lf (x y : List PI) : PyData.eqv (lfQ x) (lfQ y) = decide (x = y) := eqv_pqs x y
theorem eqv_lfs : ∀ xs ys : List (List PI), PyData.eqvAll (xs.map lfQ) (ys.map lfQ) = decide (xs = ys)
  | [], [] => rfl
  | [], y :: ys => rfl
  | x :: xs, [] => rfl
  | x :: xs, y :: ys => by
    rw [List.map_cons, List.map_cons, PyData.eqvAll, eqv_lf, eqv_lfs xs ys, Bool.eq_iff_iff, Bool.and_eq_true, decide_eq_true_iff, decide_eq_true_iff, decide_eq_true_iff, List.cons.injEq]
theorem eqv_ls (x y : List (List PI)) : PyData.eqv (lsQ x) (lsQ y) = decide (x = y) := eqv_lfs x y
def t_law_leaves : DS :=
  (dSeq (dSet 1 (dLst dNil))
  (dSeq (dFor (dRng1 (dCons (dCall sp_law_pull [.p 0, .p 1] [] (dCons (dVar 0) (dCons (dC (.int 5)) dNil)) dNil) dNil)) (gN 2) (dDrop (dLM dAppend (dVar 1) (dCons (dLcF (dRng1 (dCons (dCall sp_law_pull [.p 0, .p 1] [] (dCons (dVar 0) (dCons (dC (.int 4)) dNil)) dNil) dNil)) (gN 3) dYes (dTup (dCons (dCall sp_law_pull [.p 0, .p 1] [] (dCons (dVar 0) (dCons (dC (.int 12)) dNil)) dNil) (dCons (dCall sp_law_pull [.p 0, .p 1] [] (dCons (dVar 0) (dCons (dC (.int 13)) dNil)) dNil) dNil))) [3]) dNil))))
  (dRet (dVar 1))))
def n_law_leaves : List Str := ["_law_bag_here", "_law_found", "_law_k", "_law_at"]
def sp_law_leaves : DSp := fun xs O R _ => ∃ b : Addr, xs = [.ref b] ∧ Bag O b ∧ ∀ (p : Addr) (ls : List (List PI)) (O' : Om), O p = none → GLv ls → ls.length ≤ 4 → O' p = some (.lst (ls.map lfD)) → Bst b O O' → R (.ref p) O'
theorem d_law_leaves : ∀ xs O R Z, sp_law_leaves xs O R Z → t_law_leaves (ends R) (startD n_law_leaves xs) O := by
  rintro _ O R Z ⟨b, rfl, bag, k⟩
  show t_law_leaves (ends R) [some (.ref b), none, none, none] O
  unfold t_law_leaves
  refine seq1 fun N hN => ?_; simp only [dIfS, dAndT, dOrT, dNotT, dTest, dTruth, dTru, dAndV, dOrV, dNotV, dIf, dOp, dUn, dVar, dC, dI, dIc, dAdd, dSub, dMul, dFd, dMod, dPow, dNeg, dLt, dLe, dGt, dGe, dIsN, dNotN, DL.isNon, ix_pR0, ix_pR1, ix_tup, ix_lst, ix_ref, dSl, dPart, dNoPart, dCB, len_tup, len_lst, len_ref, dAbs, dList, dTuple, dBls, dSum, dIsi, dIsi2, dtOf, isC, seqOf, lstOf, dCons, dNil, dTup, dLst, dRet, dRetN, dNext, dDrop, dAsg, gN, gsNil, gsCons, gT, gSubD, dSetL, dPar, dAug, dIpAdd, dIpSub, dCall, eq_int, eq_str, eq_bl, ne_int, ne_str, ne_bl, eq_pR, ne_pR, plus_eq, less_eq, times_eq, over_eq, floor_eq, ceil_eq, part_eq, below_eq, seq_pR, pick_nil, pick_p, pick_k, pick_d, dBreak, dCont, dLM, dLM0, isL, dAppend, dInsert, dPop, dPopAt, dRevL, dStr, dFmt, dJs, dMax2, dMin2, dSorted, dNewK, dctOf, dGetK, dHasK, DL.keyOf, dPutK, dDelK, dSortedD, dSet, dLstF, dRevF, dSlF, dListF, dSortedF, dSortedDF, dMaxF, dMinF, dInS, dLtA, dNewT, dGetT, dHasT, dctT, tkOf, keysOf, dTupP, dPutT, dPutP, putTk, pkOf, dSortedTF, dGet1, dGet2, dGet2T, dDisp1, dRep, dInt, dBits, dExtend, dReverse, dMaxDf, dCat, dCatF, dExtL, dDcT, Option.isSome_some, List.getElem?_cons_zero, List.getElem?_cons_succ, List.set_cons_zero, List.set_cons_succ, atI_0, atI_1, atI_2, atI_3, atI_4, atI_5, ixN_0, ixN_1, ixN_2, ixN_3, ixN_4, ixN_5, up_same, List.length_cons, List.length_nil, Bool.not_true, Bool.not_false, Bool.false_eq_true, if_true, if_false, reduceIte]
  intro p hp
  have npb := (bag.free hp).1
  subst hN
  refine seq_by (fun g' O' => Bst b O O' ∧ ∃ ls : List (List PI), GLv ls ∧ ls.length ≤ 4 ∧ O' p = some (.lst (ls.map lfD)) ∧ ∃ z2 z3, g' = [some (.ref b), some (.ref p), z2, z3]) (fun N hN => ?_) ?_
  · unfold dFor
    simp only [dIfS, dAndT, dOrT, dNotT, dTest, dTruth, dTru, dAndV, dOrV, dNotV, dIf, dOp, dUn, dVar, dC, dI, dIc, dAdd, dSub, dMul, dFd, dMod, dPow, dNeg, dLt, dLe, dGt, dGe, dIsN, dNotN, DL.isNon, ix_pR0, ix_pR1, ix_tup, ix_lst, ix_ref, dSl, dPart, dNoPart, dCB, len_tup, len_lst, len_ref, dAbs, dList, dTuple, dBls, dSum, dIsi, dIsi2, dtOf, isC, seqOf, lstOf, dCons, dNil, dTup, dLst, dRet, dRetN, dNext, dDrop, dAsg, gN, gsNil, gsCons, gT, gSubD, dSetL, dPar, dAug, dIpAdd, dIpSub, dCall, eq_int, eq_str, eq_bl, ne_int, ne_str, ne_bl, eq_pR, ne_pR, plus_eq, less_eq, times_eq, over_eq, floor_eq, ceil_eq, part_eq, below_eq, seq_pR, pick_nil, pick_p, pick_k, pick_d, dBreak, dCont, dLM, dLM0, isL, dAppend, dInsert, dPop, dPopAt, dRevL, dStr, dFmt, dJs, dMax2, dMin2, dSorted, dNewK, dctOf, dGetK, dHasK, DL.keyOf, dPutK, dDelK, dSortedD, dSet, dLstF, dRevF, dSlF, dListF, dSortedF, dSortedDF, dMaxF, dMinF, dInS, dLtA, dNewT, dGetT, dHasT, dctT, tkOf, keysOf, dTupP, dPutT, dPutP, putTk, pkOf, dSortedTF, dGet1, dGet2, dGet2T, dDisp1, dRep, dInt, dBits, dExtend, dReverse, dMaxDf, dCat, dCatF, dExtL, dDcT, Option.isSome_some, List.getElem?_cons_zero, List.getElem?_cons_succ, List.set_cons_zero, List.set_cons_succ, atI_0, atI_1, atI_2, atI_3, atI_4, atI_5, ixN_0, ixN_1, ixN_2, ixN_3, ixN_4, ixN_5, up_same, List.length_cons, List.length_nil, Bool.not_true, Bool.not_false, Bool.false_eq_true, if_true, if_false, reduceIte, dFor, dRng1, dRng2, dRng3, dSeqI, dEnum, dEnumA, dZip, dLc, dLcF, wipeD]
    refine ⟨b, 5, rfl, by decide, by decide, ((Bst.refl bag).up hp).1, fun r O3 r0 r1 s3 => ⟨by omega, by omega, ?_⟩⟩
    have s03 := ((Bst.refl bag).up hp).trans s3
    have q0 : O3 p = some (.lst (([] : List (List PI)).map lfD)) := s3.2 p _ npb up_same
    refine loop_ix (fun i g' O' => Bst b O O' ∧ ∃ ls : List (List PI), GLv ls ∧ ls.length = i ∧ i ≤ 4 ∧ O' p = some (.lst (ls.map lfD)) ∧ ∃ z2 z3, g' = [some (.ref b), some (.ref p), z2, z3]) ⟨s03, [], ⟨by decide, fun _ h => nomatch h⟩, rfl, by omega, q0, _, _, rfl⟩ (fun _ _ _ _ => True.intro) ?_ ?_
    · rintro i x _ O4 M hx ⟨s4, ls, hg, hl, hi4, q4, z2, z3, rfl⟩ hM
      obtain ⟨hi, rfl⟩ := rgD_get' hx
      simp only [gN, List.set_cons_succ, List.set_cons_zero]
      simp only [dIfS, dAndT, dOrT, dNotT, dTest, dTruth, dTru, dAndV, dOrV, dNotV, dIf, dOp, dUn, dVar, dC, dI, dIc, dAdd, dSub, dMul, dFd, dMod, dPow, dNeg, dLt, dLe, dGt, dGe, dIsN, dNotN, DL.isNon, ix_pR0, ix_pR1, ix_tup, ix_lst, ix_ref, dSl, dPart, dNoPart, dCB, len_tup, len_lst, len_ref, dAbs, dList, dTuple, dBls, dSum, dIsi, dIsi2, dtOf, isC, seqOf, lstOf, dCons, dNil, dTup, dLst, dRet, dRetN, dNext, dDrop, dAsg, gN, gsNil, gsCons, gT, gSubD, dSetL, dPar, dAug, dIpAdd, dIpSub, dCall, eq_int, eq_str, eq_bl, ne_int, ne_str, ne_bl, eq_pR, ne_pR, plus_eq, less_eq, times_eq, over_eq, floor_eq, ceil_eq, part_eq, below_eq, seq_pR, pick_nil, pick_p, pick_k, pick_d, dBreak, dCont, dLM, dLM0, isL, dAppend, dInsert, dPop, dPopAt, dRevL, dStr, dFmt, dJs, dMax2, dMin2, dSorted, dNewK, dctOf, dGetK, dHasK, DL.keyOf, dPutK, dDelK, dSortedD, dSet, dLstF, dRevF, dSlF, dListF, dSortedF, dSortedDF, dMaxF, dMinF, dInS, dLtA, dNewT, dGetT, dHasT, dctT, tkOf, keysOf, dTupP, dPutT, dPutP, putTk, pkOf, dSortedTF, dGet1, dGet2, dGet2T, dDisp1, dRep, dInt, dBits, dExtend, dReverse, dMaxDf, dCat, dCatF, dExtL, dDcT, Option.isSome_some, List.getElem?_cons_zero, List.getElem?_cons_succ, List.set_cons_zero, List.set_cons_succ, atI_0, atI_1, atI_2, atI_3, atI_4, atI_5, ixN_0, ixN_1, ixN_2, ixN_3, ixN_4, ixN_5, up_same, List.length_cons, List.length_nil, Bool.not_true, Bool.not_false, Bool.false_eq_true, if_true, if_false, reduceIte, dFor, dRng1, dRng2, dRng3, dSeqI, dEnum, dEnumA, dZip, dLc, dLcF, wipeD, q4]
      refine ⟨True.intro, b, 4, rfl, by decide, by decide, s4.1, fun v O5 v0 v1 s5 => ⟨by omega, by omega, ?_⟩⟩
      refine comp_draw (f := pqD) (fun p : PI => 0 ≤ p.1 ∧ p.1 ≤ 12 ∧ 0 ≤ p.2 ∧ p.2 ≤ 12) (Bst.refl s5.1) (fun _ => True.intro) (by rw [rgD_len]; omega) (fun x acc O6 N3 hx hacc s6 hN3 => ?_) (fun l O6 hal hgl s6 => ?_)
      · simp only [dIfS, dAndT, dOrT, dNotT, dTest, dTruth, dTru, dAndV, dOrV, dNotV, dIf, dOp, dUn, dVar, dC, dI, dIc, dAdd, dSub, dMul, dFd, dMod, dPow, dNeg, dLt, dLe, dGt, dGe, dIsN, dNotN, DL.isNon, ix_pR0, ix_pR1, ix_tup, ix_lst, ix_ref, dSl, dPart, dNoPart, dCB, len_tup, len_lst, len_ref, dAbs, dList, dTuple, dBls, dSum, dIsi, dIsi2, dtOf, isC, seqOf, lstOf, dCons, dNil, dTup, dLst, dRet, dRetN, dNext, dDrop, dAsg, gN, gsNil, gsCons, gT, gSubD, dSetL, dPar, dAug, dIpAdd, dIpSub, dCall, eq_int, eq_str, eq_bl, ne_int, ne_str, ne_bl, eq_pR, ne_pR, plus_eq, less_eq, times_eq, over_eq, floor_eq, ceil_eq, part_eq, below_eq, seq_pR, pick_nil, pick_p, pick_k, pick_d, dBreak, dCont, dLM, dLM0, isL, dAppend, dInsert, dPop, dPopAt, dRevL, dStr, dFmt, dJs, dMax2, dMin2, dSorted, dNewK, dctOf, dGetK, dHasK, DL.keyOf, dPutK, dDelK, dSortedD, dSet, dLstF, dRevF, dSlF, dListF, dSortedF, dSortedDF, dMaxF, dMinF, dInS, dLtA, dNewT, dGetT, dHasT, dctT, tkOf, keysOf, dTupP, dPutT, dPutP, putTk, pkOf, dSortedTF, dGet1, dGet2, dGet2T, dDisp1, dRep, dInt, dBits, dExtend, dReverse, dMaxDf, dCat, dCatF, dExtL, dDcT, Option.isSome_some, List.getElem?_cons_zero, List.getElem?_cons_succ, List.set_cons_zero, List.set_cons_succ, atI_0, atI_1, atI_2, atI_3, atI_4, atI_5, ixN_0, ixN_1, ixN_2, ixN_3, ixN_4, ixN_5, up_same, List.length_cons, List.length_nil, Bool.not_true, Bool.not_false, Bool.false_eq_true, if_true, if_false, reduceIte, dYes]
        refine ⟨b, 12, rfl, by decide, by decide, s6.1, fun va O7 a0 a1 s7 => ?_⟩
        refine ⟨b, 13, rfl, by decide, by decide, s7.1, fun vb O8 b0 b1 s8 => ⟨hacc, ?_⟩⟩
        exact hN3 (va, vb) O8 ⟨a0, by omega, b0, by omega⟩ (s7.trans s8)
      rw [rgD_len] at hal
      have s46 := s5.trans s6
      have q6 := s46.2 p _ npb q4
      simp only [dIfS, dAndT, dOrT, dNotT, dTest, dTruth, dTru, dAndV, dOrV, dNotV, dIf, dOp, dUn, dVar, dC, dI, dIc, dAdd, dSub, dMul, dFd, dMod, dPow, dNeg, dLt, dLe, dGt, dGe, dIsN, dNotN, DL.isNon, ix_pR0, ix_pR1, ix_tup, ix_lst, ix_ref, dSl, dPart, dNoPart, dCB, len_tup, len_lst, len_ref, dAbs, dList, dTuple, dBls, dSum, dIsi, dIsi2, dtOf, isC, seqOf, lstOf, dCons, dNil, dTup, dLst, dRet, dRetN, dNext, dDrop, dAsg, gN, gsNil, gsCons, gT, gSubD, dSetL, dPar, dAug, dIpAdd, dIpSub, dCall, eq_int, eq_str, eq_bl, ne_int, ne_str, ne_bl, eq_pR, ne_pR, plus_eq, less_eq, times_eq, over_eq, floor_eq, ceil_eq, part_eq, below_eq, seq_pR, pick_nil, pick_p, pick_k, pick_d, dBreak, dCont, dLM, dLM0, isL, dAppend, dInsert, dPop, dPopAt, dRevL, dStr, dFmt, dJs, dMax2, dMin2, dSorted, dNewK, dctOf, dGetK, dHasK, DL.keyOf, dPutK, dDelK, dSortedD, dSet, dLstF, dRevF, dSlF, dListF, dSortedF, dSortedDF, dMaxF, dMinF, dInS, dLtA, dNewT, dGetT, dHasT, dctT, tkOf, keysOf, dTupP, dPutT, dPutP, putTk, pkOf, dSortedTF, dGet1, dGet2, dGet2T, dDisp1, dRep, dInt, dBits, dExtend, dReverse, dMaxDf, dCat, dCatF, dExtL, dDcT, Option.isSome_some, List.getElem?_cons_zero, List.getElem?_cons_succ, List.set_cons_zero, List.set_cons_succ, atI_0, atI_1, atI_2, atI_3, atI_4, atI_5, ixN_0, ixN_1, ixN_2, ixN_3, ixN_4, ixN_5, up_same, List.length_cons, List.length_nil, Bool.not_true, Bool.not_false, Bool.false_eq_true, if_true, if_false, reduceIte, q6]
      refine ⟨by rw [List.length_map, sizeLine_eq]; omega, hM _ _ ⟨(s4.trans s46).put bag hp, ls ++ [l], ⟨by rw [List.length_append]; simp; omega, fun z hz => ?_⟩, by rw [List.length_append, hl]; rfl, by omega, by rw [up_same, List.map_append]; rfl, _, _, rfl⟩⟩
      rcases List.mem_append.mp hz with hz | hz
      · exact hg.all z hz
      · rw [List.mem_singleton.mp hz]
        exact ⟨by omega, hgl⟩
    · rintro _ O4 ⟨s4, ls, hg, hl, hi4, q4, z2, z3, rfl⟩
      exact hN _ _ ⟨s4, ls, hg, by omega, q4, _, _, rfl⟩
  rintro _ O4 ⟨s4, ls, hg, hl, q4, z2, z3, rfl⟩
  simp only [dIfS, dAndT, dOrT, dNotT, dTest, dTruth, dTru, dAndV, dOrV, dNotV, dIf, dOp, dUn, dVar, dC, dI, dIc, dAdd, dSub, dMul, dFd, dMod, dPow, dNeg, dLt, dLe, dGt, dGe, dIsN, dNotN, DL.isNon, ix_pR0, ix_pR1, ix_tup, ix_lst, ix_ref, dSl, dPart, dNoPart, dCB, len_tup, len_lst, len_ref, dAbs, dList, dTuple, dBls, dSum, dIsi, dIsi2, dtOf, isC, seqOf, lstOf, dCons, dNil, dTup, dLst, dRet, dRetN, dNext, dDrop, dAsg, gN, gsNil, gsCons, gT, gSubD, dSetL, dPar, dAug, dIpAdd, dIpSub, dCall, eq_int, eq_str, eq_bl, ne_int, ne_str, ne_bl, eq_pR, ne_pR, plus_eq, less_eq, times_eq, over_eq, floor_eq, ceil_eq, part_eq, below_eq, seq_pR, pick_nil, pick_p, pick_k, pick_d, dBreak, dCont, dLM, dLM0, isL, dAppend, dInsert, dPop, dPopAt, dRevL, dStr, dFmt, dJs, dMax2, dMin2, dSorted, dNewK, dctOf, dGetK, dHasK, DL.keyOf, dPutK, dDelK, dSortedD, dSet, dLstF, dRevF, dSlF, dListF, dSortedF, dSortedDF, dMaxF, dMinF, dInS, dLtA, dNewT, dGetT, dHasT, dctT, tkOf, keysOf, dTupP, dPutT, dPutP, putTk, pkOf, dSortedTF, dGet1, dGet2, dGet2T, dDisp1, dRep, dInt, dBits, dExtend, dReverse, dMaxDf, dCat, dCatF, dExtL, dDcT, Option.isSome_some, List.getElem?_cons_zero, List.getElem?_cons_succ, List.set_cons_zero, List.set_cons_succ, atI_0, atI_1, atI_2, atI_3, atI_4, atI_5, ixN_0, ixN_1, ixN_2, ixN_3, ixN_4, ixN_5, up_same, List.length_cons, List.length_nil, Bool.not_true, Bool.not_false, Bool.false_eq_true, if_true, if_false, reduceIte]
  exact Fin.here (k p ls _ hp hg hl q4 s4)
def lyFs (r : Addr) : List (Str × D) := [("sheets", .ref r)]
theorem ply1 {r : Addr} : putFD "sheets" (.ref r) [] = lyFs r := by kernel_rfl
theorem ly_sheets {r : Addr} : (lyFs r).lookup ("sheets" : Str) = some (.ref r) := by kernel_rfl
theorem ly_lines {r : Addr} : (lyFs r).lookup ("lines" : Str) = none := by kernel_rfl
theorem ly_pages {r : Addr} : (lyFs r).lookup ("pages" : Str) = none := by kernel_rfl
structure LyAt (tb : Tb) (O : Om) (a dx r : Addr) (ls : List (List PI)) : Prop where
  ob : O a = some (.ins tb.Layout dx (lyFs r))
  sh : O r = some (.lst (ls.map lfD))
theorem LyAt.sb {tb : Tb} {O O' : Om} {a dx r : Addr} {ls : List (List PI)} (h : LyAt tb O a dx r ls) (s : Sb O O') : LyAt tb O' a dx r ls := ⟨s _ _ h.ob, s _ _ h.sh⟩
theorem LyAt.xS {tb : Tb} {O : Om} {x dx r : Addr} {ls : List (List PI)} (h : LyAt tb O x dx r ls) {R : D → Prop} : (∃ (a dx : Addr) (fs : List (Str × D)) (v : D), D.ref x = D.ref a ∧ O a = some (.ins tb.Layout dx fs) ∧ fs.lookup ("sheets" : Str) = some v ∧ R v) = R (.ref r) := by
  refine propext ⟨?_, fun hR => ⟨x, dx, _, _, rfl, h.ob, ly_sheets, hR⟩⟩
  rintro ⟨a, dx', fs, v, e, h2, h3, hR⟩
  cases e
  rw [h.ob] at h2
  cases h2
  rw [ly_sheets] at h3
  cases h3
  exact hR
/-- pages handed in: owned lists in an owned list, or data -/
inductive PgIn (O : Om) : D → List (List PI) → Prop
  | dat (ls : List (List PI)) : PgIn O (.lst (ls.map lfD)) ls
  | own (p : Addr) (zs : List (Addr × List PI)) (h : O p = some (.lst (zs.map fun z => D.ref z.1))) (hz : ∀ z ∈ zs, O z.1 = some (.lst (z.2.map pqD))) : PgIn O (.ref p) (zs.map (·.2))
def t_Layout_init (tb : Tb) : DS :=
  (dSetF tb.Layout "sheets" (dVar 0) (fun _ => (dLc (dSeqI (dVar 1)) (gN 2) dYes (dCB dListF (dCons (dVar 2) dNil)) [2])))
def n_Layout_init : List Str := ["self", "pages", "page"]
def sp_Layout_init (tb : Tb) : DSp := fun xs O R _ => ∃ (x dx : Addr) (v : D) (ls : List (List PI)), xs = [.ref x, v] ∧ O x = some (.ins tb.Layout dx []) ∧ PgIn O v ls ∧ ls.length ≤ 1000 ∧ ∀ r O', O r = none → LyAt tb O' x dx r ls → (∀ c u, c ≠ x → O c = some u → O' c = some u) → R .non O'
theorem d_Layout_init (tb : Tb) : ∀ xs O R Z, sp_Layout_init tb xs O R Z → t_Layout_init tb (ends R) (startD n_Layout_init xs) O := by
  rintro _ O R Z ⟨x, dx, v, ls, rfl, hx, hp, hl, k⟩
  show t_Layout_init tb (ends R) [some (.ref x), some v, none] O
  unfold t_Layout_init
  have fin : ∀ (r : Addr) (hr : O r = none), (∃ (a dx : Addr) (fs : List (Str × D)), D.ref x = D.ref a ∧ DL.up O r (.lst (ls.map lfD)) a = some (.ins tb.Layout dx fs) ∧ fs.length < 1000 ∧ Fin R .non (DL.up (DL.up O r (.lst (ls.map lfD))) a (.ins tb.Layout dx (putFD "sheets" (.ref r) fs)))) := fun r hr => by
    have nr : r ≠ x := fun z => by rw [z, hx] at hr; cases hr
    refine ⟨x, dx, _, rfl, by rw [up_ne nr.symm]; exact hx, by show 0 < 1000; decide, ?_⟩
    rw [ply1]
    exact Fin.here (k r _ hr ⟨up_same, by rw [up_ne nr, up_same]⟩ fun c u hc e => by rw [up_ne hc, up_ne (some_ne_none hr e)]; exact e)
  cases hp with
  | dat =>
    simp only [dIfS, dAndT, dOrT, dNotT, dTest, dTruth, dTru, dAndV, dOrV, dNotV, dIf, dOp, dUn, dVar, dC, dI, dIc, dAdd, dSub, dMul, dFd, dMod, dPow, dNeg, dLt, dLe, dGt, dGe, dIsN, dNotN, DL.isNon, ix_pR0, ix_pR1, ix_tup, ix_lst, ix_ref, dSl, dPart, dNoPart, dCB, len_tup, len_lst, len_ref, dAbs, dList, dTuple, dBls, dSum, dIsi, dIsi2, dtOf, isC, seqOf, lstOf, dCons, dNil, dTup, dLst, dRet, dRetN, dNext, dDrop, dAsg, gN, gsNil, gsCons, gT, gSubD, dSetL, dPar, dAug, dIpAdd, dIpSub, dCall, eq_int, eq_str, eq_bl, ne_int, ne_str, ne_bl, eq_pR, ne_pR, plus_eq, less_eq, times_eq, over_eq, floor_eq, ceil_eq, part_eq, below_eq, seq_pR, pick_nil, pick_p, pick_k, pick_d, dBreak, dCont, dLM, dLM0, isL, dAppend, dInsert, dPop, dPopAt, dRevL, dStr, dFmt, dJs, dMax2, dMin2, dSorted, dNewK, dctOf, dGetK, dHasK, DL.keyOf, dPutK, dDelK, dSortedD, dSet, dLstF, dRevF, dSlF, dListF, dSortedF, dSortedDF, dMaxF, dMinF, dInS, dLtA, dNewT, dGetT, dHasT, dctT, tkOf, keysOf, dTupP, dPutT, dPutP, putTk, pkOf, dSortedTF, dGet1, dGet2, dGet2T, dDisp1, dRep, dInt, dBits, dExtend, dReverse, dMaxDf, dCat, dCatF, dExtL, dDcT, Option.isSome_some, List.getElem?_cons_zero, List.getElem?_cons_succ, List.set_cons_zero, List.set_cons_succ, atI_0, atI_1, atI_2, atI_3, atI_4, atI_5, ixN_0, ixN_1, ixN_2, ixN_3, ixN_4, ixN_5, up_same, List.length_cons, List.length_nil, Bool.not_true, Bool.not_false, Bool.false_eq_true, if_true, if_false, reduceIte, dFor, dRng1, dRng2, dRng3, dSeqI, dEnum, dEnumA, dZip, dLc, dLcF, wipeD, dSetF]
    refine comp_all (f := lfD) lfD True.intro (by omega) (fun l hm N2 acc hacc hN2 => ?_) ?_
    · simp only [dIfS, dAndT, dOrT, dNotT, dTest, dTruth, dTru, dAndV, dOrV, dNotV, dIf, dOp, dUn, dVar, dC, dI, dIc, dAdd, dSub, dMul, dFd, dMod, dPow, dNeg, dLt, dLe, dGt, dGe, dIsN, dNotN, DL.isNon, ix_pR0, ix_pR1, ix_tup, ix_lst, ix_ref, dSl, dPart, dNoPart, dCB, len_tup, len_lst, len_ref, dAbs, dList, dTuple, dBls, dSum, dIsi, dIsi2, dtOf, isC, seqOf, lstOf, dCons, dNil, dTup, dLst, dRet, dRetN, dNext, dDrop, dAsg, gN, gsNil, gsCons, gT, gSubD, dSetL, dPar, dAug, dIpAdd, dIpSub, dCall, eq_int, eq_str, eq_bl, ne_int, ne_str, ne_bl, eq_pR, ne_pR, plus_eq, less_eq, times_eq, over_eq, floor_eq, ceil_eq, part_eq, below_eq, seq_pR, pick_nil, pick_p, pick_k, pick_d, dBreak, dCont, dLM, dLM0, isL, dAppend, dInsert, dPop, dPopAt, dRevL, dStr, dFmt, dJs, dMax2, dMin2, dSorted, dNewK, dctOf, dGetK, dHasK, DL.keyOf, dPutK, dDelK, dSortedD, dSet, dLstF, dRevF, dSlF, dListF, dSortedF, dSortedDF, dMaxF, dMinF, dInS, dLtA, dNewT, dGetT, dHasT, dctT, tkOf, keysOf, dTupP, dPutT, dPutP, putTk, pkOf, dSortedTF, dGet1, dGet2, dGet2T, dDisp1, dRep, dInt, dBits, dExtend, dReverse, dMaxDf, dCat, dCatF, dExtL, dDcT, Option.isSome_some, List.getElem?_cons_zero, List.getElem?_cons_succ, List.set_cons_zero, List.set_cons_succ, atI_0, atI_1, atI_2, atI_3, atI_4, atI_5, ixN_0, ixN_1, ixN_2, ixN_3, ixN_4, ixN_5, up_same, List.length_cons, List.length_nil, Bool.not_true, Bool.not_false, Bool.false_eq_true, if_true, if_false, reduceIte, dYes, lfD]
      exact ⟨hacc, hN2⟩
    exact fun r hr => fin r hr
  | own p zs h hz =>
    rw [List.length_map] at hl
    simp only [dIfS, dAndT, dOrT, dNotT, dTest, dTruth, dTru, dAndV, dOrV, dNotV, dIf, dOp, dUn, dVar, dC, dI, dIc, dAdd, dSub, dMul, dFd, dMod, dPow, dNeg, dLt, dLe, dGt, dGe, dIsN, dNotN, DL.isNon, ix_pR0, ix_pR1, ix_tup, ix_lst, ix_ref, dSl, dPart, dNoPart, dCB, len_tup, len_lst, len_ref, dAbs, dList, dTuple, dBls, dSum, dIsi, dIsi2, dtOf, isC, seqOf, lstOf, dCons, dNil, dTup, dLst, dRet, dRetN, dNext, dDrop, dAsg, gN, gsNil, gsCons, gT, gSubD, dSetL, dPar, dAug, dIpAdd, dIpSub, dCall, eq_int, eq_str, eq_bl, ne_int, ne_str, ne_bl, eq_pR, ne_pR, plus_eq, less_eq, times_eq, over_eq, floor_eq, ceil_eq, part_eq, below_eq, seq_pR, pick_nil, pick_p, pick_k, pick_d, dBreak, dCont, dLM, dLM0, isL, dAppend, dInsert, dPop, dPopAt, dRevL, dStr, dFmt, dJs, dMax2, dMin2, dSorted, dNewK, dctOf, dGetK, dHasK, DL.keyOf, dPutK, dDelK, dSortedD, dSet, dLstF, dRevF, dSlF, dListF, dSortedF, dSortedDF, dMaxF, dMinF, dInS, dLtA, dNewT, dGetT, dHasT, dctT, tkOf, keysOf, dTupP, dPutT, dPutP, putTk, pkOf, dSortedTF, dGet1, dGet2, dGet2T, dDisp1, dRep, dInt, dBits, dExtend, dReverse, dMaxDf, dCat, dCatF, dExtL, dDcT, Option.isSome_some, List.getElem?_cons_zero, List.getElem?_cons_succ, List.set_cons_zero, List.set_cons_succ, atI_0, atI_1, atI_2, atI_3, atI_4, atI_5, ixN_0, ixN_1, ixN_2, ixN_3, ixN_4, ixN_5, up_same, List.length_cons, List.length_nil, Bool.not_true, Bool.not_false, Bool.false_eq_true, if_true, if_false, reduceIte, dFor, dRng1, dRng2, dRng3, dSeqI, dEnum, dEnumA, dZip, dLc, dLcF, wipeD, dSetF, h]
    refine comp_all (f := fun z : Addr × List PI => D.ref z.1) (fun z => lfD z.2) h (by omega) (fun z hm N2 acc hacc hN2 => ?_) ?_
    · have := hz z hm
      simp only [dIfS, dAndT, dOrT, dNotT, dTest, dTruth, dTru, dAndV, dOrV, dNotV, dIf, dOp, dUn, dVar, dC, dI, dIc, dAdd, dSub, dMul, dFd, dMod, dPow, dNeg, dLt, dLe, dGt, dGe, dIsN, dNotN, DL.isNon, ix_pR0, ix_pR1, ix_tup, ix_lst, ix_ref, dSl, dPart, dNoPart, dCB, len_tup, len_lst, len_ref, dAbs, dList, dTuple, dBls, dSum, dIsi, dIsi2, dtOf, isC, seqOf, lstOf, dCons, dNil, dTup, dLst, dRet, dRetN, dNext, dDrop, dAsg, gN, gsNil, gsCons, gT, gSubD, dSetL, dPar, dAug, dIpAdd, dIpSub, dCall, eq_int, eq_str, eq_bl, ne_int, ne_str, ne_bl, eq_pR, ne_pR, plus_eq, less_eq, times_eq, over_eq, floor_eq, ceil_eq, part_eq, below_eq, seq_pR, pick_nil, pick_p, pick_k, pick_d, dBreak, dCont, dLM, dLM0, isL, dAppend, dInsert, dPop, dPopAt, dRevL, dStr, dFmt, dJs, dMax2, dMin2, dSorted, dNewK, dctOf, dGetK, dHasK, DL.keyOf, dPutK, dDelK, dSortedD, dSet, dLstF, dRevF, dSlF, dListF, dSortedF, dSortedDF, dMaxF, dMinF, dInS, dLtA, dNewT, dGetT, dHasT, dctT, tkOf, keysOf, dTupP, dPutT, dPutP, putTk, pkOf, dSortedTF, dGet1, dGet2, dGet2T, dDisp1, dRep, dInt, dBits, dExtend, dReverse, dMaxDf, dCat, dCatF, dExtL, dDcT, Option.isSome_some, List.getElem?_cons_zero, List.getElem?_cons_succ, List.set_cons_zero, List.set_cons_succ, atI_0, atI_1, atI_2, atI_3, atI_4, atI_5, ixN_0, ixN_1, ixN_2, ixN_3, ixN_4, ixN_5, up_same, List.length_cons, List.length_nil, Bool.not_true, Bool.not_false, Bool.false_eq_true, if_true, if_false, reduceIte, dYes, this]
      exact ⟨hacc, hN2⟩
    have e : zs.map (fun z => lfD z.2) = (zs.map (·.2)).map lfD := by rw [List.map_map]; rfl
    rw [e]
    exact fun r hr => fin r hr
/-- copies of lists, all of them new -/
structure Cp (O O' : Om) (zs : List (Addr × List PI)) (ls : List (List PI)) : Prop where
  e : zs.map (·.2) = ls
  s : Sb O O'
  nw : ∀ z ∈ zs, O z.1 = none ∧ O' z.1 = some (.lst (z.2.map pqD))
  nd : (zs.map (·.1)).Nodup
theorem comp_copies {u : DG} {tt : DT} {te : DE} {ok : Om → Prop} {g : DL.Gm} {R : List D → Om → Prop} {O : Om} {ls : List (List PI)} (hok : ∀ O', Sb O O' → ok O') (hl : ls.length ≤ 1000)
    (hs : ∀ l ∈ ls, ∀ (O2 : Om) (acc : List D) (N : List D → Om → Prop), acc.length < sizeLine → (∀ q, O2 q = none → N (acc ++ [.ref q]) (DL.up O2 q (.lst (l.map pqD)))) → u (lfD l) g O2 fun g1 O1 => tt g1 O1 fun b O2 => if b = true then te g1 O2 fun y O3 => acc.length < sizeLine ∧ N (acc ++ [y]) O3 else N acc O2)
    (hd : ∀ zs O', Cp O O' zs ls → R (zs.map fun z => D.ref z.1) O') : dComp u tt te ok g R (ls.map lfD) [] O := by
  refine comp_ix (fun i acc O' => i ≤ ls.length ∧ ∃ zs, acc = zs.map (fun z : Addr × List PI => D.ref z.1) ∧ Cp O O' zs (ls.take i)) ⟨Nat.zero_le _, [], rfl, rfl, Sb.refl O, (fun _ h => nomatch h), List.nodup_nil⟩ (fun _ _ O' h => by obtain ⟨_, zs, _, c⟩ := h; exact hok O' c.s) ?_ ?_
  · rintro i x _ O2 N hx ⟨hi, zs, rfl, c⟩ hN
    rw [List.getElem?_map] at hx
    have hlt : i < ls.length := by
      by_cases h : i < ls.length
      · exact h
      · rw [List.getElem?_eq_none (by omega)] at hx; cases hx
    rw [List.getElem?_eq_getElem hlt] at hx
    cases hx
    have hzl : zs.length ≤ ls.length := by
      have := congrArg List.length c.e
      rw [List.length_map, List.length_take] at this
      omega
    refine hs ls[i] (List.getElem_mem hlt) O2 _ N (by rw [List.length_map, sizeLine_eq]; omega) fun q hq => ?_
    have hqz : ∀ z ∈ zs, z.1 ≠ q := fun z hz e => by
      have := (c.nw z hz).2
      rw [e, hq] at this; cases this
    have e2 : zs.map (fun z : Addr × List PI => D.ref z.1) ++ [.ref q] = (zs ++ [(q, ls[i])]).map fun z : Addr × List PI => D.ref z.1 := by rw [List.map_append]; rfl
    rw [e2]
    refine hN _ _ ⟨by omega, _, rfl, ?_, c.s.up (c.s.none hq), fun z hz => ?_, ?_⟩
    · rw [List.map_append, c.e, List.take_succ, List.getElem?_eq_getElem hlt]; rfl
    · rcases List.mem_append.mp hz with hz | hz
      · exact ⟨(c.nw z hz).1, by rw [up_ne (hqz z hz)]; exact (c.nw z hz).2⟩
      · rw [List.mem_singleton.mp hz]
        exact ⟨c.s.none hq, up_same⟩
    · rw [List.map_append]
      refine List.nodup_append.mpr ⟨c.nd, by simp, fun a ha b hb e => ?_⟩
      obtain ⟨z, hz, rfl⟩ := List.mem_map.mp ha
      rw [List.map_cons, List.map_nil] at hb
      exact hqz z hz (by rw [e]; exact List.mem_singleton.mp hb)
  · rintro acc O' ⟨_, zs, rfl, c⟩
    rw [List.length_map, List.take_length] at c
    exact hd zs O' c
def t_Layout_pagesO (tb : Tb) : DS :=
  (dRet (dLc (dSeqI (dFld tb.Layout "sheets" (dVar 0))) (gN 1) dYes (dCB dList (dCons (dVar 1) dNil)) [1]))
def n_Layout_pages : List Str := ["self", "page"]
def sp_Layout_pages (tb : Tb) : DSp := fun xs O R _ => ∃ (a dx r : Addr) (ls : List (List PI)), xs = [.ref a] ∧ LyAt tb O a dx r ls ∧ ls.length ≤ 1000 ∧ ∀ p (zs : List (Addr × List PI)) O', Cp O O' zs ls → O p = none → (∀ z ∈ zs, z.1 ≠ p) → O' p = some (.lst (zs.map fun z => D.ref z.1)) → R (.ref p) O'
theorem d_Layout_pages (tb : Tb) : ∀ xs O R Z, sp_Layout_pages tb xs O R Z → t_Layout_pagesO tb (ends R) (startD n_Layout_pages xs) O := by
  rintro _ O R Z ⟨a, dx, r, ls, rfl, hL, hl, k⟩
  show t_Layout_pagesO tb (ends R) [some (.ref a), none] O
  unfold t_Layout_pagesO
  simp only [dIfS, dAndT, dOrT, dNotT, dTest, dTruth, dTru, dAndV, dOrV, dNotV, dIf, dOp, dUn, dVar, dC, dI, dIc, dAdd, dSub, dMul, dFd, dMod, dPow, dNeg, dLt, dLe, dGt, dGe, dIsN, dNotN, DL.isNon, ix_pR0, ix_pR1, ix_tup, ix_lst, ix_ref, dSl, dPart, dNoPart, dCB, len_tup, len_lst, len_ref, dAbs, dList, dTuple, dBls, dSum, dIsi, dIsi2, dtOf, isC, seqOf, lstOf, dCons, dNil, dTup, dLst, dRet, dRetN, dNext, dDrop, dAsg, gN, gsNil, gsCons, gT, gSubD, dSetL, dPar, dAug, dIpAdd, dIpSub, dCall, eq_int, eq_str, eq_bl, ne_int, ne_str, ne_bl, eq_pR, ne_pR, plus_eq, less_eq, times_eq, over_eq, floor_eq, ceil_eq, part_eq, below_eq, seq_pR, pick_nil, pick_p, pick_k, pick_d, dBreak, dCont, dLM, dLM0, isL, dAppend, dInsert, dPop, dPopAt, dRevL, dStr, dFmt, dJs, dMax2, dMin2, dSorted, dNewK, dctOf, dGetK, dHasK, DL.keyOf, dPutK, dDelK, dSortedD, dSet, dLstF, dRevF, dSlF, dListF, dSortedF, dSortedDF, dMaxF, dMinF, dInS, dLtA, dNewT, dGetT, dHasT, dctT, tkOf, keysOf, dTupP, dPutT, dPutP, putTk, pkOf, dSortedTF, dGet1, dGet2, dGet2T, dDisp1, dRep, dInt, dBits, dExtend, dReverse, dMaxDf, dCat, dCatF, dExtL, dDcT, Option.isSome_some, List.getElem?_cons_zero, List.getElem?_cons_succ, List.set_cons_zero, List.set_cons_succ, atI_0, atI_1, atI_2, atI_3, atI_4, atI_5, ixN_0, ixN_1, ixN_2, ixN_3, ixN_4, ixN_5, up_same, List.length_cons, List.length_nil, Bool.not_true, Bool.not_false, Bool.false_eq_true, if_true, if_false, reduceIte, dFor, dRng1, dRng2, dRng3, dSeqI, dEnum, dEnumA, dZip, dLc, dLcF, wipeD, dFld, hL.xS, hL.sh]
  refine comp_copies (fun O' s => s _ _ hL.sh) hl (fun l hm O2 acc N hacc hN => ?_) fun zs O' c p hp => ?_
  · simp only [dIfS, dAndT, dOrT, dNotT, dTest, dTruth, dTru, dAndV, dOrV, dNotV, dIf, dOp, dUn, dVar, dC, dI, dIc, dAdd, dSub, dMul, dFd, dMod, dPow, dNeg, dLt, dLe, dGt, dGe, dIsN, dNotN, DL.isNon, ix_pR0, ix_pR1, ix_tup, ix_lst, ix_ref, dSl, dPart, dNoPart, dCB, len_tup, len_lst, len_ref, dAbs, dList, dTuple, dBls, dSum, dIsi, dIsi2, dtOf, isC, seqOf, lstOf, dCons, dNil, dTup, dLst, dRet, dRetN, dNext, dDrop, dAsg, gN, gsNil, gsCons, gT, gSubD, dSetL, dPar, dAug, dIpAdd, dIpSub, dCall, eq_int, eq_str, eq_bl, ne_int, ne_str, ne_bl, eq_pR, ne_pR, plus_eq, less_eq, times_eq, over_eq, floor_eq, ceil_eq, part_eq, below_eq, seq_pR, pick_nil, pick_p, pick_k, pick_d, dBreak, dCont, dLM, dLM0, isL, dAppend, dInsert, dPop, dPopAt, dRevL, dStr, dFmt, dJs, dMax2, dMin2, dSorted, dNewK, dctOf, dGetK, dHasK, DL.keyOf, dPutK, dDelK, dSortedD, dSet, dLstF, dRevF, dSlF, dListF, dSortedF, dSortedDF, dMaxF, dMinF, dInS, dLtA, dNewT, dGetT, dHasT, dctT, tkOf, keysOf, dTupP, dPutT, dPutP, putTk, pkOf, dSortedTF, dGet1, dGet2, dGet2T, dDisp1, dRep, dInt, dBits, dExtend, dReverse, dMaxDf, dCat, dCatF, dExtL, dDcT, Option.isSome_some, List.getElem?_cons_zero, List.getElem?_cons_succ, List.set_cons_zero, List.set_cons_succ, atI_0, atI_1, atI_2, atI_3, atI_4, atI_5, ixN_0, ixN_1, ixN_2, ixN_3, ixN_4, ixN_5, up_same, List.length_cons, List.length_nil, Bool.not_true, Bool.not_false, Bool.false_eq_true, if_true, if_false, reduceIte, dYes, lfD]
    exact fun q hq => ⟨hacc, hN q hq⟩
  have hzp : ∀ z ∈ zs, z.1 ≠ p := fun z hz e => by
    have := (c.nw z hz).2
    rw [e, hp] at this; cases this
  exact Fin.here (k p zs _ ⟨c.e, c.s.up (c.s.none hp), fun z hz => ⟨(c.nw z hz).1, by rw [up_ne (hzp z hz)]; exact (c.nw z hz).2⟩, c.nd⟩ (c.s.none hp) hzp up_same)
def t_Layout_linesO (tb : Tb) : DS :=
  (dRet (dLc2 (dSeqI (dFld tb.Layout "sheets" (dVar 0))) (gN 1) dYes (dSeqI (dVar 1)) (gN 2) dYes (dVar 2) [1, 2] [2]))
def n_Layout_lines : List Str := ["self", "page", "line"]
def sp_Layout_lines (tb : Tb) : DSp := fun xs O R _ => ∃ (a dx r : Addr) (ls : List (List PI)), xs = [.ref a] ∧ LyAt tb O a dx r ls ∧ GLv ls ∧ ∀ p, O p = none → R (.ref p) (DL.up O p (.lst (ls.flatten.map pqD)))
theorem d_Layout_lines (tb : Tb) : ∀ xs O R Z, sp_Layout_lines tb xs O R Z → t_Layout_linesO tb (ends R) (startD n_Layout_lines xs) O := by
  rintro _ O R Z ⟨a, dx, r, ls, rfl, hL, hG, k⟩
  show t_Layout_linesO tb (ends R) [some (.ref a), none, none] O
  unfold t_Layout_linesO
  have efl : ls.flatMap (fun p => p.map pqD) = ls.flatten.map pqD := by rw [← List.flatMap_id, List.map_flatMap]; rfl
  have hfl := hG.flat
  simp only [dIfS, dAndT, dOrT, dNotT, dTest, dTruth, dTru, dAndV, dOrV, dNotV, dIf, dOp, dUn, dVar, dC, dI, dIc, dAdd, dSub, dMul, dFd, dMod, dPow, dNeg, dLt, dLe, dGt, dGe, dIsN, dNotN, DL.isNon, ix_pR0, ix_pR1, ix_tup, ix_lst, ix_ref, dSl, dPart, dNoPart, dCB, len_tup, len_lst, len_ref, dAbs, dList, dTuple, dBls, dSum, dIsi, dIsi2, dtOf, isC, seqOf, lstOf, dCons, dNil, dTup, dLst, dRet, dRetN, dNext, dDrop, dAsg, gN, gsNil, gsCons, gT, gSubD, dSetL, dPar, dAug, dIpAdd, dIpSub, dCall, eq_int, eq_str, eq_bl, ne_int, ne_str, ne_bl, eq_pR, ne_pR, plus_eq, less_eq, times_eq, over_eq, floor_eq, ceil_eq, part_eq, below_eq, seq_pR, pick_nil, pick_p, pick_k, pick_d, dBreak, dCont, dLM, dLM0, isL, dAppend, dInsert, dPop, dPopAt, dRevL, dStr, dFmt, dJs, dMax2, dMin2, dSorted, dNewK, dctOf, dGetK, dHasK, DL.keyOf, dPutK, dDelK, dSortedD, dSet, dLstF, dRevF, dSlF, dListF, dSortedF, dSortedDF, dMaxF, dMinF, dInS, dLtA, dNewT, dGetT, dHasT, dctT, tkOf, keysOf, dTupP, dPutT, dPutP, putTk, pkOf, dSortedTF, dGet1, dGet2, dGet2T, dDisp1, dRep, dInt, dBits, dExtend, dReverse, dMaxDf, dCat, dCatF, dExtL, dDcT, Option.isSome_some, List.getElem?_cons_zero, List.getElem?_cons_succ, List.set_cons_zero, List.set_cons_succ, atI_0, atI_1, atI_2, atI_3, atI_4, atI_5, ixN_0, ixN_1, ixN_2, ixN_3, ixN_4, ixN_5, up_same, List.length_cons, List.length_nil, Bool.not_true, Bool.not_false, Bool.false_eq_true, if_true, if_false, reduceIte, dFor, dRng1, dRng2, dRng3, dSeqI, dEnum, dEnumA, dZip, dLc, dLcF, wipeD, dFld, hL.xS, hL.sh, dLc2]
  refine comp2_len (f := lfD) (fun p => p.map pqD) hL.sh (fun q hq N2 acc hacc hN2 => ?_) ?_
  · simp only [dIfS, dAndT, dOrT, dNotT, dTest, dTruth, dTru, dAndV, dOrV, dNotV, dIf, dOp, dUn, dVar, dC, dI, dIc, dAdd, dSub, dMul, dFd, dMod, dPow, dNeg, dLt, dLe, dGt, dGe, dIsN, dNotN, DL.isNon, ix_pR0, ix_pR1, ix_tup, ix_lst, ix_ref, dSl, dPart, dNoPart, dCB, len_tup, len_lst, len_ref, dAbs, dList, dTuple, dBls, dSum, dIsi, dIsi2, dtOf, isC, seqOf, lstOf, dCons, dNil, dTup, dLst, dRet, dRetN, dNext, dDrop, dAsg, gN, gsNil, gsCons, gT, gSubD, dSetL, dPar, dAug, dIpAdd, dIpSub, dCall, eq_int, eq_str, eq_bl, ne_int, ne_str, ne_bl, eq_pR, ne_pR, plus_eq, less_eq, times_eq, over_eq, floor_eq, ceil_eq, part_eq, below_eq, seq_pR, pick_nil, pick_p, pick_k, pick_d, dBreak, dCont, dLM, dLM0, isL, dAppend, dInsert, dPop, dPopAt, dRevL, dStr, dFmt, dJs, dMax2, dMin2, dSorted, dNewK, dctOf, dGetK, dHasK, DL.keyOf, dPutK, dDelK, dSortedD, dSet, dLstF, dRevF, dSlF, dListF, dSortedF, dSortedDF, dMaxF, dMinF, dInS, dLtA, dNewT, dGetT, dHasT, dctT, tkOf, keysOf, dTupP, dPutT, dPutP, putTk, pkOf, dSortedTF, dGet1, dGet2, dGet2T, dDisp1, dRep, dInt, dBits, dExtend, dReverse, dMaxDf, dCat, dCatF, dExtL, dDcT, Option.isSome_some, List.getElem?_cons_zero, List.getElem?_cons_succ, List.set_cons_zero, List.set_cons_succ, atI_0, atI_1, atI_2, atI_3, atI_4, atI_5, ixN_0, ixN_1, ixN_2, ixN_3, ixN_4, ixN_5, up_same, List.length_cons, List.length_nil, Bool.not_true, Bool.not_false, Bool.false_eq_true, if_true, if_false, reduceIte, dFor, dRng1, dRng2, dRng3, dSeqI, dEnum, dEnumA, dZip, dLc, dLcF, wipeD, dYes, lfD]
    rw [efl, List.length_map (as := ls.flatten)] at hacc
    rw [List.length_map] at hacc
    refine comp_more (f := pqD) (fun _ => true) pqD True.intro (by omega) (fun x hx N3 acc3 h3 y1 y2 => ?_) (by rw [List.filter_eq_self.mpr (fun _ _ => rfl)]; exact hN2)
    simp only [dIfS, dAndT, dOrT, dNotT, dTest, dTruth, dTru, dAndV, dOrV, dNotV, dIf, dOp, dUn, dVar, dC, dI, dIc, dAdd, dSub, dMul, dFd, dMod, dPow, dNeg, dLt, dLe, dGt, dGe, dIsN, dNotN, DL.isNon, ix_pR0, ix_pR1, ix_tup, ix_lst, ix_ref, dSl, dPart, dNoPart, dCB, len_tup, len_lst, len_ref, dAbs, dList, dTuple, dBls, dSum, dIsi, dIsi2, dtOf, isC, seqOf, lstOf, dCons, dNil, dTup, dLst, dRet, dRetN, dNext, dDrop, dAsg, gN, gsNil, gsCons, gT, gSubD, dSetL, dPar, dAug, dIpAdd, dIpSub, dCall, eq_int, eq_str, eq_bl, ne_int, ne_str, ne_bl, eq_pR, ne_pR, plus_eq, less_eq, times_eq, over_eq, floor_eq, ceil_eq, part_eq, below_eq, seq_pR, pick_nil, pick_p, pick_k, pick_d, dBreak, dCont, dLM, dLM0, isL, dAppend, dInsert, dPop, dPopAt, dRevL, dStr, dFmt, dJs, dMax2, dMin2, dSorted, dNewK, dctOf, dGetK, dHasK, DL.keyOf, dPutK, dDelK, dSortedD, dSet, dLstF, dRevF, dSlF, dListF, dSortedF, dSortedDF, dMaxF, dMinF, dInS, dLtA, dNewT, dGetT, dHasT, dctT, tkOf, keysOf, dTupP, dPutT, dPutP, putTk, pkOf, dSortedTF, dGet1, dGet2, dGet2T, dDisp1, dRep, dInt, dBits, dExtend, dReverse, dMaxDf, dCat, dCatF, dExtL, dDcT, Option.isSome_some, List.getElem?_cons_zero, List.getElem?_cons_succ, List.set_cons_zero, List.set_cons_succ, atI_0, atI_1, atI_2, atI_3, atI_4, atI_5, ixN_0, ixN_1, ixN_2, ixN_3, ixN_4, ixN_5, up_same, List.length_cons, List.length_nil, Bool.not_true, Bool.not_false, Bool.false_eq_true, if_true, if_false, reduceIte]
    exact ⟨h3, y1 rfl⟩
  rw [efl]
  exact fun p hp => Fin.here (k p hp)
def t_Layout_len (tb : Tb) : DS :=
  (dRet (dCB dLen (dCons (dMethX tb.Layout "lines" (sp_Layout_lines tb) [.p 0] [] (fun _ => (dVar 0)) dNil dNil X0) dNil)))
def n_Layout_len : List Str := ["self"]
def sp_Layout_len (tb : Tb) : DSp := fun xs O R _ => ∃ (a dx r : Addr) (ls : List (List PI)), xs = [.ref a] ∧ LyAt tb O a dx r ls ∧ GLv ls ∧ R (.int (ls.flatten.length : Nat)) O
theorem d_Layout_len (tb : Tb) : ∀ xs O R Z, sp_Layout_len tb xs O R Z → t_Layout_len tb (ends R) (startD n_Layout_len xs) O := by
  rintro _ O R Z ⟨a, dx, r, ls, rfl, hL, hG, k⟩
  show t_Layout_len tb (ends R) [some (.ref a)] O
  unfold t_Layout_len
  simp only [dIfS, dAndT, dOrT, dNotT, dTest, dTruth, dTru, dAndV, dOrV, dNotV, dIf, dOp, dUn, dVar, dC, dI, dIc, dAdd, dSub, dMul, dFd, dMod, dPow, dNeg, dLt, dLe, dGt, dGe, dIsN, dNotN, DL.isNon, ix_pR0, ix_pR1, ix_tup, ix_lst, ix_ref, dSl, dPart, dNoPart, dCB, len_tup, len_lst, len_ref, dAbs, dList, dTuple, dBls, dSum, dIsi, dIsi2, dtOf, isC, seqOf, lstOf, dCons, dNil, dTup, dLst, dRet, dRetN, dNext, dDrop, dAsg, gN, gsNil, gsCons, gT, gSubD, dSetL, dPar, dAug, dIpAdd, dIpSub, dCall, eq_int, eq_str, eq_bl, ne_int, ne_str, ne_bl, eq_pR, ne_pR, plus_eq, less_eq, times_eq, over_eq, floor_eq, ceil_eq, part_eq, below_eq, seq_pR, pick_nil, pick_p, pick_k, pick_d, dBreak, dCont, dLM, dLM0, isL, dAppend, dInsert, dPop, dPopAt, dRevL, dStr, dFmt, dJs, dMax2, dMin2, dSorted, dNewK, dctOf, dGetK, dHasK, DL.keyOf, dPutK, dDelK, dSortedD, dSet, dLstF, dRevF, dSlF, dListF, dSortedF, dSortedDF, dMaxF, dMinF, dInS, dLtA, dNewT, dGetT, dHasT, dctT, tkOf, keysOf, dTupP, dPutT, dPutP, putTk, pkOf, dSortedTF, dGet1, dGet2, dGet2T, dDisp1, dRep, dInt, dBits, dExtend, dReverse, dMaxDf, dCat, dCatF, dExtL, dDcT, Option.isSome_some, List.getElem?_cons_zero, List.getElem?_cons_succ, List.set_cons_zero, List.set_cons_succ, atI_0, atI_1, atI_2, atI_3, atI_4, atI_5, ixN_0, ixN_1, ixN_2, ixN_3, ixN_4, ixN_5, up_same, List.length_cons, List.length_nil, Bool.not_true, Bool.not_false, Bool.false_eq_true, if_true, if_false, reduceIte, dMethX]
  refine ⟨a, dx, _, rfl, hL.ob, ly_lines, a, dx, r, ls, rfl, hL, hG, fun p hp => ?_⟩
  simp only [dIfS, dAndT, dOrT, dNotT, dTest, dTruth, dTru, dAndV, dOrV, dNotV, dIf, dOp, dUn, dVar, dC, dI, dIc, dAdd, dSub, dMul, dFd, dMod, dPow, dNeg, dLt, dLe, dGt, dGe, dIsN, dNotN, DL.isNon, ix_pR0, ix_pR1, ix_tup, ix_lst, ix_ref, dSl, dPart, dNoPart, dCB, len_tup, len_lst, len_ref, dAbs, dList, dTuple, dBls, dSum, dIsi, dIsi2, dtOf, isC, seqOf, lstOf, dCons, dNil, dTup, dLst, dRet, dRetN, dNext, dDrop, dAsg, gN, gsNil, gsCons, gT, gSubD, dSetL, dPar, dAug, dIpAdd, dIpSub, dCall, eq_int, eq_str, eq_bl, ne_int, ne_str, ne_bl, eq_pR, ne_pR, plus_eq, less_eq, times_eq, over_eq, floor_eq, ceil_eq, part_eq, below_eq, seq_pR, pick_nil, pick_p, pick_k, pick_d, dBreak, dCont, dLM, dLM0, isL, dAppend, dInsert, dPop, dPopAt, dRevL, dStr, dFmt, dJs, dMax2, dMin2, dSorted, dNewK, dctOf, dGetK, dHasK, DL.keyOf, dPutK, dDelK, dSortedD, dSet, dLstF, dRevF, dSlF, dListF, dSortedF, dSortedDF, dMaxF, dMinF, dInS, dLtA, dNewT, dGetT, dHasT, dctT, tkOf, keysOf, dTupP, dPutT, dPutP, putTk, pkOf, dSortedTF, dGet1, dGet2, dGet2T, dDisp1, dRep, dInt, dBits, dExtend, dReverse, dMaxDf, dCat, dCatF, dExtL, dDcT, Option.isSome_some, List.getElem?_cons_zero, List.getElem?_cons_succ, List.set_cons_zero, List.set_cons_succ, atI_0, atI_1, atI_2, atI_3, atI_4, atI_5, ixN_0, ixN_1, ixN_2, ixN_3, ixN_4, ixN_5, up_same, List.length_cons, List.length_nil, Bool.not_true, Bool.not_false, Bool.false_eq_true, if_true, if_false, reduceIte, up_same, List.length_map]
  exact (Sb.new hp).fin k
def t_Layout_eq (tb : Tb) : DS :=
  (dRet (dAndV (dUn (dIsO2 tb.Layout) (dVar 1)) (dOp dEq (dFld tb.Layout "sheets" (dVar 0)) (dFld tb.Layout "sheets" (dVar 1)))))
def n_Layout_eq : List Str := ["self", "other"]
/-- what a layout may be compared with -/
def sp_Layout_eq (tb : Tb) : DSp := fun xs O R _ => ∃ (a dx r : Addr) (ls : List (List PI)) (y : D), xs = [.ref a, y] ∧ LyAt tb O a dx r ls ∧ ((∃ c dy q ms, y = .ref c ∧ LyAt tb O c dy q ms ∧ R (.bl (decide (ls = ms))) O) ∨ ((FlD y ∨ ∃ zs, lstOf O y = some zs) ∧ R (.bl false) O))
theorem d_Layout_eq (tb : Tb) : ∀ xs O R Z, sp_Layout_eq tb xs O R Z → t_Layout_eq tb (ends R) (startD n_Layout_eq xs) O := by
  rintro _ O R Z ⟨a, dx, r, ls, y, rfl, hL, h⟩
  show t_Layout_eq tb (ends R) [some (.ref a), some y] O
  unfold t_Layout_eq
  rcases h with ⟨c, dy, q, ms, rfl, hM, k⟩ | ⟨hy, k⟩
  · simp only [dIfS, dAndT, dOrT, dNotT, dTest, dTruth, dTru, dAndV, dOrV, dNotV, dIf, dOp, dUn, dVar, dC, dI, dIc, dAdd, dSub, dMul, dFd, dMod, dPow, dNeg, dLt, dLe, dGt, dGe, dIsN, dNotN, DL.isNon, ix_pR0, ix_pR1, ix_tup, ix_lst, ix_ref, dSl, dPart, dNoPart, dCB, len_tup, len_lst, len_ref, dAbs, dList, dTuple, dBls, dSum, dIsi, dIsi2, dtOf, isC, seqOf, lstOf, dCons, dNil, dTup, dLst, dRet, dRetN, dNext, dDrop, dAsg, gN, gsNil, gsCons, gT, gSubD, dSetL, dPar, dAug, dIpAdd, dIpSub, dCall, eq_int, eq_str, eq_bl, ne_int, ne_str, ne_bl, eq_pR, ne_pR, plus_eq, less_eq, times_eq, over_eq, floor_eq, ceil_eq, part_eq, below_eq, seq_pR, pick_nil, pick_p, pick_k, pick_d, dBreak, dCont, dLM, dLM0, isL, dAppend, dInsert, dPop, dPopAt, dRevL, dStr, dFmt, dJs, dMax2, dMin2, dSorted, dNewK, dctOf, dGetK, dHasK, DL.keyOf, dPutK, dDelK, dSortedD, dSet, dLstF, dRevF, dSlF, dListF, dSortedF, dSortedDF, dMaxF, dMinF, dInS, dLtA, dNewT, dGetT, dHasT, dctT, tkOf, keysOf, dTupP, dPutT, dPutP, putTk, pkOf, dSortedTF, dGet1, dGet2, dGet2T, dDisp1, dRep, dInt, dBits, dExtend, dReverse, dMaxDf, dCat, dCatF, dExtL, dDcT, Option.isSome_some, List.getElem?_cons_zero, List.getElem?_cons_succ, List.set_cons_zero, List.set_cons_succ, atI_0, atI_1, atI_2, atI_3, atI_4, atI_5, ixN_0, ixN_1, ixN_2, ixN_3, ixN_4, ixN_5, up_same, List.length_cons, List.length_nil, Bool.not_true, Bool.not_false, Bool.false_eq_true, if_true, if_false, reduceIte]
    refine .inl ⟨c, dy, _, rfl, hM.ob, ?_⟩
    simp only [dIfS, dAndT, dOrT, dNotT, dTest, dTruth, dTru, dAndV, dOrV, dNotV, dIf, dOp, dUn, dVar, dC, dI, dIc, dAdd, dSub, dMul, dFd, dMod, dPow, dNeg, dLt, dLe, dGt, dGe, dIsN, dNotN, DL.isNon, ix_pR0, ix_pR1, ix_tup, ix_lst, ix_ref, dSl, dPart, dNoPart, dCB, len_tup, len_lst, len_ref, dAbs, dList, dTuple, dBls, dSum, dIsi, dIsi2, dtOf, isC, seqOf, lstOf, dCons, dNil, dTup, dLst, dRet, dRetN, dNext, dDrop, dAsg, gN, gsNil, gsCons, gT, gSubD, dSetL, dPar, dAug, dIpAdd, dIpSub, dCall, eq_int, eq_str, eq_bl, ne_int, ne_str, ne_bl, eq_pR, ne_pR, plus_eq, less_eq, times_eq, over_eq, floor_eq, ceil_eq, part_eq, below_eq, seq_pR, pick_nil, pick_p, pick_k, pick_d, dBreak, dCont, dLM, dLM0, isL, dAppend, dInsert, dPop, dPopAt, dRevL, dStr, dFmt, dJs, dMax2, dMin2, dSorted, dNewK, dctOf, dGetK, dHasK, DL.keyOf, dPutK, dDelK, dSortedD, dSet, dLstF, dRevF, dSlF, dListF, dSortedF, dSortedDF, dMaxF, dMinF, dInS, dLtA, dNewT, dGetT, dHasT, dctT, tkOf, keysOf, dTupP, dPutT, dPutP, putTk, pkOf, dSortedTF, dGet1, dGet2, dGet2T, dDisp1, dRep, dInt, dBits, dExtend, dReverse, dMaxDf, dCat, dCatF, dExtL, dDcT, Option.isSome_some, List.getElem?_cons_zero, List.getElem?_cons_succ, List.set_cons_zero, List.set_cons_succ, atI_0, atI_1, atI_2, atI_3, atI_4, atI_5, ixN_0, ixN_1, ixN_2, ixN_3, ixN_4, ixN_5, up_same, List.length_cons, List.length_nil, Bool.not_true, Bool.not_false, Bool.false_eq_true, if_true, if_false, reduceIte, dFld, hL.xS, hM.xS]
    refine Seen.eqv (n := 3) (m := 3) ((seen_lfs ls).ref hL.sh) ((seen_lfs ms).ref hM.sh) (by decide) (by decide) ?_
    rw [show PyData.eqv (.list (ls.map lfQ)) (.list (ms.map lfQ)) = decide (ls = ms) from eqv_ls ls ms, Bool.bne_false]
    exact Fin.here k
  · simp only [dIfS, dAndT, dOrT, dNotT, dTest, dTruth, dTru, dAndV, dOrV, dNotV, dIf, dOp, dUn, dVar, dC, dI, dIc, dAdd, dSub, dMul, dFd, dMod, dPow, dNeg, dLt, dLe, dGt, dGe, dIsN, dNotN, DL.isNon, ix_pR0, ix_pR1, ix_tup, ix_lst, ix_ref, dSl, dPart, dNoPart, dCB, len_tup, len_lst, len_ref, dAbs, dList, dTuple, dBls, dSum, dIsi, dIsi2, dtOf, isC, seqOf, lstOf, dCons, dNil, dTup, dLst, dRet, dRetN, dNext, dDrop, dAsg, gN, gsNil, gsCons, gT, gSubD, dSetL, dPar, dAug, dIpAdd, dIpSub, dCall, eq_int, eq_str, eq_bl, ne_int, ne_str, ne_bl, eq_pR, ne_pR, plus_eq, less_eq, times_eq, over_eq, floor_eq, ceil_eq, part_eq, below_eq, seq_pR, pick_nil, pick_p, pick_k, pick_d, dBreak, dCont, dLM, dLM0, isL, dAppend, dInsert, dPop, dPopAt, dRevL, dStr, dFmt, dJs, dMax2, dMin2, dSorted, dNewK, dctOf, dGetK, dHasK, DL.keyOf, dPutK, dDelK, dSortedD, dSet, dLstF, dRevF, dSlF, dListF, dSortedF, dSortedDF, dMaxF, dMinF, dInS, dLtA, dNewT, dGetT, dHasT, dctT, tkOf, keysOf, dTupP, dPutT, dPutP, putTk, pkOf, dSortedTF, dGet1, dGet2, dGet2T, dDisp1, dRep, dInt, dBits, dExtend, dReverse, dMaxDf, dCat, dCatF, dExtL, dDcT, Option.isSome_some, List.getElem?_cons_zero, List.getElem?_cons_succ, List.set_cons_zero, List.set_cons_succ, atI_0, atI_1, atI_2, atI_3, atI_4, atI_5, ixN_0, ixN_1, ixN_2, ixN_3, ixN_4, ixN_5, up_same, List.length_cons, List.length_nil, Bool.not_true, Bool.not_false, Bool.false_eq_true, if_true, if_false, reduceIte]
    refine .inr ⟨hy, ?_⟩
    simp only [dIfS, dAndT, dOrT, dNotT, dTest, dTruth, dTru, dAndV, dOrV, dNotV, dIf, dOp, dUn, dVar, dC, dI, dIc, dAdd, dSub, dMul, dFd, dMod, dPow, dNeg, dLt, dLe, dGt, dGe, dIsN, dNotN, DL.isNon, ix_pR0, ix_pR1, ix_tup, ix_lst, ix_ref, dSl, dPart, dNoPart, dCB, len_tup, len_lst, len_ref, dAbs, dList, dTuple, dBls, dSum, dIsi, dIsi2, dtOf, isC, seqOf, lstOf, dCons, dNil, dTup, dLst, dRet, dRetN, dNext, dDrop, dAsg, gN, gsNil, gsCons, gT, gSubD, dSetL, dPar, dAug, dIpAdd, dIpSub, dCall, eq_int, eq_str, eq_bl, ne_int, ne_str, ne_bl, eq_pR, ne_pR, plus_eq, less_eq, times_eq, over_eq, floor_eq, ceil_eq, part_eq, below_eq, seq_pR, pick_nil, pick_p, pick_k, pick_d, dBreak, dCont, dLM, dLM0, isL, dAppend, dInsert, dPop, dPopAt, dRevL, dStr, dFmt, dJs, dMax2, dMin2, dSorted, dNewK, dctOf, dGetK, dHasK, DL.keyOf, dPutK, dDelK, dSortedD, dSet, dLstF, dRevF, dSlF, dListF, dSortedF, dSortedDF, dMaxF, dMinF, dInS, dLtA, dNewT, dGetT, dHasT, dctT, tkOf, keysOf, dTupP, dPutT, dPutP, putTk, pkOf, dSortedTF, dGet1, dGet2, dGet2T, dDisp1, dRep, dInt, dBits, dExtend, dReverse, dMaxDf, dCat, dCatF, dExtL, dDcT, Option.isSome_some, List.getElem?_cons_zero, List.getElem?_cons_succ, List.set_cons_zero, List.set_cons_succ, atI_0, atI_1, atI_2, atI_3, atI_4, atI_5, ixN_0, ixN_1, ixN_2, ixN_3, ixN_4, ixN_5, up_same, List.length_cons, List.length_nil, Bool.not_true, Bool.not_false, Bool.false_eq_true, if_true, if_false, reduceIte]
    exact Fin.here k
end Lw
set_option linter.all false
set_option maxRecDepth 100000
set_option maxHeartbeats 4000000
namespace Lw
open PySem PySem.Spec PyProof.Rows L2 DL
open Evl (Ex)
def iT (i : Int) : Str := Str.ofString (toString i)
def pqT (p : PI) : Str := iT p.1 ++ "-" ++ iT p.2
def lfT (l : List PI) : Str := Txt.join " " (l.map pqT)
def lsT (ls : List (List PI)) : Str := Txt.join " | " (ls.map lfT)
theorem iT_len {i : Int} (h0 : 0 ≤ i) (h1 : i ≤ 12) : (iT i).length ≤ 13 := PyData.shown_int_le2 (i := i) (by omega) (by omega)
theorem pqT_len {p : PI} (h : 0 ≤ p.1 ∧ p.1 ≤ 12 ∧ 0 ≤ p.2 ∧ p.2 ≤ 12) : (pqT p).length ≤ 27 := by
  have h1 := iT_len h.1 h.2.1
  have h2 := iT_len h.2.2.1 h.2.2.2
  unfold pqT
  rw [Str.length_append, Str.length_append]
  have : (("-" : Str)).length = 1 := rfl
  omega
theorem sum_le {xs : List Nat} {m : Nat} (h : ∀ x ∈ xs, x ≤ m) : xs.sum ≤ xs.length * m := by
  induction xs with
  | nil => exact Nat.zero_le _
  | cons x xs ih =>
    have h1 := h x List.mem_cons_self
    have h2 := ih fun y hy => h y (List.mem_cons_of_mem _ hy)
    rw [List.sum_cons, List.length_cons, Nat.succ_mul]
    omega
theorem texts_le {a : Str} {ys : List Str} {m n : Nat} (h : ∀ y ∈ ys, y.length ≤ m) (hl : ys.length ≤ n) : (ys.map (·.length)).sum + ys.length * a.length ≤ n * (m + a.length) := by
  have h1 := sum_le (xs := ys.map (·.length)) (m := m) fun x hx => by obtain ⟨y, hy, rfl⟩ := List.mem_map.mp hx; exact h y hy
  rw [List.length_map] at h1
  have h2 : ys.length * m + ys.length * a.length = ys.length * (m + a.length) := by rw [Nat.mul_add]
  have h3 : ys.length * (m + a.length) ≤ n * (m + a.length) := Nat.mul_le_mul_right _ hl
  omega
theorem lf_fit {l : List PI} (h : l.length ≤ 4 ∧ ∀ p ∈ l, 0 ≤ p.1 ∧ p.1 ≤ 12 ∧ 0 ≤ p.2 ∧ p.2 ≤ 12) : ((l.map pqT).map (·.length)).sum + (l.map pqT).length * (" " : Str).length ≤ 112 := by
  have := texts_le (a := " ") (ys := l.map pqT) (m := 27) (n := 4) (fun y hy => by obtain ⟨p, hp, rfl⟩ := List.mem_map.mp hy; exact pqT_len (h.2 p hp)) (by rw [List.length_map]; exact h.1)
  exact this
theorem lfT_len {l : List PI} (h : l.length ≤ 4 ∧ ∀ p ∈ l, 0 ≤ p.1 ∧ p.1 ≤ 12 ∧ 0 ≤ p.2 ∧ p.2 ≤ 12) : (lfT l).length ≤ 112 := by
  show (Builtin.Str.glued _ _).length ≤ _
  rw [StrLaws.glued_eq_join]
  exact Nat.le_trans (StrLaws.join_length_le _ _) (lf_fit h)
theorem ls_fit {ls : List (List PI)} (h : GLv ls) : ((ls.map lfT).map (·.length)).sum + (ls.map lfT).length * (" | " : Str).length ≤ 575 := by
  have := texts_le (a := " | ") (ys := ls.map lfT) (m := 112) (n := 5) (fun y hy => by obtain ⟨l, hl, rfl⟩ := List.mem_map.mp hy; exact lfT_len (h.all l hl)) (by rw [List.length_map]; exact h.len)
  exact this
theorem log_12 {i : Int} (h0 : 0 ≤ i) (h1 : i ≤ 12) : i.natAbs.log2 < 1920 := by
  have := log2_lt (i := i) (a := 5) (by decide) (by omega)
  omega
theorem strs_map {A : Type} {f : A → Str} {as : List A} : as.map (fun a => D.str (f a)) = (as.map f).map D.str := by rw [List.map_map]; rfl
def t_Layout_str (tb : Tb) : DS :=
  (dRet (dJoin (dC (.str (PySem.Str.ofString " | "))) (dLcF (dSeqI (dFld tb.Layout "sheets" (dVar 0))) (gN 1) dYes (dJoin (dC (.str (PySem.Str.ofString " "))) (dLcF (dSeqI (dVar 1)) (gT 2 (gsCons (gN 2) (gsCons (gN 3) gsNil))) dYes (dJs [(dUn dFmt (dVar 2)), (dC (.str (PySem.Str.ofString "-"))), (dUn dFmt (dVar 3))] Str.empty) [2, 3])) [1])))
def n_Layout_str : List Str := ["self", "page", "first", "behind"]
def sp_Layout_str (tb : Tb) : DSp := fun xs O R _ => ∃ (a dx r : Addr) (ls : List (List PI)), xs = [.ref a] ∧ LyAt tb O a dx r ls ∧ GLv ls ∧ R (.str (lsT ls)) O
theorem d_Layout_str (tb : Tb) : ∀ xs O R Z, sp_Layout_str tb xs O R Z → t_Layout_str tb (ends R) (startD n_Layout_str xs) O := by
  rintro _ O R Z ⟨a, dx, r, ls, rfl, hL, hG, k⟩
  show t_Layout_str tb (ends R) [some (.ref a), none, none, none] O
  unfold t_Layout_str
  simp only [dIfS, dAndT, dOrT, dNotT, dTest, dTruth, dTru, dAndV, dOrV, dNotV, dIf, dOp, dUn, dVar, dC, dI, dIc, dAdd, dSub, dMul, dFd, dMod, dPow, dNeg, dLt, dLe, dGt, dGe, dIsN, dNotN, DL.isNon, ix_pR0, ix_pR1, ix_tup, ix_lst, ix_ref, dSl, dPart, dNoPart, dCB, len_tup, len_lst, len_ref, dAbs, dList, dTuple, dBls, dSum, dIsi, dIsi2, dtOf, isC, seqOf, lstOf, dCons, dNil, dTup, dLst, dRet, dRetN, dNext, dDrop, dAsg, gN, gsNil, gsCons, gT, gSubD, dSetL, dPar, dAug, dIpAdd, dIpSub, dCall, eq_int, eq_str, eq_bl, ne_int, ne_str, ne_bl, eq_pR, ne_pR, plus_eq, less_eq, times_eq, over_eq, floor_eq, ceil_eq, part_eq, below_eq, seq_pR, pick_nil, pick_p, pick_k, pick_d, dBreak, dCont, dLM, dLM0, isL, dAppend, dInsert, dPop, dPopAt, dRevL, dStr, dFmt, dJs, dMax2, dMin2, dSorted, dNewK, dctOf, dGetK, dHasK, DL.keyOf, dPutK, dDelK, dSortedD, dSet, dLstF, dRevF, dSlF, dListF, dSortedF, dSortedDF, dMaxF, dMinF, dInS, dLtA, dNewT, dGetT, dHasT, dctT, tkOf, keysOf, dTupP, dPutT, dPutP, putTk, pkOf, dSortedTF, dGet1, dGet2, dGet2T, dDisp1, dRep, dInt, dBits, dExtend, dReverse, dMaxDf, dCat, dCatF, dExtL, dDcT, Option.isSome_some, List.getElem?_cons_zero, List.getElem?_cons_succ, List.set_cons_zero, List.set_cons_succ, atI_0, atI_1, atI_2, atI_3, atI_4, atI_5, ixN_0, ixN_1, ixN_2, ixN_3, ixN_4, ixN_5, up_same, List.length_cons, List.length_nil, Bool.not_true, Bool.not_false, Bool.false_eq_true, if_true, if_false, reduceIte, dFor, dRng1, dRng2, dRng3, dSeqI, dEnum, dEnumA, dZip, dLc, dLcF, wipeD, dJoin, dFld, hL.xS, hL.sh]
  refine comp_all (f := lfD) (fun l => .str (lfT l)) hL.sh (by have := hG.len; omega) (fun l hl N acc hacc hN => ?_) ?_
  · have hgl := hG.all l hl
    simp only [dIfS, dAndT, dOrT, dNotT, dTest, dTruth, dTru, dAndV, dOrV, dNotV, dIf, dOp, dUn, dVar, dC, dI, dIc, dAdd, dSub, dMul, dFd, dMod, dPow, dNeg, dLt, dLe, dGt, dGe, dIsN, dNotN, DL.isNon, ix_pR0, ix_pR1, ix_tup, ix_lst, ix_ref, dSl, dPart, dNoPart, dCB, len_tup, len_lst, len_ref, dAbs, dList, dTuple, dBls, dSum, dIsi, dIsi2, dtOf, isC, seqOf, lstOf, dCons, dNil, dTup, dLst, dRet, dRetN, dNext, dDrop, dAsg, gN, gsNil, gsCons, gT, gSubD, dSetL, dPar, dAug, dIpAdd, dIpSub, dCall, eq_int, eq_str, eq_bl, ne_int, ne_str, ne_bl, eq_pR, ne_pR, plus_eq, less_eq, times_eq, over_eq, floor_eq, ceil_eq, part_eq, below_eq, seq_pR, pick_nil, pick_p, pick_k, pick_d, dBreak, dCont, dLM, dLM0, isL, dAppend, dInsert, dPop, dPopAt, dRevL, dStr, dFmt, dJs, dMax2, dMin2, dSorted, dNewK, dctOf, dGetK, dHasK, DL.keyOf, dPutK, dDelK, dSortedD, dSet, dLstF, dRevF, dSlF, dListF, dSortedF, dSortedDF, dMaxF, dMinF, dInS, dLtA, dNewT, dGetT, dHasT, dctT, tkOf, keysOf, dTupP, dPutT, dPutP, putTk, pkOf, dSortedTF, dGet1, dGet2, dGet2T, dDisp1, dRep, dInt, dBits, dExtend, dReverse, dMaxDf, dCat, dCatF, dExtL, dDcT, Option.isSome_some, List.getElem?_cons_zero, List.getElem?_cons_succ, List.set_cons_zero, List.set_cons_succ, atI_0, atI_1, atI_2, atI_3, atI_4, atI_5, ixN_0, ixN_1, ixN_2, ixN_3, ixN_4, ixN_5, up_same, List.length_cons, List.length_nil, Bool.not_true, Bool.not_false, Bool.false_eq_true, if_true, if_false, reduceIte, dFor, dRng1, dRng2, dRng3, dSeqI, dEnum, dEnumA, dZip, dLc, dLcF, wipeD, dYes, lfD, dJoin]
    refine comp_all (f := pqD) (fun p => .str (pqT p)) True.intro (by have := hgl.1; omega) (fun p hp N3 acc3 hacc3 hN3 => ?_) ?_
    · obtain ⟨p0, p1, q0, q1⟩ := hgl.2 p hp
      rw [show pqD p = .tup [.int p.1, .int p.2] from rfl]
      simp only [dIfS, dAndT, dOrT, dNotT, dTest, dTruth, dTru, dAndV, dOrV, dNotV, dIf, dOp, dUn, dVar, dC, dI, dIc, dAdd, dSub, dMul, dFd, dMod, dPow, dNeg, dLt, dLe, dGt, dGe, dIsN, dNotN, DL.isNon, ix_pR0, ix_pR1, ix_tup, ix_lst, ix_ref, dSl, dPart, dNoPart, dCB, len_tup, len_lst, len_ref, dAbs, dList, dTuple, dBls, dSum, dIsi, dIsi2, dtOf, isC, seqOf, lstOf, dCons, dNil, dTup, dLst, dRet, dRetN, dNext, dDrop, dAsg, gN, gsNil, gsCons, gT, gSubD, dSetL, dPar, dAug, dIpAdd, dIpSub, dCall, eq_int, eq_str, eq_bl, ne_int, ne_str, ne_bl, eq_pR, ne_pR, plus_eq, less_eq, times_eq, over_eq, floor_eq, ceil_eq, part_eq, below_eq, seq_pR, pick_nil, pick_p, pick_k, pick_d, dBreak, dCont, dLM, dLM0, isL, dAppend, dInsert, dPop, dPopAt, dRevL, dStr, dFmt, dJs, dMax2, dMin2, dSorted, dNewK, dctOf, dGetK, dHasK, DL.keyOf, dPutK, dDelK, dSortedD, dSet, dLstF, dRevF, dSlF, dListF, dSortedF, dSortedDF, dMaxF, dMinF, dInS, dLtA, dNewT, dGetT, dHasT, dctT, tkOf, keysOf, dTupP, dPutT, dPutP, putTk, pkOf, dSortedTF, dGet1, dGet2, dGet2T, dDisp1, dRep, dInt, dBits, dExtend, dReverse, dMaxDf, dCat, dCatF, dExtL, dDcT, Option.isSome_some, List.getElem?_cons_zero, List.getElem?_cons_succ, List.set_cons_zero, List.set_cons_succ, atI_0, atI_1, atI_2, atI_3, atI_4, atI_5, ixN_0, ixN_1, ixN_2, ixN_3, ixN_4, ixN_5, up_same, List.length_cons, List.length_nil, Bool.not_true, Bool.not_false, Bool.false_eq_true, if_true, if_false, reduceIte, dYes]
      have l1 := iT_len p0 p1
      have l2 := iT_len q0 q1
      have ld : (Str.ofString "-").length = 1 := rfl
      rw [Str.empty_append]
      show True ∧ _ ∧ (iT p.1).length ≤ sizeLine ∧ (iT p.1 ++ Str.ofString "-").length ≤ sizeLine ∧ _ ∧ (iT p.1 ++ Str.ofString "-" ++ iT p.2).length ≤ sizeLine ∧ acc3.length < sizeLine ∧ N3 (acc3 ++ [.str (pqT p)]) O
      refine ⟨True.intro, log_12 p0 p1, by rw [sizeLine_eq]; omega, by rw [Str.length_append, sizeLine_eq]; omega, log_12 q0 q1, by rw [Str.length_append, Str.length_append, sizeLine_eq]; omega, hacc3, hN3⟩
    rw [strs_map]
    exact ⟨" ", l.map pqT, rfl, rfl, Nat.le_trans (lf_fit hgl) (by decide), hacc, hN⟩
  rw [strs_map]
  exact ⟨" | ", ls.map lfT, rfl, rfl, Nat.le_trans (ls_fit hG) (by decide), Fin.here k⟩
theorem pq_shown {p : PI} (h : 0 ≤ p.1 ∧ p.1 ≤ 12 ∧ 0 ≤ p.2 ∧ p.2 ≤ 12) : (pqQ p).showable = true ∧ (pqQ p).intsShort 13 = true ∧ (pqQ p).weight ≤ 100 := by
  have key : ∀ i : Int, 0 ≤ i → i ≤ 12 → (PyData.int i).showable = true ∧ (PyData.int i).intsShort 13 = true ∧ (PyData.int i).weight ≤ 40 := fun i h0 h1 => by
    have h40 : i.natAbs.log2 < 5 := log2_lt (i := i) (a := 5) (by decide) (by omega)
    refine ⟨?_, ?_, ?_⟩
    · rw [PyData.showable, decide_eq_true_iff]; exact log_12 h0 h1
    · rw [PyData.intsShort, decide_eq_true_iff]; exact PyData.shown_int_le2 (by omega) (by omega)
    · rw [PyData.weight]; split <;> omega
  have a1 := key p.1 h.1 h.2.1
  have a2 := key p.2 h.2.2.1 h.2.2.2
  rw [show pqQ p = .tuple [.int p.1, .int p.2] from rfl, PyData.showable, PyData.intsShort, PyData.weight]
  simp only [PyData.showableAll, PyData.intsShortAll, PyData.weightAll, a1.1, a2.1, a1.2.1, a2.2.1, Bool.and_self, true_and]
  have w1 := a1.2.2
  have w2 := a2.2.2
  omega
theorem all_shown {A : Type} {q : A → PyData} {m : Nat} : ∀ {as : List A}, (∀ a ∈ as, (q a).showable = true ∧ (q a).intsShort 13 = true ∧ (q a).weight ≤ m) → PyData.showableAll (as.map q) = true ∧ PyData.intsShortAll 13 (as.map q) = true ∧ PyData.weightAll (as.map q) ≤ as.length * (m + 1)
  | [], _ => ⟨rfl, rfl, Nat.zero_le _⟩
  | a :: as, h => by
    obtain ⟨i1, i2, i3⟩ := all_shown (as := as) fun x hx => h x (List.mem_cons_of_mem _ hx)
    obtain ⟨k1, k2, k3⟩ := h a List.mem_cons_self
    rw [List.map_cons, PyData.showableAll, PyData.intsShortAll, PyData.weightAll, i1, i2, k1, k2, List.length_cons, Nat.succ_mul]
    exact ⟨rfl, rfl, by omega⟩
theorem lf_shown {l : List PI} (h : l.length ≤ 4 ∧ ∀ p ∈ l, 0 ≤ p.1 ∧ p.1 ≤ 12 ∧ 0 ≤ p.2 ∧ p.2 ≤ 12) : (lfQ l).showable = true ∧ (lfQ l).intsShort 13 = true ∧ (lfQ l).weight ≤ 1000 := by
  obtain ⟨i1, i2, i3⟩ := all_shown (q := pqQ) (m := 100) (as := l) fun p hp => pq_shown (h.2 p hp)
  have h4 : l.length * (100 + 1) ≤ 4 * (100 + 1) := Nat.mul_le_mul_right _ h.1
  rw [show lfQ l = .list (l.map pqQ) from rfl, PyData.showable, PyData.intsShort, PyData.weight, i1, i2]
  exact ⟨rfl, rfl, by omega⟩
theorem ls_shown {ls : List (List PI)} (hG : GLv ls) : (lsQ ls).showable = true ∧ (lsQ ls).leavesShort 13 = true ∧ (lsQ ls).weight ≤ 6000 := by
  have hc : (lsQ ls).canLay0 = true := (SeenAll.lst (seen_lfs (O := fun _ => none) ls)).2.1
  obtain ⟨i1, i2, i3⟩ := all_shown (q := lfQ) (m := 1000) (as := ls) fun l hl => lf_shown (hG.all l hl)
  have h5 : ls.length * (1000 + 1) ≤ 5 * (1000 + 1) := Nat.mul_le_mul_right _ hG.len
  refine ⟨by rw [show lsQ ls = .list (ls.map lfQ) from rfl, PyData.showable]; exact i1, PyData.leavesShort_of_canLay0 13 _ hc (by rw [show lsQ ls = .list (ls.map lfQ) from rfl, PyData.intsShort]; exact i2), ?_⟩
  rw [show lsQ ls = .list (ls.map lfQ) from rfl, PyData.weight]
  omega
theorem shown_len {ls : List (List PI)} (hG : GLv ls) : (lsQ ls).shown.length ≤ 16000000 := by
  obtain ⟨_, h2, h3⟩ := ls_shown hG
  have h := PyData.shown_le 13 (by decide) _ h2
  have h4 : (13 + 2) * (lsQ ls).weight ≤ (13 + 2) * 6000 := Nat.mul_le_mul_left _ h3
  omega
theorem shown_ls {O : Om} {R : D → Om → Prop} {y : D} {ls : List (List PI)} (hy : lstOf O y = some (ls.map lfD)) (hG : GLv ls) (r : R (.str (lsQ ls).shown) O) : dRepr [y] O R := by
  have hw : Vw O y (lsQ ls) := by
    rcases lstOf_cases hy with rfl | ⟨a, rfl, ha⟩
    · exact (SeenAll.lst (seen_lfs (O := O) ls)).1
    · exact ((seen_lfs (O := O) ls).ref ha).1
  have hc : (lsQ ls).canLay0 = true := (SeenAll.lst (seen_lfs (O := O) ls)).2.1
  obtain ⟨h1, h2, h3⟩ := ls_shown hG
  exact ⟨_, lsQ ls, hy, hw, h1, PyData.hasDict_of_canLay _ hc, Nat.le_trans (SeenAll.lst (seen_lfs (O := O) ls)).2.2 (by decide), PyData.shown_fits (B := 13) (by decide) (by decide) h2 (Nat.le_trans h3 (by omega)), r⟩
def t_Layout_repr (tb : Tb) : DS :=
  (dRet (dJs [(dC (.str (PySem.Str.ofString "Layout("))), (dUn dFmtL (dFld tb.Layout "sheets" (dVar 0))), (dC (.str (PySem.Str.ofString ")")))] Str.empty))
def n_Layout_repr : List Str := ["self"]
def lyT (ls : List (List PI)) : Str := Str.ofString "Layout(" ++ (lsQ ls).shown ++ Str.ofString ")"
def sp_Layout_repr (tb : Tb) : DSp := fun xs O R _ => ∃ (a dx r : Addr) (ls : List (List PI)), xs = [.ref a] ∧ LyAt tb O a dx r ls ∧ GLv ls ∧ R (.str (lyT ls)) O
theorem d_Layout_repr (tb : Tb) : ∀ xs O R Z, sp_Layout_repr tb xs O R Z → t_Layout_repr tb (ends R) (startD n_Layout_repr xs) O := by
  rintro _ O R Z ⟨a, dx, r, ls, rfl, hL, hG, k⟩
  show t_Layout_repr tb (ends R) [some (.ref a)] O
  unfold t_Layout_repr
  simp only [dIfS, dAndT, dOrT, dNotT, dTest, dTruth, dTru, dAndV, dOrV, dNotV, dIf, dOp, dUn, dVar, dC, dI, dIc, dAdd, dSub, dMul, dFd, dMod, dPow, dNeg, dLt, dLe, dGt, dGe, dIsN, dNotN, DL.isNon, ix_pR0, ix_pR1, ix_tup, ix_lst, ix_ref, dSl, dPart, dNoPart, dCB, len_tup, len_lst, len_ref, dAbs, dList, dTuple, dBls, dSum, dIsi, dIsi2, dtOf, isC, seqOf, lstOf, dCons, dNil, dTup, dLst, dRet, dRetN, dNext, dDrop, dAsg, gN, gsNil, gsCons, gT, gSubD, dSetL, dPar, dAug, dIpAdd, dIpSub, dCall, eq_int, eq_str, eq_bl, ne_int, ne_str, ne_bl, eq_pR, ne_pR, plus_eq, less_eq, times_eq, over_eq, floor_eq, ceil_eq, part_eq, below_eq, seq_pR, pick_nil, pick_p, pick_k, pick_d, dBreak, dCont, dLM, dLM0, isL, dAppend, dInsert, dPop, dPopAt, dRevL, dStr, dFmt, dJs, dMax2, dMin2, dSorted, dNewK, dctOf, dGetK, dHasK, DL.keyOf, dPutK, dDelK, dSortedD, dSet, dLstF, dRevF, dSlF, dListF, dSortedF, dSortedDF, dMaxF, dMinF, dInS, dLtA, dNewT, dGetT, dHasT, dctT, tkOf, keysOf, dTupP, dPutT, dPutP, putTk, pkOf, dSortedTF, dGet1, dGet2, dGet2T, dDisp1, dRep, dInt, dBits, dExtend, dReverse, dMaxDf, dCat, dCatF, dExtL, dDcT, Option.isSome_some, List.getElem?_cons_zero, List.getElem?_cons_succ, List.set_cons_zero, List.set_cons_succ, atI_0, atI_1, atI_2, atI_3, atI_4, atI_5, ixN_0, ixN_1, ixN_2, ixN_3, ixN_4, ixN_5, up_same, List.length_cons, List.length_nil, Bool.not_true, Bool.not_false, Bool.false_eq_true, if_true, if_false, reduceIte, dFld, hL.xS, dFmtL]
  have hsl := shown_len hG
  have l1 : (Str.ofString "Layout(").length = 7 := rfl
  have l2 : (Str.ofString ")").length = 1 := rfl
  rw [Str.empty_append]
  refine ⟨by rw [sizeLine_eq]; omega, shown_ls (lst_ref hL.sh) hG ?_⟩
  refine ⟨by rw [Str.length_append, sizeLine_eq]; omega, by rw [Str.length_append, Str.length_append, sizeLine_eq]; omega, Fin.here k⟩
end Lw
set_option linter.all false
set_option maxRecDepth 100000
set_option maxHeartbeats 4000000
namespace Lw
open PySem PySem.Spec PyProof.Rows L2 DL
open Evl (Ex)
structure Mds (tb : Tb) (O4 O : Om) (a1 d1 r1 a2 d2 r2 : Addr) (ls ms : List (List PI)) : Prop where
  s : Sb O4 O
  m1 : LyAt tb O a1 d1 r1 ls
  m2 : LyAt tb O a2 d2 r2 ms
section
variable {tb : Tb} {O4 O O' : Om} {a1 d1 r1 a2 d2 r2 q : Addr} {ls ms : List (List PI)} {o : DO}
theorem Mds.sb (h : Mds tb O4 O a1 d1 r1 a2 d2 r2 ls ms) (s : Sb O O') : Mds tb O4 O' a1 d1 r1 a2 d2 r2 ls ms := ⟨h.s.trans s, h.m1.sb s, h.m2.sb s⟩
theorem Mds.put (h : Mds tb O4 O a1 d1 r1 a2 d2 r2 ls ms) (hq : O4 q = none) (n : q ≠ a1 ∧ q ≠ r1 ∧ q ≠ a2 ∧ q ≠ r2) : Mds tb O4 (DL.up O q o) a1 d1 r1 a2 d2 r2 ls ms :=
  ⟨h.s.up hq, ⟨by rw [up_ne n.1.symm]; exact h.m1.ob, by rw [up_ne n.2.1.symm]; exact h.m1.sh⟩, ⟨by rw [up_ne n.2.2.1.symm]; exact h.m2.ob, by rw [up_ne n.2.2.2.symm]; exact h.m2.sh⟩⟩
/-- what is new is none of them -/
theorem Mds.off (h : Mds tb O4 O a1 d1 r1 a2 d2 r2 ls ms) (hq : O q = none) : O4 q = none ∧ q ≠ a1 ∧ q ≠ r1 ∧ q ≠ a2 ∧ q ≠ r2 :=
  ⟨h.s.none hq, (fun z => by rw [z, h.m1.ob] at hq; cases hq), (fun z => by rw [z, h.m1.sh] at hq; cases hq), (fun z => by rw [z, h.m2.ob] at hq; cases hq), (fun z => by rw [z, h.m2.sh] at hq; cases hq)⟩
end
theorem GLv.snoc {ls : List (List PI)} (h : GLv ls) (hl : ls.length ≤ 4) : GLv (ls ++ [[]]) := by
  refine ⟨by rw [List.length_append]; simp; omega, fun l hl => ?_⟩
  rcases List.mem_append.mp hl with hl | hl
  · exact h.all l hl
  · rw [List.mem_singleton.mp hl]
    exact ⟨by decide, fun _ h => nomatch h⟩
theorem bag_sb {b : Addr} {O O' : Om} (h : Bag O b) (s : Sb O O') : Bag O' b := by
  obtain ⟨c, cells, pos, rem, seed, cnt, h1, h2, h3⟩ := h
  exact ⟨c, cells, pos, rem, seed, cnt, s _ _ h1, s _ _ h2, h3⟩
theorem eq_rl {O : Om} {R : D → Om → Prop} {p : Addr} {xs : List D} : dEq (.ref p) (.lst xs) O R = dEqD false (.ref p) (.lst xs) O R := rfl
theorem pl_pq {n : Nat} (p : PI) : Pl (n + 1) (pqD p) := Pl.tup (fun y hy => by simp only [List.mem_cons, List.not_mem_nil, or_false] at hy; rcases hy with rfl | rfl <;> exact Pl.int) (by simp)
theorem Sm.ls {O : Om} {n : Nat} {x y : D} {xs ys : List D} (hx : lstOf O x = some xs) (hy : lstOf O y = some ys) (hl : xs.length = ys.length) (h1 : xs.length ≤ 1000000) (h : ∀ (i : Nat) (a b : D), xs[i]? = some a → ys[i]? = some b → Sm O n a b) : Sm O (n + 1) x y := .inr (.inl ⟨xs, ys, hx, hy, hl, h1, h⟩)
theorem Sm.pages {O : Om} {n : Nat} {p q : Addr} {zs : List (Addr × List PI)} {ls : List (List PI)} (hp : O p = some (.lst (zs.map fun z => D.ref z.1))) (hq : O q = some (.lst (ls.map lfD))) (hz : ∀ z ∈ zs, O z.1 = some (.lst (z.2.map pqD))) (e : zs.map (·.2) = ls) (hl : ls.length ≤ 100) (hl2 : ∀ l ∈ ls, l.length ≤ 100) : Sm O (n + 3) (.ref p) (.ref q) := by
  subst e
  rw [List.length_map] at hl
  refine Sm.ls (lst_ref hp) (lst_ref hq) (by rw [List.length_map, List.length_map, List.length_map]) (by rw [List.length_map]; omega) fun i a b ha hb => ?_
  rw [List.getElem?_map] at ha
  rw [List.getElem?_map, List.getElem?_map] at hb
  cases hi : zs[i]? with
  | none => rw [hi] at ha; cases ha
  | some z =>
    rw [hi] at ha hb
    cases ha
    cases hb
    have hzm := List.mem_of_getElem? hi
    refine Sm.ownL (n := n + 1) (hz z hzm) (fun y hy => by obtain ⟨p, _, rfl⟩ := List.mem_map.mp hy; exact pl_pq p) ?_
    have := hl2 z.2 (List.mem_map_of_mem hzm)
    show (z.2.map pqD).length ≤ 1000000
    rw [List.length_map]; omega
def t_law_v24 (tb : Tb) : DS :=
  (dSeq (dSet 1 (dCall sp_law_bag [.p 0] [] (dCons (dVar 0) dNil) dNil))
  (dSeq (dFor (dRng1 (dCons (dC (.int 8)) dNil)) (gN 2) (dSeq (dSet 3 (dCall sp_law_leaves [.p 0] [] (dCons (dVar 1) dNil) dNil))
  (dSeq (dSet 4 (dOp dIx (dLstF (dCons (dFz (dCall sp_law_leaves [.p 0] [] (dCons (dVar 1) dNil) dNil)) (dCons (dLcF (dSeqI (dVar 3)) (gN 8) dYes (dCB dListF (dCons (dVar 8) dNil)) [8]) (dCons (dOp dCatF (dVar 3) (dLstF (dCons (dLstF dNil) dNil))) dNil)))) (dCall sp_law_pull [.p 0, .p 1] [] (dCons (dVar 1) (dCons (dC (.int 3)) dNil)) dNil)))
  (dSeq (dSet 5 (dLc (dSeqI (dVar 3)) (gN 8) dYes (dCB dList (dCons (dVar 8) dNil)) [8]))
  (dSeq (dPar 6 7 (dCons (dMakeX tb.Layout (sp_Layout_init tb) [.p 0, .p 1] [] (dCons (dVar 5) dNil) dNil X0) (dCons (dMakeX tb.Layout (sp_Layout_init tb) [.p 0, .k 0] [] dNil (dCons (dVar 4) dNil) X0) dNil)))
  (dSeq (dFor (dSeqI (dVar 5)) (gN 8) (dDrop (dLM dAppend (dVar 8) (dCons (dTup (dCons (dC (.int 0)) (dCons (dC (.int 0)) dNil))) dNil))))
  (dSeq (dDrop (dLM dAppend (dVar 5) (dCons (dLst dNil) dNil)))
  (dSeq (dSet 9 (dCB dSumL (dCons (dVar 3) (dCons (dLstF dNil) dNil))))
  (dSeq (dFor (dRng1 (dCons (dC (.int 2)) dNil)) (gN 10) (dSeq (dSet 11 (dLst (dCons (dMethX tb.Layout "pages" (sp_Layout_pages tb) [.p 0] [] (fun _ => (dVar 6)) dNil dNil X0) (dCons (dMethX tb.Layout "lines" (sp_Layout_lines tb) [.p 0] [] (fun _ => (dVar 6)) dNil dNil X0) dNil))))
  (dSeq (dIfS (dNotT (dTest (dCall sp_law_same [.p 0, .p 1] [] (dCons (dVar 11) (dCons (dLstF (dCons (dVar 3) (dCons (dVar 9) dNil))) dNil)) dNil))) (dRet (dC (.bl false))) dNext)
  (dSeq (dFor (dSeqI (dOp dIx (dVar 11) (dC (.int 0)))) (gN 8) (dDrop (dLM dAppend (dVar 8) (dCons (dTup (dCons (dC (.int 1)) (dCons (dC (.int 1)) dNil))) dNil))))
  (dSeq (dDrop (dLM0 dReverse (dOp dIx (dVar 11) (dC (.int 0)))))
  (dDrop (dLM dAppend (dOp dIx (dVar 11) (dC (.int 1))) (dCons (dTup (dCons (dC (.int 1)) (dCons (dC (.int 1)) dNil))) dNil))))))))
  (dSeq (dSet 12 (dOp dEq (dVar 3) (dVar 4)))
  (dSeq (dIfS (dNotT (dTest (dCall sp_law_same [.p 0, .p 1] [] (dCons (dLstF (dCons (dOp (dEqO tb.Layout (sp_Layout_eq tb) false) (dVar 6) (dVar 7)) (dCons (dOp (dEqO tb.Layout (sp_Layout_eq tb) true) (dVar 7) (dVar 6)) dNil))) (dCons (dLstF (dCons (dVar 12) (dCons (dNotV (dVar 12)) dNil))) dNil)) dNil))) (dRet (dC (.bl false))) dNext)
  (dSeq (dIfS (dOrT (dTest (dOp (dEqO tb.Layout (sp_Layout_eq tb) false) (dVar 6) (dVar 3))) (dOrT (dTest (dOp (dInO tb.Layout (sp_Layout_eq tb)) (dVar 6) (dLstF (dCons (dC .non) (dCons (dC (.str (PySem.Str.ofString ""))) (dCons (dC (.int 0)) dNil)))))) (dOrT (dTest (dOp (dEqO tb.Layout (sp_Layout_eq tb) false) (dVar 6) (dCB (dStrO tb.Layout (sp_Layout_str tb)) (dCons (dVar 6) dNil)))) (dNotT (dTest (dCall sp_law_same [.p 0, .p 1] [] (dCons (dCB (dLenO tb.Layout (sp_Layout_len tb)) (dCons (dVar 6) dNil)) (dCons (dCB dLen (dCons (dVar 9) dNil)) dNil)) dNil)))))) (dRet (dC (.bl false))) dNext)
  (dSeq (dSet 13 (dLcF (dSeqI (dVar 3)) (gN 8) dYes (dJoin (dC (.str (PySem.Str.ofString " "))) (dLcF (dSeqI (dVar 8)) (gT 2 (gsCons (gN 14) (gsCons (gN 15) gsNil))) dYes (dOp dAdd (dOp dAdd (dCB dStr (dCons (dVar 14) dNil)) (dC (.str (PySem.Str.ofString "-")))) (dCB dStr (dCons (dVar 15) dNil))) [14, 15])) [8]))
  (dSeq (dIfS (dNotT (dTest (dCall sp_law_same [.p 0, .p 1] [] (dCons (dLstF (dCons (dCB (dStrO tb.Layout (sp_Layout_str tb)) (dCons (dVar 6) dNil)) (dCons (dCB (dStrO tb.Layout (sp_Layout_repr tb)) (dCons (dVar 6) dNil)) dNil))) (dCons (dLstF (dCons (dJoin (dC (.str (PySem.Str.ofString " | "))) (dVar 13)) (dCons (dOp dAdd (dOp dAdd (dC (.str (PySem.Str.ofString "Layout("))) (dCB dRepr (dCons (dVar 3) dNil))) (dC (.str (PySem.Str.ofString ")")))) dNil))) dNil)) dNil))) (dRet (dC (.bl false))) dNext)
  (dIfS (dTest (dOp dNe (dCB (dBoolO tb.Layout (sp_Layout_len tb)) (dCons (dVar 6) dNil)) (dOp dNe (dVar 9) (dLstF dNil)))) (dRet (dC (.bl false))) dNext)))))))))))))))
  (dRet (dC (.bl true)))))
def n_law_v24 : List Str := ["_law_script", "_law_bag_here", "_law_again", "_law_leaves_here", "_law_others", "_law_handed", "_law_made", "_law_second", "_law_leaf", "_law_flat", "_law_step", "_law_found", "_law_alike", "_law_texts", "_law_a", "_law_b"]
def sp_law_v24 (tb : Tb) : DSp := fun xs O R _ => ∃ ns : List Int, xs = [.lst (ns.map D.int)] ∧ ns.length ≤ 63 ∧ ∀ O', R (.bl true) O'
theorem end_law_v24 (tb : Tb) : ∀ (ns : List Int) (O : Om) (R : D → Om → Prop) (Z : XD), ns.length ≤ 63 → (∀ O', R (.bl true) O') → sp_law_v24 tb [.lst (ns.map D.int)] O R Z := fun ns O R Z hl h => ⟨ns, rfl, hl, h⟩
theorem d_law_v24 (tb : Tb) : ∀ xs O R Z, sp_law_v24 tb xs O R Z → t_law_v24 tb (ends R) (startD n_law_v24 xs) O := by
  rintro _ O R Z ⟨ns, rfl, hl, k⟩
  show t_law_v24 tb (ends R) [some (.lst (ns.map D.int)), none, none, none, none, none, none, none, none, none, none, none, none, none, none, none] O
  unfold t_law_v24
  refine seq1 fun N hN => ?_; simp only [dIfS, dAndT, dOrT, dNotT, dTest, dTruth, dTru, dAndV, dOrV, dNotV, dIf, dOp, dUn, dVar, dC, dI, dIc, dAdd, dSub, dMul, dFd, dMod, dPow, dNeg, dLt, dLe, dGt, dGe, dEq, dNe, dIsN, dNotN, DL.isNon, dIx, dSl, dPart, dNoPart, dCB, dLen, dAbs, dList, dTuple, dBls, dSum, dIsi, dIsi2, dtOf, isC, seqOf, lstOf, dCons, dNil, dTup, dLst, dRet, dRetN, dNext, dDrop, dAsg, gN, gsNil, gsCons, gT, gSubD, dSetL, dPar, dAug, dIpAdd, dIpSub, dCall, pick_nil, pick_p, pick_k, pick_d, dBreak, dCont, dLM, dLM0, isL, dAppend, dInsert, dPop, dPopAt, dRevL, dStr, dFmt, dJs, dMax2, dMin2, dSorted, dNewK, dctOf, dGetK, dHasK, DL.keyOf, dPutK, dDelK, dSortedD, dSet, dLstF, dRevF, dSlF, dListF, dSortedF, dSortedDF, dMaxF, dMinF, dInS, dLtA, dNewT, dGetT, dHasT, dctT, tkOf, keysOf, dTupP, dPutT, dPutP, putTk, pkOf, dSortedTF, dGet1, dGet2, dGet2T, dDisp1, dRep, dInt, dBits, dExtend, dReverse, dMaxDf, dCat, dCatF, dExtL, dDcT, Option.isSome_some, List.getElem?_cons_zero, List.getElem?_cons_succ, List.set_cons_zero, List.set_cons_succ, atI_0, atI_1, atI_2, atI_3, atI_4, atI_5, ixN_0, ixN_1, ixN_2, ixN_3, ixN_4, ixN_5, up_same, List.length_cons, List.length_nil, Bool.not_true, Bool.not_false, Bool.false_eq_true, if_true, if_false, reduceIte]
  refine ⟨ns, rfl, hl, fun b O1 hb bag s1 => ?_⟩
  subst hN
  refine seq_by (fun g' O' => True) (fun N hN => ?_) ?_
  · refine forC (by decide) (by decide) ?_
    refine loop_ix (fun i g' O' => Bag O' b ∧ ∃ z2 z3 z4 z5 z6 z7 z8 z9 z10 z11 z12 z13 z14 z15, g' = [some (.lst (ns.map D.int)), some (.ref b), z2, z3, z4, z5, z6, z7, z8, z9, z10, z11, z12, z13, z14, z15]) ⟨bag, _, _, _, _, _, _, _, _, _, _, _, _, _, _, rfl⟩ (fun _ _ _ _ => True.intro) ?_ ?_
    · rintro i x _ O2 M hx ⟨bag2, z2, z3, z4, z5, z6, z7, z8, z9, z10, z11, z12, z13, z14, z15, rfl⟩ hM
      obtain ⟨hi, rfl⟩ := rgD_get' hx
      simp only [gN, List.set_cons_succ, List.set_cons_zero]
      refine seq1 fun N hN => ?_; simp only [dIfS, dAndT, dOrT, dNotT, dTest, dTruth, dTru, dAndV, dOrV, dNotV, dIf, dOp, dUn, dVar, dC, dI, dIc, dAdd, dSub, dMul, dFd, dMod, dPow, dNeg, dLt, dLe, dGt, dGe, dIsN, dNotN, DL.isNon, ix_pR0, ix_pR1, ix_tup, ix_lst, ix_ref, dSl, dPart, dNoPart, dCB, len_tup, len_lst, len_ref, dAbs, dList, dTuple, dBls, dSum, dIsi, dIsi2, dtOf, isC, seqOf, lstOf, dCons, dNil, dTup, dLst, dRet, dRetN, dNext, dDrop, dAsg, gN, gsNil, gsCons, gT, gSubD, dSetL, dPar, dAug, dIpAdd, dIpSub, dCall, eq_int, eq_str, eq_bl, ne_int, ne_str, ne_bl, eq_pR, ne_pR, plus_eq, less_eq, times_eq, over_eq, floor_eq, ceil_eq, part_eq, below_eq, seq_pR, pick_nil, pick_p, pick_k, pick_d, dBreak, dCont, dLM, dLM0, isL, dAppend, dInsert, dPop, dPopAt, dRevL, dStr, dFmt, dJs, dMax2, dMin2, dSorted, dNewK, dctOf, dGetK, dHasK, DL.keyOf, dPutK, dDelK, dSortedD, dSet, dLstF, dRevF, dSlF, dListF, dSortedF, dSortedDF, dMaxF, dMinF, dInS, dLtA, dNewT, dGetT, dHasT, dctT, tkOf, keysOf, dTupP, dPutT, dPutP, putTk, pkOf, dSortedTF, dGet1, dGet2, dGet2T, dDisp1, dRep, dInt, dBits, dExtend, dReverse, dMaxDf, dCat, dCatF, dExtL, dDcT, Option.isSome_some, List.getElem?_cons_zero, List.getElem?_cons_succ, List.set_cons_zero, List.set_cons_succ, atI_0, atI_1, atI_2, atI_3, atI_4, atI_5, ixN_0, ixN_1, ixN_2, ixN_3, ixN_4, ixN_5, up_same, List.length_cons, List.length_nil, Bool.not_true, Bool.not_false, Bool.false_eq_true, if_true, if_false, reduceIte]
      refine ⟨b, rfl, bag2, fun p3 ls O3 hp3 hG hl4 h3 s3 => ?_⟩
      subst hN
      have np3 := (bag2.free hp3).1
      have hGl := hG.len
      refine seq_by (fun g' O' => Bst b O3 O' ∧ ∃ ms, GLv ms ∧ g' = [some (.lst (ns.map D.int)), some (.ref b), some (.int (i : Nat)), some (.ref p3), some (.lst (ms.map lfD)), z5, z6, z7, z8, z9, z10, z11, z12, z13, z14, z15]) (fun N2 hN2 => ?_) ?_
      · simp only [dIfS, dAndT, dOrT, dNotT, dTest, dTruth, dTru, dAndV, dOrV, dNotV, dIf, dOp, dUn, dVar, dC, dI, dIc, dAdd, dSub, dMul, dFd, dMod, dPow, dNeg, dLt, dLe, dGt, dGe, dIsN, dNotN, DL.isNon, ix_pR0, ix_pR1, ix_tup, ix_lst, ix_ref, dSl, dPart, dNoPart, dCB, len_tup, len_lst, len_ref, dAbs, dList, dTuple, dBls, dSum, dIsi, dIsi2, dtOf, isC, seqOf, lstOf, dCons, dNil, dTup, dLst, dRet, dRetN, dNext, dDrop, dAsg, gN, gsNil, gsCons, gT, gSubD, dSetL, dPar, dAug, dIpAdd, dIpSub, dCall, eq_int, eq_str, eq_bl, ne_int, ne_str, ne_bl, eq_pR, ne_pR, plus_eq, less_eq, times_eq, over_eq, floor_eq, ceil_eq, part_eq, below_eq, seq_pR, pick_nil, pick_p, pick_k, pick_d, dBreak, dCont, dLM, dLM0, isL, dAppend, dInsert, dPop, dPopAt, dRevL, dStr, dFmt, dJs, dMax2, dMin2, dSorted, dNewK, dctOf, dGetK, dHasK, DL.keyOf, dPutK, dDelK, dSortedD, dSet, dLstF, dRevF, dSlF, dListF, dSortedF, dSortedDF, dMaxF, dMinF, dInS, dLtA, dNewT, dGetT, dHasT, dctT, tkOf, keysOf, dTupP, dPutT, dPutP, putTk, pkOf, dSortedTF, dGet1, dGet2, dGet2T, dDisp1, dRep, dInt, dBits, dExtend, dReverse, dMaxDf, dCat, dCatF, dExtL, dDcT, Option.isSome_some, List.getElem?_cons_zero, List.getElem?_cons_succ, List.set_cons_zero, List.set_cons_succ, atI_0, atI_1, atI_2, atI_3, atI_4, atI_5, ixN_0, ixN_1, ixN_2, ixN_3, ixN_4, ixN_5, up_same, List.length_cons, List.length_nil, Bool.not_true, Bool.not_false, Bool.false_eq_true, if_true, if_false, reduceIte, dFor, dRng1, dRng2, dRng3, dSeqI, dEnum, dEnumA, dZip, dLc, dLcF, wipeD, dFz]
        refine ⟨b, rfl, s3.1, fun p ks O4 hp hK hk4 h4 s4 => fz_ref h4 ?_⟩
        have s4' := s4.del s3.1 hp
        have h34 : DL.del O4 p p3 = some (.lst (ls.map lfD)) := s4'.2 _ _ np3 h3
        generalize DL.del O4 p = O5 at *
        simp only [dIfS, dAndT, dOrT, dNotT, dTest, dTruth, dTru, dAndV, dOrV, dNotV, dIf, dOp, dUn, dVar, dC, dI, dIc, dAdd, dSub, dMul, dFd, dMod, dPow, dNeg, dLt, dLe, dGt, dGe, dIsN, dNotN, DL.isNon, ix_pR0, ix_pR1, ix_tup, ix_lst, ix_ref, dSl, dPart, dNoPart, dCB, len_tup, len_lst, len_ref, dAbs, dList, dTuple, dBls, dSum, dIsi, dIsi2, dtOf, isC, seqOf, lstOf, dCons, dNil, dTup, dLst, dRet, dRetN, dNext, dDrop, dAsg, gN, gsNil, gsCons, gT, gSubD, dSetL, dPar, dAug, dIpAdd, dIpSub, dCall, eq_int, eq_str, eq_bl, ne_int, ne_str, ne_bl, eq_pR, ne_pR, plus_eq, less_eq, times_eq, over_eq, floor_eq, ceil_eq, part_eq, below_eq, seq_pR, pick_nil, pick_p, pick_k, pick_d, dBreak, dCont, dLM, dLM0, isL, dAppend, dInsert, dPop, dPopAt, dRevL, dStr, dFmt, dJs, dMax2, dMin2, dSorted, dNewK, dctOf, dGetK, dHasK, DL.keyOf, dPutK, dDelK, dSortedD, dSet, dLstF, dRevF, dSlF, dListF, dSortedF, dSortedDF, dMaxF, dMinF, dInS, dLtA, dNewT, dGetT, dHasT, dctT, tkOf, keysOf, dTupP, dPutT, dPutP, putTk, pkOf, dSortedTF, dGet1, dGet2, dGet2T, dDisp1, dRep, dInt, dBits, dExtend, dReverse, dMaxDf, dCat, dCatF, dExtL, dDcT, Option.isSome_some, List.getElem?_cons_zero, List.getElem?_cons_succ, List.set_cons_zero, List.set_cons_succ, atI_0, atI_1, atI_2, atI_3, atI_4, atI_5, ixN_0, ixN_1, ixN_2, ixN_3, ixN_4, ixN_5, up_same, List.length_cons, List.length_nil, Bool.not_true, Bool.not_false, Bool.false_eq_true, if_true, if_false, reduceIte, dFor, dRng1, dRng2, dRng3, dSeqI, dEnum, dEnumA, dZip, dLc, dLcF, wipeD, h34]
        refine comp_all (f := lfD) lfD h34 (by omega) (fun l hl N acc hacc hN => ?_) ?_
        · simp only [dIfS, dAndT, dOrT, dNotT, dTest, dTruth, dTru, dAndV, dOrV, dNotV, dIf, dOp, dUn, dVar, dC, dI, dIc, dAdd, dSub, dMul, dFd, dMod, dPow, dNeg, dLt, dLe, dGt, dGe, dIsN, dNotN, DL.isNon, ix_pR0, ix_pR1, ix_tup, ix_lst, ix_ref, dSl, dPart, dNoPart, dCB, len_tup, len_lst, len_ref, dAbs, dList, dTuple, dBls, dSum, dIsi, dIsi2, dtOf, isC, seqOf, lstOf, dCons, dNil, dTup, dLst, dRet, dRetN, dNext, dDrop, dAsg, gN, gsNil, gsCons, gT, gSubD, dSetL, dPar, dAug, dIpAdd, dIpSub, dCall, eq_int, eq_str, eq_bl, ne_int, ne_str, ne_bl, eq_pR, ne_pR, plus_eq, less_eq, times_eq, over_eq, floor_eq, ceil_eq, part_eq, below_eq, seq_pR, pick_nil, pick_p, pick_k, pick_d, dBreak, dCont, dLM, dLM0, isL, dAppend, dInsert, dPop, dPopAt, dRevL, dStr, dFmt, dJs, dMax2, dMin2, dSorted, dNewK, dctOf, dGetK, dHasK, DL.keyOf, dPutK, dDelK, dSortedD, dSet, dLstF, dRevF, dSlF, dListF, dSortedF, dSortedDF, dMaxF, dMinF, dInS, dLtA, dNewT, dGetT, dHasT, dctT, tkOf, keysOf, dTupP, dPutT, dPutP, putTk, pkOf, dSortedTF, dGet1, dGet2, dGet2T, dDisp1, dRep, dInt, dBits, dExtend, dReverse, dMaxDf, dCat, dCatF, dExtL, dDcT, Option.isSome_some, List.getElem?_cons_zero, List.getElem?_cons_succ, List.set_cons_zero, List.set_cons_succ, atI_0, atI_1, atI_2, atI_3, atI_4, atI_5, ixN_0, ixN_1, ixN_2, ixN_3, ixN_4, ixN_5, up_same, List.length_cons, List.length_nil, Bool.not_true, Bool.not_false, Bool.false_eq_true, if_true, if_false, reduceIte, dYes, lfD]
          exact ⟨hacc, hN⟩
        simp only [dIfS, dAndT, dOrT, dNotT, dTest, dTruth, dTru, dAndV, dOrV, dNotV, dIf, dOp, dUn, dVar, dC, dI, dIc, dAdd, dSub, dMul, dFd, dMod, dPow, dNeg, dLt, dLe, dGt, dGe, dIsN, dNotN, DL.isNon, ix_pR0, ix_pR1, ix_tup, ix_lst, ix_ref, dSl, dPart, dNoPart, dCB, len_tup, len_lst, len_ref, dAbs, dList, dTuple, dBls, dSum, dIsi, dIsi2, dtOf, isC, seqOf, lstOf, dCons, dNil, dTup, dLst, dRet, dRetN, dNext, dDrop, dAsg, gN, gsNil, gsCons, gT, gSubD, dSetL, dPar, dAug, dIpAdd, dIpSub, dCall, eq_int, eq_str, eq_bl, ne_int, ne_str, ne_bl, eq_pR, ne_pR, plus_eq, less_eq, times_eq, over_eq, floor_eq, ceil_eq, part_eq, below_eq, seq_pR, pick_nil, pick_p, pick_k, pick_d, dBreak, dCont, dLM, dLM0, isL, dAppend, dInsert, dPop, dPopAt, dRevL, dStr, dFmt, dJs, dMax2, dMin2, dSorted, dNewK, dctOf, dGetK, dHasK, DL.keyOf, dPutK, dDelK, dSortedD, dSet, dLstF, dRevF, dSlF, dListF, dSortedF, dSortedDF, dMaxF, dMinF, dInS, dLtA, dNewT, dGetT, dHasT, dctT, tkOf, keysOf, dTupP, dPutT, dPutP, putTk, pkOf, dSortedTF, dGet1, dGet2, dGet2T, dDisp1, dRep, dInt, dBits, dExtend, dReverse, dMaxDf, dCat, dCatF, dExtL, dDcT, Option.isSome_some, List.getElem?_cons_zero, List.getElem?_cons_succ, List.set_cons_zero, List.set_cons_succ, atI_0, atI_1, atI_2, atI_3, atI_4, atI_5, ixN_0, ixN_1, ixN_2, ixN_3, ixN_4, ixN_5, up_same, List.length_cons, List.length_nil, Bool.not_true, Bool.not_false, Bool.false_eq_true, if_true, if_false, reduceIte, h34]
        refine ⟨by rw [List.length_map, sizeLine_eq]; omega, b, 3, rfl, by decide, by decide, s4'.1, fun v O6 v0 v1 s6 => ?_⟩
        rw [show List.map lfD ls ++ [D.lst []] = (ls ++ [[]]).map lfD from by rw [List.map_append]; rfl]
        have hv : v = 0 ∨ v = 1 ∨ v = 2 := by omega
        rcases hv with rfl | rfl | rfl
        · simp only [dIfS, dAndT, dOrT, dNotT, dTest, dTruth, dTru, dAndV, dOrV, dNotV, dIf, dOp, dUn, dVar, dC, dI, dIc, dAdd, dSub, dMul, dFd, dMod, dPow, dNeg, dLt, dLe, dGt, dGe, dIsN, dNotN, DL.isNon, ix_pR0, ix_pR1, ix_tup, ix_lst, ix_ref, dSl, dPart, dNoPart, dCB, len_tup, len_lst, len_ref, dAbs, dList, dTuple, dBls, dSum, dIsi, dIsi2, dtOf, isC, seqOf, lstOf, dCons, dNil, dTup, dLst, dRet, dRetN, dNext, dDrop, dAsg, gN, gsNil, gsCons, gT, gSubD, dSetL, dPar, dAug, dIpAdd, dIpSub, dCall, eq_int, eq_str, eq_bl, ne_int, ne_str, ne_bl, eq_pR, ne_pR, plus_eq, less_eq, times_eq, over_eq, floor_eq, ceil_eq, part_eq, below_eq, seq_pR, pick_nil, pick_p, pick_k, pick_d, dBreak, dCont, dLM, dLM0, isL, dAppend, dInsert, dPop, dPopAt, dRevL, dStr, dFmt, dJs, dMax2, dMin2, dSorted, dNewK, dctOf, dGetK, dHasK, DL.keyOf, dPutK, dDelK, dSortedD, dSet, dLstF, dRevF, dSlF, dListF, dSortedF, dSortedDF, dMaxF, dMinF, dInS, dLtA, dNewT, dGetT, dHasT, dctT, tkOf, keysOf, dTupP, dPutT, dPutP, putTk, pkOf, dSortedTF, dGet1, dGet2, dGet2T, dDisp1, dRep, dInt, dBits, dExtend, dReverse, dMaxDf, dCat, dCatF, dExtL, dDcT, Option.isSome_some, List.getElem?_cons_zero, List.getElem?_cons_succ, List.set_cons_zero, List.set_cons_succ, atI_0, atI_1, atI_2, atI_3, atI_4, atI_5, ixN_0, ixN_1, ixN_2, ixN_3, ixN_4, ixN_5, up_same, List.length_cons, List.length_nil, Bool.not_true, Bool.not_false, Bool.false_eq_true, if_true, if_false, reduceIte]
          exact hN2 _ _ ⟨s4'.trans s6, ks, hK, rfl⟩
        · simp only [dIfS, dAndT, dOrT, dNotT, dTest, dTruth, dTru, dAndV, dOrV, dNotV, dIf, dOp, dUn, dVar, dC, dI, dIc, dAdd, dSub, dMul, dFd, dMod, dPow, dNeg, dLt, dLe, dGt, dGe, dIsN, dNotN, DL.isNon, ix_pR0, ix_pR1, ix_tup, ix_lst, ix_ref, dSl, dPart, dNoPart, dCB, len_tup, len_lst, len_ref, dAbs, dList, dTuple, dBls, dSum, dIsi, dIsi2, dtOf, isC, seqOf, lstOf, dCons, dNil, dTup, dLst, dRet, dRetN, dNext, dDrop, dAsg, gN, gsNil, gsCons, gT, gSubD, dSetL, dPar, dAug, dIpAdd, dIpSub, dCall, eq_int, eq_str, eq_bl, ne_int, ne_str, ne_bl, eq_pR, ne_pR, plus_eq, less_eq, times_eq, over_eq, floor_eq, ceil_eq, part_eq, below_eq, seq_pR, pick_nil, pick_p, pick_k, pick_d, dBreak, dCont, dLM, dLM0, isL, dAppend, dInsert, dPop, dPopAt, dRevL, dStr, dFmt, dJs, dMax2, dMin2, dSorted, dNewK, dctOf, dGetK, dHasK, DL.keyOf, dPutK, dDelK, dSortedD, dSet, dLstF, dRevF, dSlF, dListF, dSortedF, dSortedDF, dMaxF, dMinF, dInS, dLtA, dNewT, dGetT, dHasT, dctT, tkOf, keysOf, dTupP, dPutT, dPutP, putTk, pkOf, dSortedTF, dGet1, dGet2, dGet2T, dDisp1, dRep, dInt, dBits, dExtend, dReverse, dMaxDf, dCat, dCatF, dExtL, dDcT, Option.isSome_some, List.getElem?_cons_zero, List.getElem?_cons_succ, List.set_cons_zero, List.set_cons_succ, atI_0, atI_1, atI_2, atI_3, atI_4, atI_5, ixN_0, ixN_1, ixN_2, ixN_3, ixN_4, ixN_5, up_same, List.length_cons, List.length_nil, Bool.not_true, Bool.not_false, Bool.false_eq_true, if_true, if_false, reduceIte]
          exact hN2 _ _ ⟨s4'.trans s6, ls, hG, rfl⟩
        · simp only [dIfS, dAndT, dOrT, dNotT, dTest, dTruth, dTru, dAndV, dOrV, dNotV, dIf, dOp, dUn, dVar, dC, dI, dIc, dAdd, dSub, dMul, dFd, dMod, dPow, dNeg, dLt, dLe, dGt, dGe, dIsN, dNotN, DL.isNon, ix_pR0, ix_pR1, ix_tup, ix_lst, ix_ref, dSl, dPart, dNoPart, dCB, len_tup, len_lst, len_ref, dAbs, dList, dTuple, dBls, dSum, dIsi, dIsi2, dtOf, isC, seqOf, lstOf, dCons, dNil, dTup, dLst, dRet, dRetN, dNext, dDrop, dAsg, gN, gsNil, gsCons, gT, gSubD, dSetL, dPar, dAug, dIpAdd, dIpSub, dCall, eq_int, eq_str, eq_bl, ne_int, ne_str, ne_bl, eq_pR, ne_pR, plus_eq, less_eq, times_eq, over_eq, floor_eq, ceil_eq, part_eq, below_eq, seq_pR, pick_nil, pick_p, pick_k, pick_d, dBreak, dCont, dLM, dLM0, isL, dAppend, dInsert, dPop, dPopAt, dRevL, dStr, dFmt, dJs, dMax2, dMin2, dSorted, dNewK, dctOf, dGetK, dHasK, DL.keyOf, dPutK, dDelK, dSortedD, dSet, dLstF, dRevF, dSlF, dListF, dSortedF, dSortedDF, dMaxF, dMinF, dInS, dLtA, dNewT, dGetT, dHasT, dctT, tkOf, keysOf, dTupP, dPutT, dPutP, putTk, pkOf, dSortedTF, dGet1, dGet2, dGet2T, dDisp1, dRep, dInt, dBits, dExtend, dReverse, dMaxDf, dCat, dCatF, dExtL, dDcT, Option.isSome_some, List.getElem?_cons_zero, List.getElem?_cons_succ, List.set_cons_zero, List.set_cons_succ, atI_0, atI_1, atI_2, atI_3, atI_4, atI_5, ixN_0, ixN_1, ixN_2, ixN_3, ixN_4, ixN_5, up_same, List.length_cons, List.length_nil, Bool.not_true, Bool.not_false, Bool.false_eq_true, if_true, if_false, reduceIte]
          exact hN2 _ _ ⟨s4'.trans s6, ls ++ [[]], hG.snoc hl4, rfl⟩
      rintro _ O4 ⟨s4, ms, hM2, rfl⟩
      have h34 : O4 p3 = some (.lst (ls.map lfD)) := s4.2 _ _ np3 h3
      have bag4 := s4.1
      -- copies handed in
      refine seq_by (fun g' O' => ∃ p5 zs O5, Cp O4 O5 zs ls ∧ O5 p5 = none ∧ O' = DL.up O5 p5 (.lst (zs.map fun z => D.ref z.1)) ∧ g' = [some (.lst (ns.map D.int)), some (.ref b), some (.int (i : Nat)), some (.ref p3), some (.lst (ms.map lfD)), some (.ref p5), z6, z7, z8, z9, z10, z11, z12, z13, z14, z15]) (fun N2 hN2 => ?_) ?_
      · simp only [dIfS, dAndT, dOrT, dNotT, dTest, dTruth, dTru, dAndV, dOrV, dNotV, dIf, dOp, dUn, dVar, dC, dI, dIc, dAdd, dSub, dMul, dFd, dMod, dPow, dNeg, dLt, dLe, dGt, dGe, dIsN, dNotN, DL.isNon, ix_pR0, ix_pR1, ix_tup, ix_lst, ix_ref, dSl, dPart, dNoPart, dCB, len_tup, len_lst, len_ref, dAbs, dList, dTuple, dBls, dSum, dIsi, dIsi2, dtOf, isC, seqOf, lstOf, dCons, dNil, dTup, dLst, dRet, dRetN, dNext, dDrop, dAsg, gN, gsNil, gsCons, gT, gSubD, dSetL, dPar, dAug, dIpAdd, dIpSub, dCall, eq_int, eq_str, eq_bl, ne_int, ne_str, ne_bl, eq_pR, ne_pR, plus_eq, less_eq, times_eq, over_eq, floor_eq, ceil_eq, part_eq, below_eq, seq_pR, pick_nil, pick_p, pick_k, pick_d, dBreak, dCont, dLM, dLM0, isL, dAppend, dInsert, dPop, dPopAt, dRevL, dStr, dFmt, dJs, dMax2, dMin2, dSorted, dNewK, dctOf, dGetK, dHasK, DL.keyOf, dPutK, dDelK, dSortedD, dSet, dLstF, dRevF, dSlF, dListF, dSortedF, dSortedDF, dMaxF, dMinF, dInS, dLtA, dNewT, dGetT, dHasT, dctT, tkOf, keysOf, dTupP, dPutT, dPutP, putTk, pkOf, dSortedTF, dGet1, dGet2, dGet2T, dDisp1, dRep, dInt, dBits, dExtend, dReverse, dMaxDf, dCat, dCatF, dExtL, dDcT, Option.isSome_some, List.getElem?_cons_zero, List.getElem?_cons_succ, List.set_cons_zero, List.set_cons_succ, atI_0, atI_1, atI_2, atI_3, atI_4, atI_5, ixN_0, ixN_1, ixN_2, ixN_3, ixN_4, ixN_5, up_same, List.length_cons, List.length_nil, Bool.not_true, Bool.not_false, Bool.false_eq_true, if_true, if_false, reduceIte, dFor, dRng1, dRng2, dRng3, dSeqI, dEnum, dEnumA, dZip, dLc, dLcF, wipeD, h34]
        refine comp_copies (fun O' s => s _ _ h34) (by omega) (fun l hm O2 acc N hacc hN => ?_) fun zs O' c p hp => ?_
        · simp only [dIfS, dAndT, dOrT, dNotT, dTest, dTruth, dTru, dAndV, dOrV, dNotV, dIf, dOp, dUn, dVar, dC, dI, dIc, dAdd, dSub, dMul, dFd, dMod, dPow, dNeg, dLt, dLe, dGt, dGe, dIsN, dNotN, DL.isNon, ix_pR0, ix_pR1, ix_tup, ix_lst, ix_ref, dSl, dPart, dNoPart, dCB, len_tup, len_lst, len_ref, dAbs, dList, dTuple, dBls, dSum, dIsi, dIsi2, dtOf, isC, seqOf, lstOf, dCons, dNil, dTup, dLst, dRet, dRetN, dNext, dDrop, dAsg, gN, gsNil, gsCons, gT, gSubD, dSetL, dPar, dAug, dIpAdd, dIpSub, dCall, eq_int, eq_str, eq_bl, ne_int, ne_str, ne_bl, eq_pR, ne_pR, plus_eq, less_eq, times_eq, over_eq, floor_eq, ceil_eq, part_eq, below_eq, seq_pR, pick_nil, pick_p, pick_k, pick_d, dBreak, dCont, dLM, dLM0, isL, dAppend, dInsert, dPop, dPopAt, dRevL, dStr, dFmt, dJs, dMax2, dMin2, dSorted, dNewK, dctOf, dGetK, dHasK, DL.keyOf, dPutK, dDelK, dSortedD, dSet, dLstF, dRevF, dSlF, dListF, dSortedF, dSortedDF, dMaxF, dMinF, dInS, dLtA, dNewT, dGetT, dHasT, dctT, tkOf, keysOf, dTupP, dPutT, dPutP, putTk, pkOf, dSortedTF, dGet1, dGet2, dGet2T, dDisp1, dRep, dInt, dBits, dExtend, dReverse, dMaxDf, dCat, dCatF, dExtL, dDcT, Option.isSome_some, List.getElem?_cons_zero, List.getElem?_cons_succ, List.set_cons_zero, List.set_cons_succ, atI_0, atI_1, atI_2, atI_3, atI_4, atI_5, ixN_0, ixN_1, ixN_2, ixN_3, ixN_4, ixN_5, up_same, List.length_cons, List.length_nil, Bool.not_true, Bool.not_false, Bool.false_eq_true, if_true, if_false, reduceIte, dYes, lfD]
          exact fun q hq => ⟨hacc, hN q hq⟩
        exact hN2 _ _ ⟨p, zs, O', c, hp, rfl, rfl⟩
      rintro _ _ ⟨p5, zs, O5, c, hp5, rfl, rfl⟩
      have h5p : DL.up O5 p5 (.lst (zs.map fun z => D.ref z.1)) p5 = some (.lst (zs.map fun z => D.ref z.1)) := up_same
      have h5z : ∀ z ∈ zs, DL.up O5 p5 (.lst (zs.map fun z => D.ref z.1)) z.1 = some (.lst (z.2.map pqD)) := fun z hz => by
        rw [up_ne (some_ne_none hp5 (c.nw z hz).2)]; exact (c.nw z hz).2
      have s45 : Sb O4 (DL.up O5 p5 (.lst (zs.map fun z => D.ref z.1))) := c.s.up (c.s.none hp5)
      have np5 : O4 p5 = none := c.s.none hp5
      have nz : ∀ z ∈ zs, O4 z.1 = none := fun z hz => (c.nw z hz).1
      have nzp : ∀ z ∈ zs, z.1 ≠ p5 := fun z hz => some_ne_none hp5 (c.nw z hz).2
      have zls : zs.map (·.2) = ls := c.e
      have hzl : zs.length ≤ 5 := by
        have := congrArg List.length zls
        rw [List.length_map] at this
        omega
      have znd := c.nd
      generalize DL.up O5 p5 (.lst (zs.map fun z => D.ref z.1)) = OA at *
      clear c hp5
      refine seq_by (fun g' O' => ∃ a1 d1 r1 a2 d2 r2, Mds tb O4 O' a1 d1 r1 a2 d2 r2 ls ms ∧ Sb OA O' ∧ (∀ q u, OA q = some u → q ≠ a1 ∧ q ≠ r1 ∧ q ≠ a2 ∧ q ≠ r2) ∧ g' = [some (.lst (ns.map D.int)), some (.ref b), some (.int (i : Nat)), some (.ref p3), some (.lst (ms.map lfD)), some (.ref p5), some (.ref a1), some (.ref a2), z8, z9, z10, z11, z12, z13, z14, z15]) (fun N2 hN2 => ?_) ?_
      · simp only [dIfS, dAndT, dOrT, dNotT, dTest, dTruth, dTru, dAndV, dOrV, dNotV, dIf, dOp, dUn, dVar, dC, dI, dIc, dAdd, dSub, dMul, dFd, dMod, dPow, dNeg, dLt, dLe, dGt, dGe, dIsN, dNotN, DL.isNon, ix_pR0, ix_pR1, ix_tup, ix_lst, ix_ref, dSl, dPart, dNoPart, dCB, len_tup, len_lst, len_ref, dAbs, dList, dTuple, dBls, dSum, dIsi, dIsi2, dtOf, isC, seqOf, lstOf, dCons, dNil, dTup, dLst, dRet, dRetN, dNext, dDrop, dAsg, gN, gsNil, gsCons, gT, gSubD, dSetL, dPar, dAug, dIpAdd, dIpSub, dCall, eq_int, eq_str, eq_bl, ne_int, ne_str, ne_bl, eq_pR, ne_pR, plus_eq, less_eq, times_eq, over_eq, floor_eq, ceil_eq, part_eq, below_eq, seq_pR, pick_nil, pick_p, pick_k, pick_d, dBreak, dCont, dLM, dLM0, isL, dAppend, dInsert, dPop, dPopAt, dRevL, dStr, dFmt, dJs, dMax2, dMin2, dSorted, dNewK, dctOf, dGetK, dHasK, DL.keyOf, dPutK, dDelK, dSortedD, dSet, dLstF, dRevF, dSlF, dListF, dSortedF, dSortedDF, dMaxF, dMinF, dInS, dLtA, dNewT, dGetT, dHasT, dctT, tkOf, keysOf, dTupP, dPutT, dPutP, putTk, pkOf, dSortedTF, dGet1, dGet2, dGet2T, dDisp1, dRep, dInt, dBits, dExtend, dReverse, dMaxDf, dCat, dCatF, dExtL, dDcT, Option.isSome_some, List.getElem?_cons_zero, List.getElem?_cons_succ, List.set_cons_zero, List.set_cons_succ, atI_0, atI_1, atI_2, atI_3, atI_4, atI_5, ixN_0, ixN_1, ixN_2, ixN_3, ixN_4, ixN_5, up_same, List.length_cons, List.length_nil, Bool.not_true, Bool.not_false, Bool.false_eq_true, if_true, if_false, reduceIte, dMakeX]
        intro a1 d1 ha1 hd1 hne1
        have kA : ∀ c u, OA c = some u → DL.up (DL.up OA d1 (.own a1)) a1 (.ins tb.Layout d1 []) c = some u := fun c u e => by rw [up_ne (some_ne_none ha1 e), up_ne (some_ne_none hd1 e)]; exact e
        have hpg : PgIn (DL.up (DL.up OA d1 (.own a1)) a1 (.ins tb.Layout d1 [])) (.ref p5) (zs.map (·.2)) := .own p5 zs (kA _ _ h5p) fun z hz => kA _ _ (h5z z hz)
        rw [zls] at hpg
        refine ⟨a1, d1, _, ls, rfl, up_same, hpg, by omega, fun r1 O6 hr1 hL1 keep1 => ⟨rfl, ?_⟩⟩
        have s6 : Sb OA O6 := fun c u e => keep1 c u (some_ne_none ha1 e) (kA c u e)
        intro a2 d2 ha2 hd2 hne2
        have hm2l := hM2.len
        refine ⟨a2, d2, _, ms, rfl, up_same, .dat ms, by omega, fun r2 O7 hr2 hL2 keep2 => ⟨rfl, ?_⟩⟩
        have kB : ∀ c u, O6 c = some u → DL.up (DL.up O6 d2 (.own a2)) a2 (.ins tb.Layout d2 []) c = some u := fun c u e => by rw [up_ne (some_ne_none ha2 e), up_ne (some_ne_none hd2 e)]; exact e
        have s7 : Sb O6 O7 := fun c u e => keep2 c u (some_ne_none ha2 e) (kB c u e)
        exact hN2 _ _ ⟨a1, d1, r1, a2, d2, r2, ⟨(s45.trans s6).trans s7, hL1.sb s7, hL2⟩, s6.trans s7, fun q u e => ⟨some_ne_none ha1 e, some_ne_none hr1 (kA q u e), some_ne_none ha2 (s6 q u e), some_ne_none hr2 (kB q u (s6 q u e))⟩, rfl⟩
      rintro _ O7 ⟨a1, d1, r1, a2, d2, r2, md, s7, off, rfl⟩
      -- what was handed in is changed
      refine seq_by (fun g' O' => Mds tb O4 O' a1 d1 r1 a2 d2 r2 ls ms ∧ O' p5 = some (.lst (zs.map fun z => D.ref z.1)) ∧ ∃ z8, g' = [some (.lst (ns.map D.int)), some (.ref b), some (.int (i : Nat)), some (.ref p3), some (.lst (ms.map lfD)), some (.ref p5), some (.ref a1), some (.ref a2), z8, z9, z10, z11, z12, z13, z14, z15]) (fun N2 hN2 => ?_) ?_
      · have h7p := s7 _ _ h5p
        unfold dFor
        simp only [dIfS, dAndT, dOrT, dNotT, dTest, dTruth, dTru, dAndV, dOrV, dNotV, dIf, dOp, dUn, dVar, dC, dI, dIc, dAdd, dSub, dMul, dFd, dMod, dPow, dNeg, dLt, dLe, dGt, dGe, dIsN, dNotN, DL.isNon, ix_pR0, ix_pR1, ix_tup, ix_lst, ix_ref, dSl, dPart, dNoPart, dCB, len_tup, len_lst, len_ref, dAbs, dList, dTuple, dBls, dSum, dIsi, dIsi2, dtOf, isC, seqOf, lstOf, dCons, dNil, dTup, dLst, dRet, dRetN, dNext, dDrop, dAsg, gN, gsNil, gsCons, gT, gSubD, dSetL, dPar, dAug, dIpAdd, dIpSub, dCall, eq_int, eq_str, eq_bl, ne_int, ne_str, ne_bl, eq_pR, ne_pR, plus_eq, less_eq, times_eq, over_eq, floor_eq, ceil_eq, part_eq, below_eq, seq_pR, pick_nil, pick_p, pick_k, pick_d, dBreak, dCont, dLM, dLM0, isL, dAppend, dInsert, dPop, dPopAt, dRevL, dStr, dFmt, dJs, dMax2, dMin2, dSorted, dNewK, dctOf, dGetK, dHasK, DL.keyOf, dPutK, dDelK, dSortedD, dSet, dLstF, dRevF, dSlF, dListF, dSortedF, dSortedDF, dMaxF, dMinF, dInS, dLtA, dNewT, dGetT, dHasT, dctT, tkOf, keysOf, dTupP, dPutT, dPutP, putTk, pkOf, dSortedTF, dGet1, dGet2, dGet2T, dDisp1, dRep, dInt, dBits, dExtend, dReverse, dMaxDf, dCat, dCatF, dExtL, dDcT, Option.isSome_some, List.getElem?_cons_zero, List.getElem?_cons_succ, List.set_cons_zero, List.set_cons_succ, atI_0, atI_1, atI_2, atI_3, atI_4, atI_5, ixN_0, ixN_1, ixN_2, ixN_3, ixN_4, ixN_5, up_same, List.length_cons, List.length_nil, Bool.not_true, Bool.not_false, Bool.false_eq_true, if_true, if_false, reduceIte, dFor, dRng1, dRng2, dRng3, dSeqI, dEnum, dEnumA, dZip, dLc, dLcF, wipeD, h7p]
        refine loop_map (f := fun z : Addr × List PI => D.ref z.1) (fun pre g' O' => Mds tb O4 O' a1 d1 r1 a2 d2 r2 ls ms ∧ O' p5 = some (.lst (zs.map fun z => D.ref z.1)) ∧ (∀ z ∈ zs, ∃ xs, O' z.1 = some (.lst xs) ∧ xs.length ≤ 100 + pre.length) ∧ ∃ z8, g' = [some (.lst (ns.map D.int)), some (.ref b), some (.int (i : Nat)), some (.ref p3), some (.lst (ms.map lfD)), some (.ref p5), some (.ref a1), some (.ref a2), z8, z9, z10, z11, z12, z13, z14, z15]) ⟨md, h7p, fun z hz => ⟨_, s7 _ _ (h5z z hz), by
          have := (hG.all z.2 (by rw [← zls]; exact List.mem_map_of_mem hz)).1
          rw [List.length_map]; omega⟩, _, rfl⟩ (fun _ _ _ h => h.2.1) ?_ ?_
        · rintro pre z post _ O8 M4 e ⟨m8, h8p, h8z, z8, rfl⟩ hM4
          have hzm : z ∈ zs := by rw [e]; simp
          have hpre : pre.length ≤ 5 := by
            have := congrArg List.length e
            rw [List.length_append] at this
            omega
          obtain ⟨xs, hxs, hxl⟩ := h8z z hzm
          have ofz := off _ _ (h5z z hzm)
          simp only [dIfS, dAndT, dOrT, dNotT, dTest, dTruth, dTru, dAndV, dOrV, dNotV, dIf, dOp, dUn, dVar, dC, dI, dIc, dAdd, dSub, dMul, dFd, dMod, dPow, dNeg, dLt, dLe, dGt, dGe, dIsN, dNotN, DL.isNon, ix_pR0, ix_pR1, ix_tup, ix_lst, ix_ref, dSl, dPart, dNoPart, dCB, len_tup, len_lst, len_ref, dAbs, dList, dTuple, dBls, dSum, dIsi, dIsi2, dtOf, isC, seqOf, lstOf, dCons, dNil, dTup, dLst, dRet, dRetN, dNext, dDrop, dAsg, gN, gsNil, gsCons, gT, gSubD, dSetL, dPar, dAug, dIpAdd, dIpSub, dCall, eq_int, eq_str, eq_bl, ne_int, ne_str, ne_bl, eq_pR, ne_pR, plus_eq, less_eq, times_eq, over_eq, floor_eq, ceil_eq, part_eq, below_eq, seq_pR, pick_nil, pick_p, pick_k, pick_d, dBreak, dCont, dLM, dLM0, isL, dAppend, dInsert, dPop, dPopAt, dRevL, dStr, dFmt, dJs, dMax2, dMin2, dSorted, dNewK, dctOf, dGetK, dHasK, DL.keyOf, dPutK, dDelK, dSortedD, dSet, dLstF, dRevF, dSlF, dListF, dSortedF, dSortedDF, dMaxF, dMinF, dInS, dLtA, dNewT, dGetT, dHasT, dctT, tkOf, keysOf, dTupP, dPutT, dPutP, putTk, pkOf, dSortedTF, dGet1, dGet2, dGet2T, dDisp1, dRep, dInt, dBits, dExtend, dReverse, dMaxDf, dCat, dCatF, dExtL, dDcT, Option.isSome_some, List.getElem?_cons_zero, List.getElem?_cons_succ, List.set_cons_zero, List.set_cons_succ, atI_0, atI_1, atI_2, atI_3, atI_4, atI_5, ixN_0, ixN_1, ixN_2, ixN_3, ixN_4, ixN_5, up_same, List.length_cons, List.length_nil, Bool.not_true, Bool.not_false, Bool.false_eq_true, if_true, if_false, reduceIte, hxs]
          refine ⟨True.intro, by rw [sizeLine_eq]; omega, hM4 _ _ ⟨m8.put (nz z hzm) ofz, by rw [up_ne (nzp z hzm).symm]; exact h8p, fun y hy => ?_, _, rfl⟩⟩
          by_cases hyz : y.1 = z.1
          · rw [hyz]
            exact ⟨_, up_same, by rw [List.length_append, List.length_append]; simp; omega⟩
          · obtain ⟨ys, hys, hyl⟩ := h8z y hy
            exact ⟨ys, by rw [up_ne hyz]; exact hys, by rw [List.length_append]; simp; omega⟩
        · rintro _ O8 ⟨m8, h8p, h8z, z8, rfl⟩
          exact hN2 _ _ ⟨m8, h8p, _, rfl⟩
      rintro _ O8 ⟨m8, h8p, z8, rfl⟩
      have of5 := off _ _ h5p
      clear off h5z h5p s7 nz nzp s45
      refine seq_by (fun g' O' => Mds tb O4 O' a1 d1 r1 a2 d2 r2 ls ms ∧ g' = [some (.lst (ns.map D.int)), some (.ref b), some (.int (i : Nat)), some (.ref p3), some (.lst (ms.map lfD)), some (.ref p5), some (.ref a1), some (.ref a2), z8, z9, z10, z11, z12, z13, z14, z15]) (fun N2 hN2 => ?_) ?_
      · simp only [dIfS, dAndT, dOrT, dNotT, dTest, dTruth, dTru, dAndV, dOrV, dNotV, dIf, dOp, dUn, dVar, dC, dI, dIc, dAdd, dSub, dMul, dFd, dMod, dPow, dNeg, dLt, dLe, dGt, dGe, dIsN, dNotN, DL.isNon, ix_pR0, ix_pR1, ix_tup, ix_lst, ix_ref, dSl, dPart, dNoPart, dCB, len_tup, len_lst, len_ref, dAbs, dList, dTuple, dBls, dSum, dIsi, dIsi2, dtOf, isC, seqOf, lstOf, dCons, dNil, dTup, dLst, dRet, dRetN, dNext, dDrop, dAsg, gN, gsNil, gsCons, gT, gSubD, dSetL, dPar, dAug, dIpAdd, dIpSub, dCall, eq_int, eq_str, eq_bl, ne_int, ne_str, ne_bl, eq_pR, ne_pR, plus_eq, less_eq, times_eq, over_eq, floor_eq, ceil_eq, part_eq, below_eq, seq_pR, pick_nil, pick_p, pick_k, pick_d, dBreak, dCont, dLM, dLM0, isL, dAppend, dInsert, dPop, dPopAt, dRevL, dStr, dFmt, dJs, dMax2, dMin2, dSorted, dNewK, dctOf, dGetK, dHasK, DL.keyOf, dPutK, dDelK, dSortedD, dSet, dLstF, dRevF, dSlF, dListF, dSortedF, dSortedDF, dMaxF, dMinF, dInS, dLtA, dNewT, dGetT, dHasT, dctT, tkOf, keysOf, dTupP, dPutT, dPutP, putTk, pkOf, dSortedTF, dGet1, dGet2, dGet2T, dDisp1, dRep, dInt, dBits, dExtend, dReverse, dMaxDf, dCat, dCatF, dExtL, dDcT, Option.isSome_some, List.getElem?_cons_zero, List.getElem?_cons_succ, List.set_cons_zero, List.set_cons_succ, atI_0, atI_1, atI_2, atI_3, atI_4, atI_5, ixN_0, ixN_1, ixN_2, ixN_3, ixN_4, ixN_5, up_same, List.length_cons, List.length_nil, Bool.not_true, Bool.not_false, Bool.false_eq_true, if_true, if_false, reduceIte, h8p]
        refine ⟨True.intro, fun q hq => ?_⟩
        have e8 := Sb.new (o := .lst []) hq _ _ h8p
        simp only [dIfS, dAndT, dOrT, dNotT, dTest, dTruth, dTru, dAndV, dOrV, dNotV, dIf, dOp, dUn, dVar, dC, dI, dIc, dAdd, dSub, dMul, dFd, dMod, dPow, dNeg, dLt, dLe, dGt, dGe, dIsN, dNotN, DL.isNon, ix_pR0, ix_pR1, ix_tup, ix_lst, ix_ref, dSl, dPart, dNoPart, dCB, len_tup, len_lst, len_ref, dAbs, dList, dTuple, dBls, dSum, dIsi, dIsi2, dtOf, isC, seqOf, lstOf, dCons, dNil, dTup, dLst, dRet, dRetN, dNext, dDrop, dAsg, gN, gsNil, gsCons, gT, gSubD, dSetL, dPar, dAug, dIpAdd, dIpSub, dCall, eq_int, eq_str, eq_bl, ne_int, ne_str, ne_bl, eq_pR, ne_pR, plus_eq, less_eq, times_eq, over_eq, floor_eq, ceil_eq, part_eq, below_eq, seq_pR, pick_nil, pick_p, pick_k, pick_d, dBreak, dCont, dLM, dLM0, isL, dAppend, dInsert, dPop, dPopAt, dRevL, dStr, dFmt, dJs, dMax2, dMin2, dSorted, dNewK, dctOf, dGetK, dHasK, DL.keyOf, dPutK, dDelK, dSortedD, dSet, dLstF, dRevF, dSlF, dListF, dSortedF, dSortedDF, dMaxF, dMinF, dInS, dLtA, dNewT, dGetT, dHasT, dctT, tkOf, keysOf, dTupP, dPutT, dPutP, putTk, pkOf, dSortedTF, dGet1, dGet2, dGet2T, dDisp1, dRep, dInt, dBits, dExtend, dReverse, dMaxDf, dCat, dCatF, dExtL, dDcT, Option.isSome_some, List.getElem?_cons_zero, List.getElem?_cons_succ, List.set_cons_zero, List.set_cons_succ, atI_0, atI_1, atI_2, atI_3, atI_4, atI_5, ixN_0, ixN_1, ixN_2, ixN_3, ixN_4, ixN_5, up_same, List.length_cons, List.length_nil, Bool.not_true, Bool.not_false, Bool.false_eq_true, if_true, if_false, reduceIte, e8]
        refine ⟨by rw [List.length_map, sizeLine_eq]; omega, hN2 _ _ ⟨(m8.sb (Sb.new hq)).put np5 of5, rfl⟩⟩
      clear h8p
      rintro _ O9 ⟨m9, rfl⟩
      have h39 := m9.s _ _ h34
      have hfl := hG.flat
      refine seq1 fun N hN => ?_; simp only [dIfS, dAndT, dOrT, dNotT, dTest, dTruth, dTru, dAndV, dOrV, dNotV, dIf, dOp, dUn, dVar, dC, dI, dIc, dAdd, dSub, dMul, dFd, dMod, dPow, dNeg, dLt, dLe, dGt, dGe, dIsN, dNotN, DL.isNon, ix_pR0, ix_pR1, ix_tup, ix_lst, ix_ref, dSl, dPart, dNoPart, dCB, len_tup, len_lst, len_ref, dAbs, dList, dTuple, dBls, dSum, dIsi, dIsi2, dtOf, isC, seqOf, lstOf, dCons, dNil, dTup, dLst, dRet, dRetN, dNext, dDrop, dAsg, gN, gsNil, gsCons, gT, gSubD, dSetL, dPar, dAug, dIpAdd, dIpSub, dCall, eq_int, eq_str, eq_bl, ne_int, ne_str, ne_bl, eq_pR, ne_pR, plus_eq, less_eq, times_eq, over_eq, floor_eq, ceil_eq, part_eq, below_eq, seq_pR, pick_nil, pick_p, pick_k, pick_d, dBreak, dCont, dLM, dLM0, isL, dAppend, dInsert, dPop, dPopAt, dRevL, dStr, dFmt, dJs, dMax2, dMin2, dSorted, dNewK, dctOf, dGetK, dHasK, DL.keyOf, dPutK, dDelK, dSortedD, dSet, dLstF, dRevF, dSlF, dListF, dSortedF, dSortedDF, dMaxF, dMinF, dInS, dLtA, dNewT, dGetT, dHasT, dctT, tkOf, keysOf, dTupP, dPutT, dPutP, putTk, pkOf, dSortedTF, dGet1, dGet2, dGet2T, dDisp1, dRep, dInt, dBits, dExtend, dReverse, dMaxDf, dCat, dCatF, dExtL, dDcT, Option.isSome_some, List.getElem?_cons_zero, List.getElem?_cons_succ, List.set_cons_zero, List.set_cons_succ, atI_0, atI_1, atI_2, atI_3, atI_4, atI_5, ixN_0, ixN_1, ixN_2, ixN_3, ixN_4, ixN_5, up_same, List.length_cons, List.length_nil, Bool.not_true, Bool.not_false, Bool.false_eq_true, if_true, if_false, reduceIte, dSumL]
      refine ⟨ls.map lfD, ls.map (fun l => l.map pqD), [], lst_ref h39, rfl, by rw [List.length_map, List.length_map], fun j z v hz hv => ?_, ?_, ?_⟩
      · rw [List.getElem?_map] at hz hv
        cases hj : ls[j]? with
        | none => rw [hj] at hz; cases hz
        | some l =>
          rw [hj] at hz hv
          cases hz
          cases hv
          rfl
      · rw [← List.map_flatten]
        show 0 + (ls.flatten.map pqD).length ≤ sizeLine
        rw [List.length_map, sizeLine_eq]; omega
      rw [List.nil_append, ← List.map_flatten]
      subst hN
      -- asked, changed, asked again
      refine seq_by (fun g' O' => Mds tb O4 O' a1 d1 r1 a2 d2 r2 ls ms ∧ ∃ z8 z10 z11, g' = [some (.lst (ns.map D.int)), some (.ref b), some (.int (i : Nat)), some (.ref p3), some (.lst (ms.map lfD)), some (.ref p5), some (.ref a1), some (.ref a2), z8, some (.lst (ls.flatten.map pqD)), z10, z11, z12, z13, z14, z15]) (fun N2 hN2 => ?_) ?_
      · refine forC (by decide) (by decide) ?_
        refine loop_ix (fun j g' O' => Mds tb O4 O' a1 d1 r1 a2 d2 r2 ls ms ∧ ∃ z8 z10 z11, g' = [some (.lst (ns.map D.int)), some (.ref b), some (.int (i : Nat)), some (.ref p3), some (.lst (ms.map lfD)), some (.ref p5), some (.ref a1), some (.ref a2), z8, some (.lst (ls.flatten.map pqD)), z10, z11, z12, z13, z14, z15]) ⟨m9, _, _, _, rfl⟩ (fun _ _ _ _ => True.intro) ?_ ?_
        · rintro j y _ OB M4 hy ⟨mB, z8, z10, z11, rfl⟩ hM4
          obtain ⟨hj, rfl⟩ := rgD_get' hy
          simp only [gN, List.set_cons_succ, List.set_cons_zero]
          refine seq1 fun N hN => ?_; simp only [dIfS, dAndT, dOrT, dNotT, dTest, dTruth, dTru, dAndV, dOrV, dNotV, dIf, dOp, dUn, dVar, dC, dI, dIc, dAdd, dSub, dMul, dFd, dMod, dPow, dNeg, dLt, dLe, dGt, dGe, dIsN, dNotN, DL.isNon, ix_pR0, ix_pR1, ix_tup, ix_lst, ix_ref, dSl, dPart, dNoPart, dCB, len_tup, len_lst, len_ref, dAbs, dList, dTuple, dBls, dSum, dIsi, dIsi2, dtOf, isC, seqOf, lstOf, dCons, dNil, dTup, dLst, dRet, dRetN, dNext, dDrop, dAsg, gN, gsNil, gsCons, gT, gSubD, dSetL, dPar, dAug, dIpAdd, dIpSub, dCall, eq_int, eq_str, eq_bl, ne_int, ne_str, ne_bl, eq_pR, ne_pR, plus_eq, less_eq, times_eq, over_eq, floor_eq, ceil_eq, part_eq, below_eq, seq_pR, pick_nil, pick_p, pick_k, pick_d, dBreak, dCont, dLM, dLM0, isL, dAppend, dInsert, dPop, dPopAt, dRevL, dStr, dFmt, dJs, dMax2, dMin2, dSorted, dNewK, dctOf, dGetK, dHasK, DL.keyOf, dPutK, dDelK, dSortedD, dSet, dLstF, dRevF, dSlF, dListF, dSortedF, dSortedDF, dMaxF, dMinF, dInS, dLtA, dNewT, dGetT, dHasT, dctT, tkOf, keysOf, dTupP, dPutT, dPutP, putTk, pkOf, dSortedTF, dGet1, dGet2, dGet2T, dDisp1, dRep, dInt, dBits, dExtend, dReverse, dMaxDf, dCat, dCatF, dExtL, dDcT, Option.isSome_some, List.getElem?_cons_zero, List.getElem?_cons_succ, List.set_cons_zero, List.set_cons_succ, atI_0, atI_1, atI_2, atI_3, atI_4, atI_5, ixN_0, ixN_1, ixN_2, ixN_3, ixN_4, ixN_5, up_same, List.length_cons, List.length_nil, Bool.not_true, Bool.not_false, Bool.false_eq_true, if_true, if_false, reduceIte, dMethX]
          refine ⟨a1, d1, _, rfl, mB.m1.ob, ly_pages, a1, d1, r1, ls, rfl, mB.m1, by omega, fun p zs OC c hp hzp hCp => ?_⟩
          have mC := mB.sb c.s
          refine ⟨a1, d1, _, rfl, mC.m1.ob, ly_lines, a1, d1, r1, ls, rfl, mC.m1, hG, fun pl hpl => ?_⟩
          have mD := mC.sb (Sb.new (o := .lst (ls.flatten.map pqD)) hpl)
          have hDp := Sb.new (o := .lst (ls.flatten.map pqD)) hpl _ _ hCp
          have hDl : DL.up OC pl (.lst (ls.flatten.map pqD)) pl = some (.lst (ls.flatten.map pqD)) := up_same
          have hDz : ∀ z ∈ zs, DL.up OC pl (.lst (ls.flatten.map pqD)) z.1 = some (.lst (z.2.map pqD)) := fun z hz => Sb.new hpl _ _ (c.nw z hz).2
          have ofz : ∀ z ∈ zs, O4 z.1 = none ∧ z.1 ≠ a1 ∧ z.1 ≠ r1 ∧ z.1 ≠ a2 ∧ z.1 ≠ r2 := fun z hz => mB.off (c.nw z hz).1
          have ofp : O4 p = none ∧ p ≠ a1 ∧ p ≠ r1 ∧ p ≠ a2 ∧ p ≠ r2 := mB.off hp
          have ofl : O4 pl = none ∧ pl ≠ a1 ∧ pl ≠ r1 ∧ pl ≠ a2 ∧ pl ≠ r2 := mC.off hpl
          have npl : p ≠ pl := some_ne_none hpl hCp
          have nzl : ∀ z ∈ zs, z.1 ≠ pl := fun z hz => some_ne_none hpl (c.nw z hz).2
          have zls2 := c.e
          generalize DL.up OC pl (.lst (ls.flatten.map pqD)) = OD at *
          intro p11 h11
          have hz2 : zs.length ≤ 5 := by
            have := congrArg List.length zls2
            rw [List.length_map] at this
            omega
          subst hN
          have mE := mD.sb (Sb.new (o := .lst [.ref p, .ref pl]) h11)
          have hEp := Sb.new (o := .lst [.ref p, .ref pl]) h11 _ _ hDp
          have hEl := Sb.new (o := .lst [.ref p, .ref pl]) h11 _ _ hDl
          have hE11 : DL.up OD p11 (.lst [.ref p, .ref pl]) p11 = some (.lst [.ref p, .ref pl]) := up_same
          have hEz : ∀ z ∈ zs, DL.up OD p11 (.lst [.ref p, .ref pl]) z.1 = some (.lst (z.2.map pqD)) := fun z hz => Sb.new h11 _ _ (hDz z hz)
          have n11p : p ≠ p11 := some_ne_none h11 hDp
          have n11l : pl ≠ p11 := some_ne_none h11 hDl
          have n11z : ∀ z ∈ zs, z.1 ≠ p11 := fun z hz => some_ne_none h11 (hDz z hz)
          generalize DL.up OD p11 (.lst [.ref p, .ref pl]) = OE at *
          refine seq1 fun N hN => ?_; simp only [dIfS, dAndT, dOrT, dNotT, dTest, dTruth, dTru, dAndV, dOrV, dNotV, dIf, dOp, dUn, dVar, dC, dI, dIc, dAdd, dSub, dMul, dFd, dMod, dPow, dNeg, dLt, dLe, dGt, dGe, dIsN, dNotN, DL.isNon, ix_pR0, ix_pR1, ix_tup, ix_lst, ix_ref, dSl, dPart, dNoPart, dCB, len_tup, len_lst, len_ref, dAbs, dList, dTuple, dBls, dSum, dIsi, dIsi2, dtOf, isC, seqOf, lstOf, dCons, dNil, dTup, dLst, dRet, dRetN, dNext, dDrop, dAsg, gN, gsNil, gsCons, gT, gSubD, dSetL, dPar, dAug, dIpAdd, dIpSub, dCall, eq_int, eq_str, eq_bl, ne_int, ne_str, ne_bl, eq_pR, ne_pR, plus_eq, less_eq, times_eq, over_eq, floor_eq, ceil_eq, part_eq, below_eq, seq_pR, pick_nil, pick_p, pick_k, pick_d, dBreak, dCont, dLM, dLM0, isL, dAppend, dInsert, dPop, dPopAt, dRevL, dStr, dFmt, dJs, dMax2, dMin2, dSorted, dNewK, dctOf, dGetK, dHasK, DL.keyOf, dPutK, dDelK, dSortedD, dSet, dLstF, dRevF, dSlF, dListF, dSortedF, dSortedDF, dMaxF, dMinF, dInS, dLtA, dNewT, dGetT, dHasT, dctT, tkOf, keysOf, dTupP, dPutT, dPutP, putTk, pkOf, dSortedTF, dGet1, dGet2, dGet2T, dDisp1, dRep, dInt, dBits, dExtend, dReverse, dMaxDf, dCat, dCatF, dExtL, dDcT, Option.isSome_some, List.getElem?_cons_zero, List.getElem?_cons_succ, List.set_cons_zero, List.set_cons_succ, atI_0, atI_1, atI_2, atI_3, atI_4, atI_5, ixN_0, ixN_1, ixN_2, ixN_3, ixN_4, ixN_5, up_same, List.length_cons, List.length_nil, Bool.not_true, Bool.not_false, Bool.false_eq_true, if_true, if_false, reduceIte]
          refine same_of (Sm.ls (n := 8) (lst_ref hE11) (y := .lst [.ref p3, .lst (ls.flatten.map pqD)]) rfl rfl (by show (2 : Nat) ≤ 1000000; decide) fun i a b ha hb => ?_) ?_
          · match i, ha, hb with
            | 0, ha, hb =>
              cases ha
              cases hb
              exact Sm.pages (n := 5) hEp (mE.s _ _ h34) hEz zls2 (by omega) fun l hl => by have := (hG.all l hl).1; omega
            | 1, ha, hb =>
              cases ha
              cases hb
              exact Sm.ownL (n := 7) hEl (fun y hy => by obtain ⟨p, _, rfl⟩ := List.mem_map.mp hy; exact pl_pq (n := 6) p) (by rw [List.length_map]; omega)
            | i + 2, ha, hb => simp at ha
          simp only [dIfS, dAndT, dOrT, dNotT, dTest, dTruth, dTru, dAndV, dOrV, dNotV, dIf, dOp, dUn, dVar, dC, dI, dIc, dAdd, dSub, dMul, dFd, dMod, dPow, dNeg, dLt, dLe, dGt, dGe, dIsN, dNotN, DL.isNon, ix_pR0, ix_pR1, ix_tup, ix_lst, ix_ref, dSl, dPart, dNoPart, dCB, len_tup, len_lst, len_ref, dAbs, dList, dTuple, dBls, dSum, dIsi, dIsi2, dtOf, isC, seqOf, lstOf, dCons, dNil, dTup, dLst, dRet, dRetN, dNext, dDrop, dAsg, gN, gsNil, gsCons, gT, gSubD, dSetL, dPar, dAug, dIpAdd, dIpSub, dCall, eq_int, eq_str, eq_bl, ne_int, ne_str, ne_bl, eq_pR, ne_pR, plus_eq, less_eq, times_eq, over_eq, floor_eq, ceil_eq, part_eq, below_eq, seq_pR, pick_nil, pick_p, pick_k, pick_d, dBreak, dCont, dLM, dLM0, isL, dAppend, dInsert, dPop, dPopAt, dRevL, dStr, dFmt, dJs, dMax2, dMin2, dSorted, dNewK, dctOf, dGetK, dHasK, DL.keyOf, dPutK, dDelK, dSortedD, dSet, dLstF, dRevF, dSlF, dListF, dSortedF, dSortedDF, dMaxF, dMinF, dInS, dLtA, dNewT, dGetT, dHasT, dctT, tkOf, keysOf, dTupP, dPutT, dPutP, putTk, pkOf, dSortedTF, dGet1, dGet2, dGet2T, dDisp1, dRep, dInt, dBits, dExtend, dReverse, dMaxDf, dCat, dCatF, dExtL, dDcT, Option.isSome_some, List.getElem?_cons_zero, List.getElem?_cons_succ, List.set_cons_zero, List.set_cons_succ, atI_0, atI_1, atI_2, atI_3, atI_4, atI_5, ixN_0, ixN_1, ixN_2, ixN_3, ixN_4, ixN_5, up_same, List.length_cons, List.length_nil, Bool.not_true, Bool.not_false, Bool.false_eq_true, if_true, if_false, reduceIte]
          subst hN
          refine seq_by (fun g' O' => Mds tb O4 O' a1 d1 r1 a2 d2 r2 ls ms ∧ O' p = some (.lst (zs.map fun z => D.ref z.1)) ∧ O' pl = some (.lst (ls.flatten.map pqD)) ∧ O' p11 = some (.lst [.ref p, .ref pl]) ∧ ∃ z8, g' = [some (.lst (ns.map D.int)), some (.ref b), some (.int (i : Nat)), some (.ref p3), some (.lst (ms.map lfD)), some (.ref p5), some (.ref a1), some (.ref a2), z8, some (.lst (ls.flatten.map pqD)), some (.int (j : Nat)), some (.ref p11), z12, z13, z14, z15]) (fun N5 hN5 => ?_) ?_
          · unfold dFor
            simp only [dIfS, dAndT, dOrT, dNotT, dTest, dTruth, dTru, dAndV, dOrV, dNotV, dIf, dOp, dUn, dVar, dC, dI, dIc, dAdd, dSub, dMul, dFd, dMod, dPow, dNeg, dLt, dLe, dGt, dGe, dIsN, dNotN, DL.isNon, ix_pR0, ix_pR1, ix_tup, ix_lst, ix_ref, dSl, dPart, dNoPart, dCB, len_tup, len_lst, len_ref, dAbs, dList, dTuple, dBls, dSum, dIsi, dIsi2, dtOf, isC, seqOf, lstOf, dCons, dNil, dTup, dLst, dRet, dRetN, dNext, dDrop, dAsg, gN, gsNil, gsCons, gT, gSubD, dSetL, dPar, dAug, dIpAdd, dIpSub, dCall, eq_int, eq_str, eq_bl, ne_int, ne_str, ne_bl, eq_pR, ne_pR, plus_eq, less_eq, times_eq, over_eq, floor_eq, ceil_eq, part_eq, below_eq, seq_pR, pick_nil, pick_p, pick_k, pick_d, dBreak, dCont, dLM, dLM0, isL, dAppend, dInsert, dPop, dPopAt, dRevL, dStr, dFmt, dJs, dMax2, dMin2, dSorted, dNewK, dctOf, dGetK, dHasK, DL.keyOf, dPutK, dDelK, dSortedD, dSet, dLstF, dRevF, dSlF, dListF, dSortedF, dSortedDF, dMaxF, dMinF, dInS, dLtA, dNewT, dGetT, dHasT, dctT, tkOf, keysOf, dTupP, dPutT, dPutP, putTk, pkOf, dSortedTF, dGet1, dGet2, dGet2T, dDisp1, dRep, dInt, dBits, dExtend, dReverse, dMaxDf, dCat, dCatF, dExtL, dDcT, Option.isSome_some, List.getElem?_cons_zero, List.getElem?_cons_succ, List.set_cons_zero, List.set_cons_succ, atI_0, atI_1, atI_2, atI_3, atI_4, atI_5, ixN_0, ixN_1, ixN_2, ixN_3, ixN_4, ixN_5, up_same, List.length_cons, List.length_nil, Bool.not_true, Bool.not_false, Bool.false_eq_true, if_true, if_false, reduceIte, dFor, dRng1, dRng2, dRng3, dSeqI, dEnum, dEnumA, dZip, dLc, dLcF, wipeD, hE11, hEp]
            refine loop_map (f := fun z : Addr × List PI => D.ref z.1) (fun pre g' O' => Mds tb O4 O' a1 d1 r1 a2 d2 r2 ls ms ∧ O' p = some (.lst (zs.map fun z => D.ref z.1)) ∧ O' pl = some (.lst (ls.flatten.map pqD)) ∧ O' p11 = some (.lst [.ref p, .ref pl]) ∧ (∀ z ∈ zs, ∃ xs, O' z.1 = some (.lst xs) ∧ xs.length ≤ 100 + pre.length) ∧ ∃ z8, g' = [some (.lst (ns.map D.int)), some (.ref b), some (.int (i : Nat)), some (.ref p3), some (.lst (ms.map lfD)), some (.ref p5), some (.ref a1), some (.ref a2), z8, some (.lst (ls.flatten.map pqD)), some (.int (j : Nat)), some (.ref p11), z12, z13, z14, z15]) ⟨mE, hEp, hEl, hE11, fun z hz => ⟨_, hEz z hz, by
              have := (hG.all z.2 (by rw [← zls2]; exact List.mem_map_of_mem hz)).1
              rw [List.length_map]; omega⟩, _, rfl⟩ (fun _ _ _ h => h.2.1) ?_ ?_
            · rintro pre z post _ OF M6 e ⟨mF, hFp, hFl, hF11, hFz, z8, rfl⟩ hM6
              have hzm : z ∈ zs := by rw [e]; simp
              have hpre : pre.length ≤ 5 := by
                have := congrArg List.length e
                rw [List.length_append] at this
                omega
              obtain ⟨xs, hxs, hxl⟩ := hFz z hzm
              simp only [dIfS, dAndT, dOrT, dNotT, dTest, dTruth, dTru, dAndV, dOrV, dNotV, dIf, dOp, dUn, dVar, dC, dI, dIc, dAdd, dSub, dMul, dFd, dMod, dPow, dNeg, dLt, dLe, dGt, dGe, dIsN, dNotN, DL.isNon, ix_pR0, ix_pR1, ix_tup, ix_lst, ix_ref, dSl, dPart, dNoPart, dCB, len_tup, len_lst, len_ref, dAbs, dList, dTuple, dBls, dSum, dIsi, dIsi2, dtOf, isC, seqOf, lstOf, dCons, dNil, dTup, dLst, dRet, dRetN, dNext, dDrop, dAsg, gN, gsNil, gsCons, gT, gSubD, dSetL, dPar, dAug, dIpAdd, dIpSub, dCall, eq_int, eq_str, eq_bl, ne_int, ne_str, ne_bl, eq_pR, ne_pR, plus_eq, less_eq, times_eq, over_eq, floor_eq, ceil_eq, part_eq, below_eq, seq_pR, pick_nil, pick_p, pick_k, pick_d, dBreak, dCont, dLM, dLM0, isL, dAppend, dInsert, dPop, dPopAt, dRevL, dStr, dFmt, dJs, dMax2, dMin2, dSorted, dNewK, dctOf, dGetK, dHasK, DL.keyOf, dPutK, dDelK, dSortedD, dSet, dLstF, dRevF, dSlF, dListF, dSortedF, dSortedDF, dMaxF, dMinF, dInS, dLtA, dNewT, dGetT, dHasT, dctT, tkOf, keysOf, dTupP, dPutT, dPutP, putTk, pkOf, dSortedTF, dGet1, dGet2, dGet2T, dDisp1, dRep, dInt, dBits, dExtend, dReverse, dMaxDf, dCat, dCatF, dExtL, dDcT, Option.isSome_some, List.getElem?_cons_zero, List.getElem?_cons_succ, List.set_cons_zero, List.set_cons_succ, atI_0, atI_1, atI_2, atI_3, atI_4, atI_5, ixN_0, ixN_1, ixN_2, ixN_3, ixN_4, ixN_5, up_same, List.length_cons, List.length_nil, Bool.not_true, Bool.not_false, Bool.false_eq_true, if_true, if_false, reduceIte, hxs]
              refine ⟨True.intro, by rw [sizeLine_eq]; omega, hM6 _ _ ⟨mF.put (ofz z hzm).1 (ofz z hzm).2, by rw [up_ne (hzp z hzm).symm]; exact hFp, by rw [up_ne (nzl z hzm).symm]; exact hFl, by rw [up_ne (n11z z hzm).symm]; exact hF11, fun y hy => ?_, _, rfl⟩⟩
              by_cases hyz : y.1 = z.1
              · rw [hyz]
                exact ⟨_, up_same, by rw [List.length_append, List.length_append]; simp; omega⟩
              · obtain ⟨ys, hys, hyl⟩ := hFz y hy
                exact ⟨ys, by rw [up_ne hyz]; exact hys, by rw [List.length_append]; simp; omega⟩
            · rintro _ OF ⟨mF, hFp, hFl, hF11, hFz, z8, rfl⟩
              exact hN5 _ _ ⟨mF, hFp, hFl, hF11, _, rfl⟩
          rintro _ OF ⟨mF, hFp, hFl, hF11, z8, rfl⟩
          refine seq1 fun N hN => ?_; simp only [dIfS, dAndT, dOrT, dNotT, dTest, dTruth, dTru, dAndV, dOrV, dNotV, dIf, dOp, dUn, dVar, dC, dI, dIc, dAdd, dSub, dMul, dFd, dMod, dPow, dNeg, dLt, dLe, dGt, dGe, dIsN, dNotN, DL.isNon, ix_pR0, ix_pR1, ix_tup, ix_lst, ix_ref, dSl, dPart, dNoPart, dCB, len_tup, len_lst, len_ref, dAbs, dList, dTuple, dBls, dSum, dIsi, dIsi2, dtOf, isC, seqOf, lstOf, dCons, dNil, dTup, dLst, dRet, dRetN, dNext, dDrop, dAsg, gN, gsNil, gsCons, gT, gSubD, dSetL, dPar, dAug, dIpAdd, dIpSub, dCall, eq_int, eq_str, eq_bl, ne_int, ne_str, ne_bl, eq_pR, ne_pR, plus_eq, less_eq, times_eq, over_eq, floor_eq, ceil_eq, part_eq, below_eq, seq_pR, pick_nil, pick_p, pick_k, pick_d, dBreak, dCont, dLM, dLM0, isL, dAppend, dInsert, dPop, dPopAt, dRevL, dStr, dFmt, dJs, dMax2, dMin2, dSorted, dNewK, dctOf, dGetK, dHasK, DL.keyOf, dPutK, dDelK, dSortedD, dSet, dLstF, dRevF, dSlF, dListF, dSortedF, dSortedDF, dMaxF, dMinF, dInS, dLtA, dNewT, dGetT, dHasT, dctT, tkOf, keysOf, dTupP, dPutT, dPutP, putTk, pkOf, dSortedTF, dGet1, dGet2, dGet2T, dDisp1, dRep, dInt, dBits, dExtend, dReverse, dMaxDf, dCat, dCatF, dExtL, dDcT, Option.isSome_some, List.getElem?_cons_zero, List.getElem?_cons_succ, List.set_cons_zero, List.set_cons_succ, atI_0, atI_1, atI_2, atI_3, atI_4, atI_5, ixN_0, ixN_1, ixN_2, ixN_3, ixN_4, ixN_5, up_same, List.length_cons, List.length_nil, Bool.not_true, Bool.not_false, Bool.false_eq_true, if_true, if_false, reduceIte, hF11, hFp]
          refine ⟨True.intro, ?_⟩
          subst hN
          have hHl : DL.up OF p (.lst (zs.map fun z => D.ref z.1).reverse) pl = some (.lst (ls.flatten.map pqD)) := by rw [up_ne npl.symm]; exact hFl
          have hH11 : DL.up OF p (.lst (zs.map fun z => D.ref z.1).reverse) p11 = some (.lst [.ref p, .ref pl]) := by rw [up_ne n11p.symm]; exact hF11
          simp only [dIfS, dAndT, dOrT, dNotT, dTest, dTruth, dTru, dAndV, dOrV, dNotV, dIf, dOp, dUn, dVar, dC, dI, dIc, dAdd, dSub, dMul, dFd, dMod, dPow, dNeg, dLt, dLe, dGt, dGe, dIsN, dNotN, DL.isNon, ix_pR0, ix_pR1, ix_tup, ix_lst, ix_ref, dSl, dPart, dNoPart, dCB, len_tup, len_lst, len_ref, dAbs, dList, dTuple, dBls, dSum, dIsi, dIsi2, dtOf, isC, seqOf, lstOf, dCons, dNil, dTup, dLst, dRet, dRetN, dNext, dDrop, dAsg, gN, gsNil, gsCons, gT, gSubD, dSetL, dPar, dAug, dIpAdd, dIpSub, dCall, eq_int, eq_str, eq_bl, ne_int, ne_str, ne_bl, eq_pR, ne_pR, plus_eq, less_eq, times_eq, over_eq, floor_eq, ceil_eq, part_eq, below_eq, seq_pR, pick_nil, pick_p, pick_k, pick_d, dBreak, dCont, dLM, dLM0, isL, dAppend, dInsert, dPop, dPopAt, dRevL, dStr, dFmt, dJs, dMax2, dMin2, dSorted, dNewK, dctOf, dGetK, dHasK, DL.keyOf, dPutK, dDelK, dSortedD, dSet, dLstF, dRevF, dSlF, dListF, dSortedF, dSortedDF, dMaxF, dMinF, dInS, dLtA, dNewT, dGetT, dHasT, dctT, tkOf, keysOf, dTupP, dPutT, dPutP, putTk, pkOf, dSortedTF, dGet1, dGet2, dGet2T, dDisp1, dRep, dInt, dBits, dExtend, dReverse, dMaxDf, dCat, dCatF, dExtL, dDcT, Option.isSome_some, List.getElem?_cons_zero, List.getElem?_cons_succ, List.set_cons_zero, List.set_cons_succ, atI_0, atI_1, atI_2, atI_3, atI_4, atI_5, ixN_0, ixN_1, ixN_2, ixN_3, ixN_4, ixN_5, up_same, List.length_cons, List.length_nil, Bool.not_true, Bool.not_false, Bool.false_eq_true, if_true, if_false, reduceIte, hHl, hH11]
          refine ⟨True.intro, by rw [List.length_map, sizeLine_eq]; omega, hM4 _ _ ⟨(mF.put ofp.1 ofp.2).put ofl.1 ofl.2, _, _, _, rfl⟩⟩
        · rintro _ OB ⟨mB, z8, z10, z11, rfl⟩
          exact hN2 _ _ ⟨mB, _, _, _, rfl⟩
      rintro _ OB ⟨mB, z8, z10, z11, rfl⟩
      have hB3 := mB.s _ _ h34
      have bagB := bag_sb bag4 mB.s
      -- alike or not
      refine seq_by (fun g' O' => OB = O' ∧ g' = [some (.lst (ns.map D.int)), some (.ref b), some (.int (i : Nat)), some (.ref p3), some (.lst (ms.map lfD)), some (.ref p5), some (.ref a1), some (.ref a2), z8, some (.lst (ls.flatten.map pqD)), z10, z11, some (.bl (decide (ls = ms))), z13, z14, z15]) (fun N2 hN2 => ?_) ?_
      · simp only [dIfS, dAndT, dOrT, dNotT, dTest, dTruth, dTru, dAndV, dOrV, dNotV, dIf, dOp, dUn, dVar, dC, dI, dIc, dAdd, dSub, dMul, dFd, dMod, dPow, dNeg, dLt, dLe, dGt, dGe, dIsN, dNotN, DL.isNon, ix_pR0, ix_pR1, ix_tup, ix_lst, ix_ref, dSl, dPart, dNoPart, dCB, len_tup, len_lst, len_ref, dAbs, dList, dTuple, dBls, dSum, dIsi, dIsi2, dtOf, isC, seqOf, lstOf, dCons, dNil, dTup, dLst, dRet, dRetN, dNext, dDrop, dAsg, gN, gsNil, gsCons, gT, gSubD, dSetL, dPar, dAug, dIpAdd, dIpSub, dCall, eq_int, eq_str, eq_bl, ne_int, ne_str, ne_bl, eq_pR, ne_pR, plus_eq, less_eq, times_eq, over_eq, floor_eq, ceil_eq, part_eq, below_eq, seq_pR, pick_nil, pick_p, pick_k, pick_d, dBreak, dCont, dLM, dLM0, isL, dAppend, dInsert, dPop, dPopAt, dRevL, dStr, dFmt, dJs, dMax2, dMin2, dSorted, dNewK, dctOf, dGetK, dHasK, DL.keyOf, dPutK, dDelK, dSortedD, dSet, dLstF, dRevF, dSlF, dListF, dSortedF, dSortedDF, dMaxF, dMinF, dInS, dLtA, dNewT, dGetT, dHasT, dctT, tkOf, keysOf, dTupP, dPutT, dPutP, putTk, pkOf, dSortedTF, dGet1, dGet2, dGet2T, dDisp1, dRep, dInt, dBits, dExtend, dReverse, dMaxDf, dCat, dCatF, dExtL, dDcT, Option.isSome_some, List.getElem?_cons_zero, List.getElem?_cons_succ, List.set_cons_zero, List.set_cons_succ, atI_0, atI_1, atI_2, atI_3, atI_4, atI_5, ixN_0, ixN_1, ixN_2, ixN_3, ixN_4, ixN_5, up_same, List.length_cons, List.length_nil, Bool.not_true, Bool.not_false, Bool.false_eq_true, if_true, if_false, reduceIte]
        rw [eq_rl]
        refine Seen.eqv (n := 3) (m := 3) ((seen_lfs ls).ref hB3) (SeenAll.lst (seen_lfs ms)) (by decide) (by decide) ?_
        rw [show PyData.eqv (.list (ls.map lfQ)) (.list (ms.map lfQ)) = decide (ls = ms) from eqv_ls ls ms, Bool.bne_false]
        exact hN2 _ _ ⟨rfl, rfl⟩
      rintro _ _ ⟨rfl, rfl⟩
      have hec : decide (ms = ls) = decide (ls = ms) := by rw [Bool.eq_iff_iff, decide_eq_true_iff, decide_eq_true_iff]; exact eq_comm
      refine seq1 fun N hN => ?_; simp only [dIfS, dAndT, dOrT, dNotT, dTest, dTruth, dTru, dAndV, dOrV, dNotV, dIf, dOp, dUn, dVar, dC, dI, dIc, dAdd, dSub, dMul, dFd, dMod, dPow, dNeg, dLt, dLe, dGt, dGe, dIsN, dNotN, DL.isNon, ix_pR0, ix_pR1, ix_tup, ix_lst, ix_ref, dSl, dPart, dNoPart, dCB, len_tup, len_lst, len_ref, dAbs, dList, dTuple, dBls, dSum, dIsi, dIsi2, dtOf, isC, seqOf, lstOf, dCons, dNil, dTup, dLst, dRet, dRetN, dNext, dDrop, dAsg, gN, gsNil, gsCons, gT, gSubD, dSetL, dPar, dAug, dIpAdd, dIpSub, dCall, eq_int, eq_str, eq_bl, ne_int, ne_str, ne_bl, eq_pR, ne_pR, plus_eq, less_eq, times_eq, over_eq, floor_eq, ceil_eq, part_eq, below_eq, seq_pR, pick_nil, pick_p, pick_k, pick_d, dBreak, dCont, dLM, dLM0, isL, dAppend, dInsert, dPop, dPopAt, dRevL, dStr, dFmt, dJs, dMax2, dMin2, dSorted, dNewK, dctOf, dGetK, dHasK, DL.keyOf, dPutK, dDelK, dSortedD, dSet, dLstF, dRevF, dSlF, dListF, dSortedF, dSortedDF, dMaxF, dMinF, dInS, dLtA, dNewT, dGetT, dHasT, dctT, tkOf, keysOf, dTupP, dPutT, dPutP, putTk, pkOf, dSortedTF, dGet1, dGet2, dGet2T, dDisp1, dRep, dInt, dBits, dExtend, dReverse, dMaxDf, dCat, dCatF, dExtL, dDcT, Option.isSome_some, List.getElem?_cons_zero, List.getElem?_cons_succ, List.set_cons_zero, List.set_cons_succ, atI_0, atI_1, atI_2, atI_3, atI_4, atI_5, ixN_0, ixN_1, ixN_2, ixN_3, ixN_4, ixN_5, up_same, List.length_cons, List.length_nil, Bool.not_true, Bool.not_false, Bool.false_eq_true, if_true, if_false, reduceIte, dEqO]
      refine ⟨a1, d1, _, rfl, mB.m1.ob, .inr (.inr ⟨a2, d2, _, rfl, mB.m2.ob⟩), a1, d1, r1, ls, .ref a2, rfl, mB.m1, .inl ⟨a2, d2, r2, ms, rfl, mB.m2, _, rfl, a2, d2, _, rfl, mB.m2.ob, .inr (.inr ⟨a1, d1, _, rfl, mB.m1.ob⟩), a2, d2, r2, ms, .ref a1, rfl, mB.m2, .inl ⟨a1, d1, r1, ls, rfl, mB.m1, _, rfl, ?_⟩⟩⟩
      rw [hec, Bool.bne_false, Bool.bne_true]
      refine same_pl (n := 0) (x := .lst [.bl (decide (ls = ms)), .bl (!decide (ls = ms))]) (Pl.lst (fun y hy => by simp only [List.mem_cons, List.not_mem_nil, or_false] at hy; rcases hy with rfl | rfl <;> exact Pl.bl) (by simp)) ?_
      simp only [dIfS, dAndT, dOrT, dNotT, dTest, dTruth, dTru, dAndV, dOrV, dNotV, dIf, dOp, dUn, dVar, dC, dI, dIc, dAdd, dSub, dMul, dFd, dMod, dPow, dNeg, dLt, dLe, dGt, dGe, dIsN, dNotN, DL.isNon, ix_pR0, ix_pR1, ix_tup, ix_lst, ix_ref, dSl, dPart, dNoPart, dCB, len_tup, len_lst, len_ref, dAbs, dList, dTuple, dBls, dSum, dIsi, dIsi2, dtOf, isC, seqOf, lstOf, dCons, dNil, dTup, dLst, dRet, dRetN, dNext, dDrop, dAsg, gN, gsNil, gsCons, gT, gSubD, dSetL, dPar, dAug, dIpAdd, dIpSub, dCall, eq_int, eq_str, eq_bl, ne_int, ne_str, ne_bl, eq_pR, ne_pR, plus_eq, less_eq, times_eq, over_eq, floor_eq, ceil_eq, part_eq, below_eq, seq_pR, pick_nil, pick_p, pick_k, pick_d, dBreak, dCont, dLM, dLM0, isL, dAppend, dInsert, dPop, dPopAt, dRevL, dStr, dFmt, dJs, dMax2, dMin2, dSorted, dNewK, dctOf, dGetK, dHasK, DL.keyOf, dPutK, dDelK, dSortedD, dSet, dLstF, dRevF, dSlF, dListF, dSortedF, dSortedDF, dMaxF, dMinF, dInS, dLtA, dNewT, dGetT, dHasT, dctT, tkOf, keysOf, dTupP, dPutT, dPutP, putTk, pkOf, dSortedTF, dGet1, dGet2, dGet2T, dDisp1, dRep, dInt, dBits, dExtend, dReverse, dMaxDf, dCat, dCatF, dExtL, dDcT, Option.isSome_some, List.getElem?_cons_zero, List.getElem?_cons_succ, List.set_cons_zero, List.set_cons_succ, atI_0, atI_1, atI_2, atI_3, atI_4, atI_5, ixN_0, ixN_1, ixN_2, ixN_3, ixN_4, ixN_5, up_same, List.length_cons, List.length_nil, Bool.not_true, Bool.not_false, Bool.false_eq_true, if_true, if_false, reduceIte]
      subst hN
      refine seq1 fun N hN => ?_; simp only [dIfS, dAndT, dOrT, dNotT, dTest, dTruth, dTru, dAndV, dOrV, dNotV, dIf, dOp, dUn, dVar, dC, dI, dIc, dAdd, dSub, dMul, dFd, dMod, dPow, dNeg, dLt, dLe, dGt, dGe, dIsN, dNotN, DL.isNon, ix_pR0, ix_pR1, ix_tup, ix_lst, ix_ref, dSl, dPart, dNoPart, dCB, len_tup, len_lst, len_ref, dAbs, dList, dTuple, dBls, dSum, dIsi, dIsi2, dtOf, isC, seqOf, lstOf, dCons, dNil, dTup, dLst, dRet, dRetN, dNext, dDrop, dAsg, gN, gsNil, gsCons, gT, gSubD, dSetL, dPar, dAug, dIpAdd, dIpSub, dCall, eq_int, eq_str, eq_bl, ne_int, ne_str, ne_bl, eq_pR, ne_pR, plus_eq, less_eq, times_eq, over_eq, floor_eq, ceil_eq, part_eq, below_eq, seq_pR, pick_nil, pick_p, pick_k, pick_d, dBreak, dCont, dLM, dLM0, isL, dAppend, dInsert, dPop, dPopAt, dRevL, dStr, dFmt, dJs, dMax2, dMin2, dSorted, dNewK, dctOf, dGetK, dHasK, DL.keyOf, dPutK, dDelK, dSortedD, dSet, dLstF, dRevF, dSlF, dListF, dSortedF, dSortedDF, dMaxF, dMinF, dInS, dLtA, dNewT, dGetT, dHasT, dctT, tkOf, keysOf, dTupP, dPutT, dPutP, putTk, pkOf, dSortedTF, dGet1, dGet2, dGet2T, dDisp1, dRep, dInt, dBits, dExtend, dReverse, dMaxDf, dCat, dCatF, dExtL, dDcT, Option.isSome_some, List.getElem?_cons_zero, List.getElem?_cons_succ, List.set_cons_zero, List.set_cons_succ, atI_0, atI_1, atI_2, atI_3, atI_4, atI_5, ixN_0, ixN_1, ixN_2, ixN_3, ixN_4, ixN_5, up_same, List.length_cons, List.length_nil, Bool.not_true, Bool.not_false, Bool.false_eq_true, if_true, if_false, reduceIte, dEqO, dInO, dStrO, dLenO]
      refine ⟨a1, d1, _, rfl, mB.m1.ob, .inr (.inl ⟨_, lst_ref hB3⟩), a1, d1, r1, ls, .ref p3, rfl, mB.m1, .inr ⟨.inr ⟨_, lst_ref hB3⟩, _, rfl, ?_⟩⟩
      simp only [dIfS, dAndT, dOrT, dNotT, dTest, dTruth, dTru, dAndV, dOrV, dNotV, dIf, dOp, dUn, dVar, dC, dI, dIc, dAdd, dSub, dMul, dFd, dMod, dPow, dNeg, dLt, dLe, dGt, dGe, dIsN, dNotN, DL.isNon, ix_pR0, ix_pR1, ix_tup, ix_lst, ix_ref, dSl, dPart, dNoPart, dCB, len_tup, len_lst, len_ref, dAbs, dList, dTuple, dBls, dSum, dIsi, dIsi2, dtOf, isC, seqOf, lstOf, dCons, dNil, dTup, dLst, dRet, dRetN, dNext, dDrop, dAsg, gN, gsNil, gsCons, gT, gSubD, dSetL, dPar, dAug, dIpAdd, dIpSub, dCall, eq_int, eq_str, eq_bl, ne_int, ne_str, ne_bl, eq_pR, ne_pR, plus_eq, less_eq, times_eq, over_eq, floor_eq, ceil_eq, part_eq, below_eq, seq_pR, pick_nil, pick_p, pick_k, pick_d, dBreak, dCont, dLM, dLM0, isL, dAppend, dInsert, dPop, dPopAt, dRevL, dStr, dFmt, dJs, dMax2, dMin2, dSorted, dNewK, dctOf, dGetK, dHasK, DL.keyOf, dPutK, dDelK, dSortedD, dSet, dLstF, dRevF, dSlF, dListF, dSortedF, dSortedDF, dMaxF, dMinF, dInS, dLtA, dNewT, dGetT, dHasT, dctT, tkOf, keysOf, dTupP, dPutT, dPutP, putTk, pkOf, dSortedTF, dGet1, dGet2, dGet2T, dDisp1, dRep, dInt, dBits, dExtend, dReverse, dMaxDf, dCat, dCatF, dExtL, dDcT, Option.isSome_some, List.getElem?_cons_zero, List.getElem?_cons_succ, List.set_cons_zero, List.set_cons_succ, atI_0, atI_1, atI_2, atI_3, atI_4, atI_5, ixN_0, ixN_1, ixN_2, ixN_3, ixN_4, ixN_5, up_same, List.length_cons, List.length_nil, Bool.not_true, Bool.not_false, Bool.false_eq_true, if_true, if_false, reduceIte, Bool.bne_false]
      refine ⟨a1, d1, _, _, rfl, mB.m1.ob, rfl, fun z hz => ?_, fun z hz => ?_, d1, _, mB.m1.ob, a1, d1, r1, ls, rfl, mB.m1, hG, _, rfl, a1, d1, _, rfl, mB.m1.ob, .inl ⟨_, rfl⟩, a1, d1, r1, ls, .str (lsT ls), rfl, mB.m1, .inr ⟨.inl (.inr (.inr ⟨_, rfl⟩)), _, rfl, ?_⟩⟩
      · simp only [List.mem_cons, List.not_mem_nil, or_false] at hz
        rcases hz with rfl | rfl | rfl
        · exact .inl rfl
        · exact .inr (.inr ⟨_, rfl⟩)
        · exact .inr (.inl ⟨_, rfl⟩)
      · refine ⟨a1, d1, r1, ls, z, rfl, mB.m1, .inr ⟨.inl ?_, rfl, rfl⟩⟩
        simp only [List.mem_cons, List.not_mem_nil, or_false] at hz
        rcases hz with rfl | rfl | rfl
        · exact .inl rfl
        · exact .inr (.inr ⟨_, rfl⟩)
        · exact .inr (.inl ⟨_, rfl⟩)
      simp only [dIfS, dAndT, dOrT, dNotT, dTest, dTruth, dTru, dAndV, dOrV, dNotV, dIf, dOp, dUn, dVar, dC, dI, dIc, dAdd, dSub, dMul, dFd, dMod, dPow, dNeg, dLt, dLe, dGt, dGe, dIsN, dNotN, DL.isNon, ix_pR0, ix_pR1, ix_tup, ix_lst, ix_ref, dSl, dPart, dNoPart, dCB, len_tup, len_lst, len_ref, dAbs, dList, dTuple, dBls, dSum, dIsi, dIsi2, dtOf, isC, seqOf, lstOf, dCons, dNil, dTup, dLst, dRet, dRetN, dNext, dDrop, dAsg, gN, gsNil, gsCons, gT, gSubD, dSetL, dPar, dAug, dIpAdd, dIpSub, dCall, eq_int, eq_str, eq_bl, ne_int, ne_str, ne_bl, eq_pR, ne_pR, plus_eq, less_eq, times_eq, over_eq, floor_eq, ceil_eq, part_eq, below_eq, seq_pR, pick_nil, pick_p, pick_k, pick_d, dBreak, dCont, dLM, dLM0, isL, dAppend, dInsert, dPop, dPopAt, dRevL, dStr, dFmt, dJs, dMax2, dMin2, dSorted, dNewK, dctOf, dGetK, dHasK, DL.keyOf, dPutK, dDelK, dSortedD, dSet, dLstF, dRevF, dSlF, dListF, dSortedF, dSortedDF, dMaxF, dMinF, dInS, dLtA, dNewT, dGetT, dHasT, dctT, tkOf, keysOf, dTupP, dPutT, dPutP, putTk, pkOf, dSortedTF, dGet1, dGet2, dGet2T, dDisp1, dRep, dInt, dBits, dExtend, dReverse, dMaxDf, dCat, dCatF, dExtL, dDcT, Option.isSome_some, List.getElem?_cons_zero, List.getElem?_cons_succ, List.set_cons_zero, List.set_cons_succ, atI_0, atI_1, atI_2, atI_3, atI_4, atI_5, ixN_0, ixN_1, ixN_2, ixN_3, ixN_4, ixN_5, up_same, List.length_cons, List.length_nil, Bool.not_true, Bool.not_false, Bool.false_eq_true, if_true, if_false, reduceIte]
      refine ⟨d1, _, mB.m1.ob, a1, d1, r1, ls, rfl, mB.m1, hG, ((ls.flatten.length : Nat) : Int), rfl, by omega, by omega, ?_⟩
      rw [List.length_map]
      refine same_pl (n := 0) Pl.int ?_
      simp only [dIfS, dAndT, dOrT, dNotT, dTest, dTruth, dTru, dAndV, dOrV, dNotV, dIf, dOp, dUn, dVar, dC, dI, dIc, dAdd, dSub, dMul, dFd, dMod, dPow, dNeg, dLt, dLe, dGt, dGe, dIsN, dNotN, DL.isNon, ix_pR0, ix_pR1, ix_tup, ix_lst, ix_ref, dSl, dPart, dNoPart, dCB, len_tup, len_lst, len_ref, dAbs, dList, dTuple, dBls, dSum, dIsi, dIsi2, dtOf, isC, seqOf, lstOf, dCons, dNil, dTup, dLst, dRet, dRetN, dNext, dDrop, dAsg, gN, gsNil, gsCons, gT, gSubD, dSetL, dPar, dAug, dIpAdd, dIpSub, dCall, eq_int, eq_str, eq_bl, ne_int, ne_str, ne_bl, eq_pR, ne_pR, plus_eq, less_eq, times_eq, over_eq, floor_eq, ceil_eq, part_eq, below_eq, seq_pR, pick_nil, pick_p, pick_k, pick_d, dBreak, dCont, dLM, dLM0, isL, dAppend, dInsert, dPop, dPopAt, dRevL, dStr, dFmt, dJs, dMax2, dMin2, dSorted, dNewK, dctOf, dGetK, dHasK, DL.keyOf, dPutK, dDelK, dSortedD, dSet, dLstF, dRevF, dSlF, dListF, dSortedF, dSortedDF, dMaxF, dMinF, dInS, dLtA, dNewT, dGetT, dHasT, dctT, tkOf, keysOf, dTupP, dPutT, dPutP, putTk, pkOf, dSortedTF, dGet1, dGet2, dGet2T, dDisp1, dRep, dInt, dBits, dExtend, dReverse, dMaxDf, dCat, dCatF, dExtL, dDcT, Option.isSome_some, List.getElem?_cons_zero, List.getElem?_cons_succ, List.set_cons_zero, List.set_cons_succ, atI_0, atI_1, atI_2, atI_3, atI_4, atI_5, ixN_0, ixN_1, ixN_2, ixN_3, ixN_4, ixN_5, up_same, List.length_cons, List.length_nil, Bool.not_true, Bool.not_false, Bool.false_eq_true, if_true, if_false, reduceIte]
      subst hN
      -- the texts
      refine seq_by (fun g' O' => OB = O' ∧ g' = [some (.lst (ns.map D.int)), some (.ref b), some (.int (i : Nat)), some (.ref p3), some (.lst (ms.map lfD)), some (.ref p5), some (.ref a1), some (.ref a2), z8, some (.lst (ls.flatten.map pqD)), z10, z11, some (.bl (decide (ls = ms))), some (.lst ((ls.map lfT).map D.str)), z14, z15]) (fun N2 hN2 => ?_) ?_
      · simp only [dIfS, dAndT, dOrT, dNotT, dTest, dTruth, dTru, dAndV, dOrV, dNotV, dIf, dOp, dUn, dVar, dC, dI, dIc, dAdd, dSub, dMul, dFd, dMod, dPow, dNeg, dLt, dLe, dGt, dGe, dIsN, dNotN, DL.isNon, ix_pR0, ix_pR1, ix_tup, ix_lst, ix_ref, dSl, dPart, dNoPart, dCB, len_tup, len_lst, len_ref, dAbs, dList, dTuple, dBls, dSum, dIsi, dIsi2, dtOf, isC, seqOf, lstOf, dCons, dNil, dTup, dLst, dRet, dRetN, dNext, dDrop, dAsg, gN, gsNil, gsCons, gT, gSubD, dSetL, dPar, dAug, dIpAdd, dIpSub, dCall, eq_int, eq_str, eq_bl, ne_int, ne_str, ne_bl, eq_pR, ne_pR, plus_eq, less_eq, times_eq, over_eq, floor_eq, ceil_eq, part_eq, below_eq, seq_pR, pick_nil, pick_p, pick_k, pick_d, dBreak, dCont, dLM, dLM0, isL, dAppend, dInsert, dPop, dPopAt, dRevL, dStr, dFmt, dJs, dMax2, dMin2, dSorted, dNewK, dctOf, dGetK, dHasK, DL.keyOf, dPutK, dDelK, dSortedD, dSet, dLstF, dRevF, dSlF, dListF, dSortedF, dSortedDF, dMaxF, dMinF, dInS, dLtA, dNewT, dGetT, dHasT, dctT, tkOf, keysOf, dTupP, dPutT, dPutP, putTk, pkOf, dSortedTF, dGet1, dGet2, dGet2T, dDisp1, dRep, dInt, dBits, dExtend, dReverse, dMaxDf, dCat, dCatF, dExtL, dDcT, Option.isSome_some, List.getElem?_cons_zero, List.getElem?_cons_succ, List.set_cons_zero, List.set_cons_succ, atI_0, atI_1, atI_2, atI_3, atI_4, atI_5, ixN_0, ixN_1, ixN_2, ixN_3, ixN_4, ixN_5, up_same, List.length_cons, List.length_nil, Bool.not_true, Bool.not_false, Bool.false_eq_true, if_true, if_false, reduceIte, dFor, dRng1, dRng2, dRng3, dSeqI, dEnum, dEnumA, dZip, dLc, dLcF, wipeD, hB3]
        refine comp_all (f := lfD) (fun l => .str (lfT l)) hB3 (by omega) (fun l hl N acc hacc hN => ?_) ?_
        · have hgl := hG.all l hl
          simp only [dIfS, dAndT, dOrT, dNotT, dTest, dTruth, dTru, dAndV, dOrV, dNotV, dIf, dOp, dUn, dVar, dC, dI, dIc, dAdd, dSub, dMul, dFd, dMod, dPow, dNeg, dLt, dLe, dGt, dGe, dIsN, dNotN, DL.isNon, ix_pR0, ix_pR1, ix_tup, ix_lst, ix_ref, dSl, dPart, dNoPart, dCB, len_tup, len_lst, len_ref, dAbs, dList, dTuple, dBls, dSum, dIsi, dIsi2, dtOf, isC, seqOf, lstOf, dCons, dNil, dTup, dLst, dRet, dRetN, dNext, dDrop, dAsg, gN, gsNil, gsCons, gT, gSubD, dSetL, dPar, dAug, dIpAdd, dIpSub, dCall, eq_int, eq_str, eq_bl, ne_int, ne_str, ne_bl, eq_pR, ne_pR, plus_eq, less_eq, times_eq, over_eq, floor_eq, ceil_eq, part_eq, below_eq, seq_pR, pick_nil, pick_p, pick_k, pick_d, dBreak, dCont, dLM, dLM0, isL, dAppend, dInsert, dPop, dPopAt, dRevL, dStr, dFmt, dJs, dMax2, dMin2, dSorted, dNewK, dctOf, dGetK, dHasK, DL.keyOf, dPutK, dDelK, dSortedD, dSet, dLstF, dRevF, dSlF, dListF, dSortedF, dSortedDF, dMaxF, dMinF, dInS, dLtA, dNewT, dGetT, dHasT, dctT, tkOf, keysOf, dTupP, dPutT, dPutP, putTk, pkOf, dSortedTF, dGet1, dGet2, dGet2T, dDisp1, dRep, dInt, dBits, dExtend, dReverse, dMaxDf, dCat, dCatF, dExtL, dDcT, Option.isSome_some, List.getElem?_cons_zero, List.getElem?_cons_succ, List.set_cons_zero, List.set_cons_succ, atI_0, atI_1, atI_2, atI_3, atI_4, atI_5, ixN_0, ixN_1, ixN_2, ixN_3, ixN_4, ixN_5, up_same, List.length_cons, List.length_nil, Bool.not_true, Bool.not_false, Bool.false_eq_true, if_true, if_false, reduceIte, dFor, dRng1, dRng2, dRng3, dSeqI, dEnum, dEnumA, dZip, dLc, dLcF, wipeD, dYes, lfD, dJoin]
          refine comp_all (f := pqD) (fun p => .str (pqT p)) True.intro (by have := hgl.1; omega) (fun p hp N3 acc3 hacc3 hN3 => ?_) ?_
          · obtain ⟨p0, p1, q0, q1⟩ := hgl.2 p hp
            rw [show pqD p = .tup [.int p.1, .int p.2] from rfl]
            simp only [dIfS, dAndT, dOrT, dNotT, dTest, dTruth, dTru, dAndV, dOrV, dNotV, dIf, dOp, dUn, dVar, dC, dI, dIc, dAdd, dSub, dMul, dFd, dMod, dPow, dNeg, dLt, dLe, dGt, dGe, dIsN, dNotN, DL.isNon, ix_pR0, ix_pR1, ix_tup, ix_lst, ix_ref, dSl, dPart, dNoPart, dCB, len_tup, len_lst, len_ref, dAbs, dList, dTuple, dBls, dSum, dIsi, dIsi2, dtOf, isC, seqOf, lstOf, dCons, dNil, dTup, dLst, dRet, dRetN, dNext, dDrop, dAsg, gN, gsNil, gsCons, gT, gSubD, dSetL, dPar, dAug, dIpAdd, dIpSub, dCall, eq_int, eq_str, eq_bl, ne_int, ne_str, ne_bl, eq_pR, ne_pR, plus_eq, less_eq, times_eq, over_eq, floor_eq, ceil_eq, part_eq, below_eq, seq_pR, pick_nil, pick_p, pick_k, pick_d, dBreak, dCont, dLM, dLM0, isL, dAppend, dInsert, dPop, dPopAt, dRevL, dStr, dFmt, dJs, dMax2, dMin2, dSorted, dNewK, dctOf, dGetK, dHasK, DL.keyOf, dPutK, dDelK, dSortedD, dSet, dLstF, dRevF, dSlF, dListF, dSortedF, dSortedDF, dMaxF, dMinF, dInS, dLtA, dNewT, dGetT, dHasT, dctT, tkOf, keysOf, dTupP, dPutT, dPutP, putTk, pkOf, dSortedTF, dGet1, dGet2, dGet2T, dDisp1, dRep, dInt, dBits, dExtend, dReverse, dMaxDf, dCat, dCatF, dExtL, dDcT, Option.isSome_some, List.getElem?_cons_zero, List.getElem?_cons_succ, List.set_cons_zero, List.set_cons_succ, atI_0, atI_1, atI_2, atI_3, atI_4, atI_5, ixN_0, ixN_1, ixN_2, ixN_3, ixN_4, ixN_5, up_same, List.length_cons, List.length_nil, Bool.not_true, Bool.not_false, Bool.false_eq_true, if_true, if_false, reduceIte, dYes]
            have l1 := iT_len p0 p1
            have l2 := iT_len q0 q1
            have ld : (Str.ofString "-").length = 1 := rfl
            show True ∧ _ ∧ (iT p.1).length + (Str.ofString "-").length ≤ sizeLine ∧ _ ∧ (iT p.1 ++ Str.ofString "-").length + (iT p.2).length ≤ sizeLine ∧ acc3.length < sizeLine ∧ N3 (acc3 ++ [.str (pqT p)]) OB
            exact ⟨True.intro, log_12 p0 p1, by rw [sizeLine_eq]; omega, log_12 q0 q1, by rw [Str.length_append, sizeLine_eq]; omega, hacc3, hN3⟩
          rw [strs_map]
          exact ⟨" ", l.map pqT, rfl, rfl, Nat.le_trans (lf_fit hgl) (by decide), hacc, hN⟩
        rw [strs_map]
        exact hN2 _ _ ⟨rfl, rfl⟩
      rintro _ _ ⟨rfl, rfl⟩
      refine seq1 fun N hN => ?_; simp only [dIfS, dAndT, dOrT, dNotT, dTest, dTruth, dTru, dAndV, dOrV, dNotV, dIf, dOp, dUn, dVar, dC, dI, dIc, dAdd, dSub, dMul, dFd, dMod, dPow, dNeg, dLt, dLe, dGt, dGe, dIsN, dNotN, DL.isNon, ix_pR0, ix_pR1, ix_tup, ix_lst, ix_ref, dSl, dPart, dNoPart, dCB, len_tup, len_lst, len_ref, dAbs, dList, dTuple, dBls, dSum, dIsi, dIsi2, dtOf, isC, seqOf, lstOf, dCons, dNil, dTup, dLst, dRet, dRetN, dNext, dDrop, dAsg, gN, gsNil, gsCons, gT, gSubD, dSetL, dPar, dAug, dIpAdd, dIpSub, dCall, eq_int, eq_str, eq_bl, ne_int, ne_str, ne_bl, eq_pR, ne_pR, plus_eq, less_eq, times_eq, over_eq, floor_eq, ceil_eq, part_eq, below_eq, seq_pR, pick_nil, pick_p, pick_k, pick_d, dBreak, dCont, dLM, dLM0, isL, dAppend, dInsert, dPop, dPopAt, dRevL, dStr, dFmt, dJs, dMax2, dMin2, dSorted, dNewK, dctOf, dGetK, dHasK, DL.keyOf, dPutK, dDelK, dSortedD, dSet, dLstF, dRevF, dSlF, dListF, dSortedF, dSortedDF, dMaxF, dMinF, dInS, dLtA, dNewT, dGetT, dHasT, dctT, tkOf, keysOf, dTupP, dPutT, dPutP, putTk, pkOf, dSortedTF, dGet1, dGet2, dGet2T, dDisp1, dRep, dInt, dBits, dExtend, dReverse, dMaxDf, dCat, dCatF, dExtL, dDcT, Option.isSome_some, List.getElem?_cons_zero, List.getElem?_cons_succ, List.set_cons_zero, List.set_cons_succ, atI_0, atI_1, atI_2, atI_3, atI_4, atI_5, ixN_0, ixN_1, ixN_2, ixN_3, ixN_4, ixN_5, up_same, List.length_cons, List.length_nil, Bool.not_true, Bool.not_false, Bool.false_eq_true, if_true, if_false, reduceIte, dStrO, dJoin]
      refine ⟨d1, _, mB.m1.ob, a1, d1, r1, ls, rfl, mB.m1, hG, _, rfl, d1, _, mB.m1.ob, a1, d1, r1, ls, rfl, mB.m1, hG, _, rfl, " | ", ls.map lfT, rfl, rfl, Nat.le_trans (ls_fit hG) (by decide), shown_ls (lst_ref hB3) hG ?_⟩
      have hsl := shown_len hG
      have l1 : (Str.ofString "Layout(").length = 7 := rfl
      have l2 : (Str.ofString ")").length = 1 := rfl
      refine ⟨by rw [sizeLine_eq]; omega, by rw [Str.length_append, sizeLine_eq]; omega, ?_⟩
      refine same_pl (n := 0) (x := .lst [.str (lsT ls), .str (lyT ls)]) (Pl.lst (fun y hy => by simp only [List.mem_cons, List.not_mem_nil, or_false] at hy; rcases hy with rfl | rfl <;> exact Pl.str) (by simp)) ?_
      simp only [dIfS, dAndT, dOrT, dNotT, dTest, dTruth, dTru, dAndV, dOrV, dNotV, dIf, dOp, dUn, dVar, dC, dI, dIc, dAdd, dSub, dMul, dFd, dMod, dPow, dNeg, dLt, dLe, dGt, dGe, dIsN, dNotN, DL.isNon, ix_pR0, ix_pR1, ix_tup, ix_lst, ix_ref, dSl, dPart, dNoPart, dCB, len_tup, len_lst, len_ref, dAbs, dList, dTuple, dBls, dSum, dIsi, dIsi2, dtOf, isC, seqOf, lstOf, dCons, dNil, dTup, dLst, dRet, dRetN, dNext, dDrop, dAsg, gN, gsNil, gsCons, gT, gSubD, dSetL, dPar, dAug, dIpAdd, dIpSub, dCall, eq_int, eq_str, eq_bl, ne_int, ne_str, ne_bl, eq_pR, ne_pR, plus_eq, less_eq, times_eq, over_eq, floor_eq, ceil_eq, part_eq, below_eq, seq_pR, pick_nil, pick_p, pick_k, pick_d, dBreak, dCont, dLM, dLM0, isL, dAppend, dInsert, dPop, dPopAt, dRevL, dStr, dFmt, dJs, dMax2, dMin2, dSorted, dNewK, dctOf, dGetK, dHasK, DL.keyOf, dPutK, dDelK, dSortedD, dSet, dLstF, dRevF, dSlF, dListF, dSortedF, dSortedDF, dMaxF, dMinF, dInS, dLtA, dNewT, dGetT, dHasT, dctT, tkOf, keysOf, dTupP, dPutT, dPutP, putTk, pkOf, dSortedTF, dGet1, dGet2, dGet2T, dDisp1, dRep, dInt, dBits, dExtend, dReverse, dMaxDf, dCat, dCatF, dExtL, dDcT, Option.isSome_some, List.getElem?_cons_zero, List.getElem?_cons_succ, List.set_cons_zero, List.set_cons_succ, atI_0, atI_1, atI_2, atI_3, atI_4, atI_5, ixN_0, ixN_1, ixN_2, ixN_3, ixN_4, ixN_5, up_same, List.length_cons, List.length_nil, Bool.not_true, Bool.not_false, Bool.false_eq_true, if_true, if_false, reduceIte]
      subst hN
      simp only [dIfS, dAndT, dOrT, dNotT, dTest, dTruth, dTru, dAndV, dOrV, dNotV, dIf, dOp, dUn, dVar, dC, dI, dIc, dAdd, dSub, dMul, dFd, dMod, dPow, dNeg, dLt, dLe, dGt, dGe, dIsN, dNotN, DL.isNon, ix_pR0, ix_pR1, ix_tup, ix_lst, ix_ref, dSl, dPart, dNoPart, dCB, len_tup, len_lst, len_ref, dAbs, dList, dTuple, dBls, dSum, dIsi, dIsi2, dtOf, isC, seqOf, lstOf, dCons, dNil, dTup, dLst, dRet, dRetN, dNext, dDrop, dAsg, gN, gsNil, gsCons, gT, gSubD, dSetL, dPar, dAug, dIpAdd, dIpSub, dCall, eq_int, eq_str, eq_bl, ne_int, ne_str, ne_bl, eq_pR, ne_pR, plus_eq, less_eq, times_eq, over_eq, floor_eq, ceil_eq, part_eq, below_eq, seq_pR, pick_nil, pick_p, pick_k, pick_d, dBreak, dCont, dLM, dLM0, isL, dAppend, dInsert, dPop, dPopAt, dRevL, dStr, dFmt, dJs, dMax2, dMin2, dSorted, dNewK, dctOf, dGetK, dHasK, DL.keyOf, dPutK, dDelK, dSortedD, dSet, dLstF, dRevF, dSlF, dListF, dSortedF, dSortedDF, dMaxF, dMinF, dInS, dLtA, dNewT, dGetT, dHasT, dctT, tkOf, keysOf, dTupP, dPutT, dPutP, putTk, pkOf, dSortedTF, dGet1, dGet2, dGet2T, dDisp1, dRep, dInt, dBits, dExtend, dReverse, dMaxDf, dCat, dCatF, dExtL, dDcT, Option.isSome_some, List.getElem?_cons_zero, List.getElem?_cons_succ, List.set_cons_zero, List.set_cons_succ, atI_0, atI_1, atI_2, atI_3, atI_4, atI_5, ixN_0, ixN_1, ixN_2, ixN_3, ixN_4, ixN_5, up_same, List.length_cons, List.length_nil, Bool.not_true, Bool.not_false, Bool.false_eq_true, if_true, if_false, reduceIte, dBoolO]
      refine ⟨d1, _, mB.m1.ob, a1, d1, r1, ls, rfl, mB.m1, hG, ((ls.flatten.length : Nat) : Int), rfl, by omega, by omega, ?_⟩
      refine ne_anil (x := .lst (ls.flatten.map pqD)) rfl (SeenAll.map (n := 1) fun p _ => seen_pq p) (by decide) ?_
      have e9 : (((ls.flatten.length : Nat) : Int) != 0) = !(ls.flatten.map pqD).isEmpty := by
        cases ls.flatten with
        | nil => rfl
        | cons x xs =>
          rw [Bool.eq_iff_iff]
          simp only [List.length_cons, List.map_cons, List.isEmpty_cons, Bool.not_false, bne_iff_ne, ne_eq, iff_true]
          omega
      rw [e9]
      simp only [dIfS, dAndT, dOrT, dNotT, dTest, dTruth, dTru, dAndV, dOrV, dNotV, dIf, dOp, dUn, dVar, dC, dI, dIc, dAdd, dSub, dMul, dFd, dMod, dPow, dNeg, dLt, dLe, dGt, dGe, dIsN, dNotN, DL.isNon, ix_pR0, ix_pR1, ix_tup, ix_lst, ix_ref, dSl, dPart, dNoPart, dCB, len_tup, len_lst, len_ref, dAbs, dList, dTuple, dBls, dSum, dIsi, dIsi2, dtOf, isC, seqOf, lstOf, dCons, dNil, dTup, dLst, dRet, dRetN, dNext, dDrop, dAsg, gN, gsNil, gsCons, gT, gSubD, dSetL, dPar, dAug, dIpAdd, dIpSub, dCall, eq_int, eq_str, eq_bl, ne_int, ne_str, ne_bl, eq_pR, ne_pR, plus_eq, less_eq, times_eq, over_eq, floor_eq, ceil_eq, part_eq, below_eq, seq_pR, pick_nil, pick_p, pick_k, pick_d, dBreak, dCont, dLM, dLM0, isL, dAppend, dInsert, dPop, dPopAt, dRevL, dStr, dFmt, dJs, dMax2, dMin2, dSorted, dNewK, dctOf, dGetK, dHasK, DL.keyOf, dPutK, dDelK, dSortedD, dSet, dLstF, dRevF, dSlF, dListF, dSortedF, dSortedDF, dMaxF, dMinF, dInS, dLtA, dNewT, dGetT, dHasT, dctT, tkOf, keysOf, dTupP, dPutT, dPutP, putTk, pkOf, dSortedTF, dGet1, dGet2, dGet2T, dDisp1, dRep, dInt, dBits, dExtend, dReverse, dMaxDf, dCat, dCatF, dExtL, dDcT, Option.isSome_some, List.getElem?_cons_zero, List.getElem?_cons_succ, List.set_cons_zero, List.set_cons_succ, atI_0, atI_1, atI_2, atI_3, atI_4, atI_5, ixN_0, ixN_1, ixN_2, ixN_3, ixN_4, ixN_5, up_same, List.length_cons, List.length_nil, Bool.not_true, Bool.not_false, Bool.false_eq_true, if_true, if_false, reduceIte, decide_true]
      exact hM _ _ ⟨bagB, _, _, _, _, _, _, _, _, _, _, _, _, _, _, rfl⟩
    · rintro _ O _
      exact hN _ _ True.intro
  rintro g' O5 _
  simp only [dIfS, dAndT, dOrT, dNotT, dTest, dTruth, dTru, dAndV, dOrV, dNotV, dIf, dOp, dUn, dVar, dC, dI, dIc, dAdd, dSub, dMul, dFd, dMod, dPow, dNeg, dLt, dLe, dGt, dGe, dIsN, dNotN, DL.isNon, ix_pR0, ix_pR1, ix_tup, ix_lst, ix_ref, dSl, dPart, dNoPart, dCB, len_tup, len_lst, len_ref, dAbs, dList, dTuple, dBls, dSum, dIsi, dIsi2, dtOf, isC, seqOf, lstOf, dCons, dNil, dTup, dLst, dRet, dRetN, dNext, dDrop, dAsg, gN, gsNil, gsCons, gT, gSubD, dSetL, dPar, dAug, dIpAdd, dIpSub, dCall, eq_int, eq_str, eq_bl, ne_int, ne_str, ne_bl, eq_pR, ne_pR, plus_eq, less_eq, times_eq, over_eq, floor_eq, ceil_eq, part_eq, below_eq, seq_pR, pick_nil, pick_p, pick_k, pick_d, dBreak, dCont, dLM, dLM0, isL, dAppend, dInsert, dPop, dPopAt, dRevL, dStr, dFmt, dJs, dMax2, dMin2, dSorted, dNewK, dctOf, dGetK, dHasK, DL.keyOf, dPutK, dDelK, dSortedD, dSet, dLstF, dRevF, dSlF, dListF, dSortedF, dSortedDF, dMaxF, dMinF, dInS, dLtA, dNewT, dGetT, dHasT, dctT, tkOf, keysOf, dTupP, dPutT, dPutP, putTk, pkOf, dSortedTF, dGet1, dGet2, dGet2T, dDisp1, dRep, dInt, dBits, dExtend, dReverse, dMaxDf, dCat, dCatF, dExtL, dDcT, Option.isSome_some, List.getElem?_cons_zero, List.getElem?_cons_succ, List.set_cons_zero, List.set_cons_succ, atI_0, atI_1, atI_2, atI_3, atI_4, atI_5, ixN_0, ixN_1, ixN_2, ixN_3, ixN_4, ixN_5, up_same, List.length_cons, List.length_nil, Bool.not_true, Bool.not_false, Bool.false_eq_true, if_true, if_false, reduceIte]
  exact Fin.here (k _)
end Lw
set_option Elab.async false
set_option linter.all false
set_option maxRecDepth 100000
set_option maxHeartbeats 4000000
namespace Lw
open PySem PySem.Spec PyProof.Rows L2 DL
open Evl (Ex)
def top (i : Nat) : Stmt := PySem.Challenge.pw_burinleaf_k25_layouts_compared_and_writt.main.body.getD i (.Pass ⟨0, 0, 0, 0⟩)
structure Bt (K : PySem.W.Frag) (mg : Str → Option Value) : Prop where
  n_all : mg "all" = none
  n_bool : mg "bool" = none
  n_int : mg "int" = none
  n_isinstance : mg "isinstance" = none
  n_len : mg "len" = none
  n_list : mg "list" = none
  n_range : mg "range" = none
  n_repr : mg "repr" = none
  n_str : mg "str" = none
  n_sum : mg "sum" = none
  n_tuple : mg "tuple" = none
abbrev s_law_bag : Stmt := top 3
abbrev s_law_pull : Stmt := top 4
abbrev s_law_leaves : Stmt := top 5
abbrev s_Layout_init : Stmt := clsFn 0 (top 1)
abbrev s_Layout_eq : Stmt := clsFn 1 (top 1)
abbrev s_Layout_lines : Stmt := clsFn 6 (top 1)
abbrev s_Layout_len : Stmt := clsFn 2 (top 1)
abbrev s_Layout_pages : Stmt := clsFn 5 (top 1)
abbrev s_law_same : Stmt := top 6
abbrev s_Layout_str : Stmt := clsFn 3 (top 1)
abbrev s_Layout_repr : Stmt := clsFn 4 (top 1)
abbrev s_law_v24 : Stmt := top 7
structure Ob_Layout (K : PySem.W.Frag) (mg : Str → Option Value) (C fI f_pages f_lines f_eq f_len f_str f_repr : Addr) : Prop where
  cl : Cls K C
  mak : L2.Mk K C fI
  g : mg "Layout" = some (.ref C)
  n_sheets : NoAttr K C "sheets"
  m_pages : Meth K C "pages" f_pages
  m_lines : Meth K C "lines" f_lines
  m_eq : Meth K C "__eq__" f_eq
  m_len : Meth K C "__len__" f_len
  m_str : Meth K C "__str__" f_str
  m_repr : Meth K C "__repr__" f_repr
  o_bool : PySem.W.findIn K (.ref C) "__bool__" = some none
  o_ne : PySem.W.findIn K (.ref C) "__ne__" = some (some (.builtin "object.__ne__"))
  o_obj : PySem.W.mroIn K C (.type "object") = some true
  o_sub : PySem.W.subIn K (.ref C) (.type "int") = some false ∧ PySem.W.subIn K (.ref C) (.type "str") = some false ∧ PySem.W.subIn K (.ref C) (.type "NoneType") = some false
section
variable {P : Program} {w : World} {K : PySem.W.Frag} {mg : Str → Option Value} {base : Heap}
theorem b_law_bag_0 {f : Addr} {fd : FuncData} (F : FunD K "_law_bag" "_law_bag" (defArgs s_law_bag) (defBody s_law_bag) (defScope s_law_bag) [] [] f fd) : Bnd K fd ["_law_script"] 1 [] [.p 0] [] :=
  bnd0 F fun _ _ _ _ _ _ us ws h1 h2 => match us, ws, h1, h2 with | [_], [], _, _ => rfl
theorem v_law_bag_0 : ∀ G, VRs K G ([] : List V) [] := fun _ => .nil
theorem sc_law_bag : FnScope n_law_bag ["_law_script"] (defScope s_law_bag) := ⟨rfl, rfl, rfl, by decide +kernel, rfl, by decide +kernel, by decide +kernel⟩
theorem pd_law_bag {f : Addr} (B : Bt K mg) : ∀ (cdv : Value) (A : Around) (outer : List Env) (s : Shared) (H : Hp) (E : XK), Room 0 (A.deeper (envOfC "_law_bag" (defScope s_law_bag) s.heap.objs.size f cdv)) →
    PSs (cxOf CX0 P w K mg base n_law_bag "_law_bag" (defScope s_law_bag) f cdv A outer s H E).nox (defBody s_law_bag) (lowS K W0 (t_law_bag)) := by
  intro cdv A outer s H E hr
  have sc := sc_law_bag
  exact (s_one (s_ret (e_lst (a_cons (e_callTy call_list_of sList B.n_list (by decide +kernel) (a_cons (e_slice (e_v 0) o_none (o_some e_int)) a_nil)) (a_cons e_int (a_cons e_int (a_cons (e_add e_int (e_mul e_int (e_callB callLen sLen B.n_len (by decide +kernel) (a_cons (e_slice (e_v 0) o_none (o_some e_int)) a_nil)))) (a_cons e_int a_nil))))))))
theorem b_law_pull_0 {f : Addr} {fd : FuncData} (F : FunD K "_law_pull" "_law_pull" (defArgs s_law_pull) (defBody s_law_pull) (defScope s_law_pull) [] [] f fd) : Bnd K fd ["_law_bag_here", "_law_sides"] 2 [] [.p 0, .p 1] [] :=
  bnd0 F fun _ _ _ _ _ _ us ws h1 h2 => match us, ws, h1, h2 with | [_, _], [], _, _ => rfl
theorem v_law_pull_0 : ∀ G, VRs K G ([] : List V) [] := fun _ => .nil
theorem sc_law_pull : FnScope n_law_pull ["_law_bag_here", "_law_sides"] (defScope s_law_pull) := ⟨rfl, rfl, rfl, by decide +kernel, rfl, by decide +kernel, by decide +kernel⟩
theorem pd_law_pull {f : Addr} (B : Bt K mg) : ∀ (cdv : Value) (A : Around) (outer : List Env) (s : Shared) (H : Hp) (E : XK), Room 0 (A.deeper (envOfC "_law_pull" (defScope s_law_pull) s.heap.objs.size f cdv)) →
    PSs (cxOf CX0 P w K mg base n_law_pull "_law_pull" (defScope s_law_pull) f cdv A outer s H E).nox (defBody s_law_pull) (lowS K W0 (t_law_pull)) := by
  intro cdv A outer s H E hr
  have sc := sc_law_pull
  exact (s_cons (s_if (L2.PW.pt (w_and (t_cmp (opEq hr) sEq (e_ixS (e_v 0) e_int) e_int (nomark _)) (w_and1 (t_cmp op_lt sLt (e_ixS (e_v 0) e_int) (e_callB callLen sLen B.n_len (by decide +kernel) (a_cons (e_ixS (e_v 0) e_int) a_nil)) (nomark _)))))
    (s_cons (s_set (i := 2) sc.nd rfl (by first | exact Or.inl rfl | exact Or.inr rfl) (e_ixS (e_ixS (e_v 0) e_int) (e_ixS (e_v 0) e_int)))
  (s_cons (s_asg (e_add (e_ixS (e_v 0) e_int) e_int) (g_sub (e_v 0) e_int set_list sSetL))
  (s_one (s_if (t_cmp op_ge sGe (e_v 2) (e_pow e_int e_int) (nomark _))
    (s_one (s_asg (e_v 2) (g_sub (e_v 0) e_int set_list sSetL)))
    (s_one (s_asg (e_mod (e_add (e_add (e_mul (e_ixS (e_v 0) e_int) e_int) (e_mul (e_mod (e_v 2) e_int) e_int)) e_int) e_int) (g_sub (e_v 0) e_int set_list sSetL)))))))
    s_nil)
  (s_cons (s_if (t_cmp op_gt sGt (e_ixS (e_v 0) e_int) e_int (nomark _))
    (s_cons (s_set (i := 3) sc.nd rfl (by first | exact Or.inl rfl | exact Or.inr rfl) (e_mod (e_ixS (e_v 0) e_int) (e_v 1)))
  (s_cons (s_asg (e_fd (e_ixS (e_v 0) e_int) (e_v 1)) (g_sub (e_v 0) e_int set_list sSetL))
  (s_one (s_ret (e_v 3)))))
    s_nil)
  (s_cons (s_set (i := 4) sc.nd rfl (by first | exact Or.inl rfl | exact Or.inr rfl) (e_ixS (e_v 0) e_int))
  (s_cons (s_asg (e_add (e_ixS (e_v 0) e_int) e_int) (g_sub (e_v 0) e_int set_list sSetL))
  (s_cons (s_asg (e_mod (e_add (e_add (e_pow (e_v 4) e_int) (e_mul e_int (e_v 4))) (e_mul e_int (e_ixS (e_v 0) e_int))) e_int) (g_sub (e_v 0) e_int set_list sSetL))
  (s_one (s_ret (e_mod (e_add (e_fd (e_ixS (e_v 0) e_int) e_int) (e_mul (e_mod (e_ixS (e_v 0) e_int) e_int) e_int)) (e_v 1)))))))))
theorem b_law_leaves_0 {f : Addr} {fd : FuncData} (F : FunD K "_law_leaves" "_law_leaves" (defArgs s_law_leaves) (defBody s_law_leaves) (defScope s_law_leaves) [] [] f fd) : Bnd K fd ["_law_bag_here"] 1 [] [.p 0] [] :=
  bnd0 F fun _ _ _ _ _ _ us ws h1 h2 => match us, ws, h1, h2 with | [_], [], _, _ => rfl
theorem v_law_leaves_0 : ∀ G, VRs K G ([] : List V) [] := fun _ => .nil
theorem sc_law_leaves : FnScope n_law_leaves ["_law_bag_here"] (defScope s_law_leaves) := ⟨rfl, rfl, rfl, by decide +kernel, rfl, by decide +kernel, by decide +kernel⟩
theorem pd_law_leaves {f : Addr} {f_law_pull : Addr} {fd_law_pull : FuncData} (B : Bt K mg) (c_law_pull : Df P w K mg base 1 s_law_pull "_law_pull" ["_law_bag_here", "_law_sides"] [] [] sp_law_pull f_law_pull fd_law_pull) : ∀ (cdv : Value) (A : Around) (outer : List Env) (s : Shared) (H : Hp) (E : XK), Room 1 (A.deeper (envOfC "_law_leaves" (defScope s_law_leaves) s.heap.objs.size f cdv)) →
    PSs (cxOf CX0 P w K mg base n_law_leaves "_law_leaves" (defScope s_law_leaves) f cdv A outer s H E).nox (defBody s_law_leaves) (lowS K W0 (t_law_leaves)) := by
  intro cdv A outer s H E hr
  have sc := sc_law_leaves
  exact (s_cons (s_set (i := 1) sc.nd rfl (by first | exact Or.inl rfl | exact Or.inr rfl) (e_lst a_nil))
  (s_cons (s_for PassesOwn.never rfl (i_range1 B.n_range (a_cons (e_call c_law_pull.ok (hr.mono (by decide)) c_law_pull.mg c_law_pull.fn.kp (b_law_pull_0 c_law_pull.fn) v_law_pull_0 (a_cons (e_v 0) (a_cons e_int a_nil)) k_nil) a_nil)) (g_name (i := 2) sc.nd rfl (by first | exact Or.inl rfl | exact Or.inr rfl))
    (s_one (s_expr (e_append (e_v 1) (a_cons (e_lcF rfl sc.nd (i_range1 B.n_range (a_cons (e_call c_law_pull.ok (hr.mono (by decide)) c_law_pull.mg c_law_pull.fn.kp (b_law_pull_0 c_law_pull.fn) v_law_pull_0 (a_cons (e_v 0) (a_cons e_int a_nil)) k_nil) a_nil)) (own := [("_law_at", 3)]) (by exact blkOk_by (N := n_law_leaves) (sc := defScope s_law_leaves) (by decide +kernel)) (fun _ _ _ _ _ => (gw_name (i := 3) sc.nd rfl (by first | exact Or.inl rfl | exact Or.inr rfl))) (fun _ _ _ _ _ => ts_nil) (fun _ _ _ _ _ => (e_tup (a_cons (e_call c_law_pull.ok (hr.mono (by decide)) c_law_pull.mg c_law_pull.fn.kp (b_law_pull_0 c_law_pull.fn) v_law_pull_0 (a_cons (e_v 0) (a_cons e_int a_nil)) k_nil) (a_cons (e_call c_law_pull.ok (hr.mono (by decide)) c_law_pull.mg c_law_pull.fn.kp (b_law_pull_0 c_law_pull.fn) v_law_pull_0 (a_cons (e_v 0) (a_cons e_int a_nil)) k_nil) a_nil))))) a_nil)))))
  (s_one (s_ret (e_v 1)))))
theorem b_Layout_init_0 {f : Addr} {fd : FuncData} (F : FunD K "__init__" "Layout.__init__" (defArgs s_Layout_init) (defBody s_Layout_init) (defScope s_Layout_init) [] [] f fd) : Bnd K fd ["self", "pages"] 2 [] [.p 0, .p 1] [] :=
  bnd0 F fun _ _ _ _ _ _ us ws h1 h2 => match us, ws, h1, h2 with | [_, _], [], _, _ => rfl
theorem v_Layout_init_0 : ∀ G, VRs K G ([] : List V) [] := fun _ => .nil
theorem b_Layout_init_1 {f : Addr} {fd : FuncData} (F : FunD K "__init__" "Layout.__init__" (defArgs s_Layout_init) (defBody s_Layout_init) (defScope s_Layout_init) [] [] f fd) : Bnd K fd ["self", "pages"] 1 ["pages"] [.p 0, .k 0] [] :=
  bnd0 F fun _ _ _ _ _ _ us ws h1 h2 => match us, ws, h1, h2 with | [_], [_], _, _ => rfl
theorem v_Layout_init_1 : ∀ G, VRs K G ([] : List V) [] := fun _ => .nil
theorem sc_Layout_init : FnScope n_Layout_init ["self", "pages"] (defScope s_Layout_init) := ⟨rfl, rfl, rfl, by decide +kernel, rfl, by decide +kernel, by decide +kernel⟩
theorem pd_Layout_init {f : Addr} {tb : Tb} {f_Layout_init : Addr} {f_Layout_pages : Addr} {f_Layout_lines : Addr} {f_Layout_eq : Addr} {f_Layout_len : Addr} {f_Layout_str : Addr} {f_Layout_repr : Addr} (B : Bt K mg) (T_Layout : Ob_Layout K mg tb.Layout f_Layout_init f_Layout_pages f_Layout_lines f_Layout_eq f_Layout_len f_Layout_str f_Layout_repr) : ∀ (cdv : Value) (A : Around) (outer : List Env) (s : Shared) (H : Hp) (E : XK), Room 0 (A.deeper (envOfC "Layout.__init__" (defScope s_Layout_init) s.heap.objs.size f cdv)) →
    PSs (cxOf CX0 P w K mg base n_Layout_init "Layout.__init__" (defScope s_Layout_init) f cdv A outer s H E).nox (defBody s_Layout_init) (lowS K W0 (t_Layout_init tb)) := by
  intro cdv A outer s H E hr
  have sc := sc_Layout_init
  exact (s_one (s_fld T_Layout.cl T_Layout.n_sheets (e_v 0) (x_of (e_lc rfl sc.nd (i_seq (e_v 1)) (own := [("page", 2)]) (by exact blkOk_by (N := n_Layout_init) (sc := defScope s_Layout_init) (by decide +kernel)) (fun _ _ _ _ _ => (gw_name (i := 2) sc.nd rfl (by first | exact Or.inl rfl | exact Or.inr rfl))) (fun _ _ _ _ _ => ts_nil) (fun _ _ _ _ _ => (e_callTy call_list_of sListF B.n_list (by decide +kernel) (a_cons (e_v 2) a_nil)))))))
theorem b_Layout_eq_0 {f : Addr} {fd : FuncData} (F : FunD K "__eq__" "Layout.__eq__" (defArgs s_Layout_eq) (defBody s_Layout_eq) (defScope s_Layout_eq) [] [] f fd) : Bnd K fd ["self", "other"] 2 [] [.p 0, .p 1] [] :=
  bnd0 F fun _ _ _ _ _ _ us ws h1 h2 => match us, ws, h1, h2 with | [_, _], [], _, _ => rfl
theorem sc_Layout_eq : FnScope n_Layout_eq ["self", "other"] (defScope s_Layout_eq) := ⟨rfl, rfl, rfl, by decide +kernel, rfl, by decide +kernel, by decide +kernel⟩
theorem pd_Layout_eq {f : Addr} {tb : Tb} {f_Layout_init : Addr} {f_Layout_pages : Addr} {f_Layout_lines : Addr} {f_Layout_eq : Addr} {f_Layout_len : Addr} {f_Layout_str : Addr} {f_Layout_repr : Addr} (B : Bt K mg) (W_Layout : InsO2 K mg "Layout" tb.Layout) (Y_Layout : InsO K mg "Layout" tb.Layout) (T_Layout : Ob_Layout K mg tb.Layout f_Layout_init f_Layout_pages f_Layout_lines f_Layout_eq f_Layout_len f_Layout_str f_Layout_repr) : ∀ (cdv : Value) (A : Around) (outer : List Env) (s : Shared) (H : Hp) (E : XK), Room 2 (A.deeper (envOfC "Layout.__eq__" (defScope s_Layout_eq) s.heap.objs.size f cdv)) →
    PSs (cxOf CX0 P w K mg base n_Layout_eq "Layout.__eq__" (defScope s_Layout_eq) f cdv A outer s H E).nox (defBody s_Layout_eq) (lowS K W0 (t_Layout_eq tb)) := by
  intro cdv A outer s H E hr
  have sc := sc_Layout_eq
  exact (s_one (s_ret (e_and (e_isO2 W_Layout B.n_isinstance (e_v 1)) (e_one (e_cmp (opEq hr) sEq (e_fld T_Layout.cl T_Layout.n_sheets (e_v 0)) (e_fld T_Layout.cl T_Layout.n_sheets (e_v 1)) (nomark _))))))
theorem b_Layout_lines_0 {f : Addr} {fd : FuncData} (F : FunD K "lines" "Layout.lines" (defArgs s_Layout_lines) (defBody s_Layout_lines) (defScope s_Layout_lines) [] [] f fd) : Bnd K fd ["self"] 1 [] [.p 0] [] :=
  bnd0 F fun _ _ _ _ _ _ us ws h1 h2 => match us, ws, h1, h2 with | [_], [], _, _ => rfl
theorem v_Layout_lines_0 : ∀ G, VRs K G ([] : List V) [] := fun _ => .nil
theorem sc_Layout_lines : FnScope n_Layout_lines ["self"] (defScope s_Layout_lines) := ⟨rfl, rfl, rfl, by decide +kernel, rfl, by decide +kernel, by decide +kernel⟩
theorem pd_Layout_lines {f : Addr} {tb : Tb} {f_Layout_init : Addr} {f_Layout_pages : Addr} {f_Layout_lines : Addr} {f_Layout_eq : Addr} {f_Layout_len : Addr} {f_Layout_str : Addr} {f_Layout_repr : Addr} (B : Bt K mg) (T_Layout : Ob_Layout K mg tb.Layout f_Layout_init f_Layout_pages f_Layout_lines f_Layout_eq f_Layout_len f_Layout_str f_Layout_repr) : ∀ (cdv : Value) (A : Around) (outer : List Env) (s : Shared) (H : Hp) (E : XK), Room 0 (A.deeper (envOfC "Layout.lines" (defScope s_Layout_lines) s.heap.objs.size f cdv)) →
    PSs (cxOf CX0 P w K mg base n_Layout_lines "Layout.lines" (defScope s_Layout_lines) f cdv A outer s H E).nox (defBody s_Layout_lines) (lowS K W0 (t_Layout_linesO tb)) := by
  intro cdv A outer s H E hr
  have sc := sc_Layout_lines
  exact (s_one (s_ret (e_lc2 rfl sc.nd (i_seq (e_fld T_Layout.cl T_Layout.n_sheets (e_v 0))) (own := [("page", 1), ("line", 2)]) (vs1 := [2]) (by exact blkOk_by (N := n_Layout_lines) (sc := defScope s_Layout_lines) (by decide +kernel)) (by decide) (fun _ _ _ _ _ => (gw_name (i := 1) sc.nd rfl (by first | exact Or.inl rfl | exact Or.inr rfl))) (fun _ _ _ _ _ => ts_nil) (fun _ _ _ _ _ => (i_seq (e_v 1))) (fun _ _ _ _ _ => (gw_name (i := 2) sc.nd rfl (by first | exact Or.inl rfl | exact Or.inr rfl))) (fun _ _ _ _ _ => ts_nil) (fun _ _ _ _ _ => (e_v 2)))))
theorem b_Layout_len_0 {f : Addr} {fd : FuncData} (F : FunD K "__len__" "Layout.__len__" (defArgs s_Layout_len) (defBody s_Layout_len) (defScope s_Layout_len) [] [] f fd) : Bnd K fd ["self"] 1 [] [.p 0] [] :=
  bnd0 F fun _ _ _ _ _ _ us ws h1 h2 => match us, ws, h1, h2 with | [_], [], _, _ => rfl
theorem sc_Layout_len : FnScope n_Layout_len ["self"] (defScope s_Layout_len) := ⟨rfl, rfl, rfl, by decide +kernel, rfl, by decide +kernel, by decide +kernel⟩
theorem pd_Layout_len {f : Addr} {tb : Tb} {f_Layout_lines : Addr} {fd_Layout_lines : FuncData} {f_Layout_init : Addr} {f_Layout_pages : Addr} {f_Layout_eq : Addr} {f_Layout_len : Addr} {f_Layout_str : Addr} {f_Layout_repr : Addr} (B : Bt K mg) (T_Layout : Ob_Layout K mg tb.Layout f_Layout_init f_Layout_pages f_Layout_lines f_Layout_eq f_Layout_len f_Layout_str f_Layout_repr) (c_Layout_lines : Dm P w K mg base 1 s_Layout_lines "lines" "Layout.lines" ["self"] [] [] (sp_Layout_lines tb) f_Layout_lines fd_Layout_lines) : ∀ (cdv : Value) (A : Around) (outer : List Env) (s : Shared) (H : Hp) (E : XK), Room 1 (A.deeper (envOfC "Layout.__len__" (defScope s_Layout_len) s.heap.objs.size f cdv)) →
    PSs (cxOf CX0 P w K mg base n_Layout_len "Layout.__len__" (defScope s_Layout_len) f cdv A outer s H E).nox (defBody s_Layout_len) (lowS K W0 (t_Layout_len tb)) := by
  intro cdv A outer s H E hr
  have sc := sc_Layout_len
  exact (s_one (s_ret (e_callB callLen sLen B.n_len (by decide +kernel) (a_cons (e_meth0 (e_v 0) T_Layout.cl T_Layout.m_lines c_Layout_lines.ok (hr.mono (by omega)) (b_Layout_lines_0 c_Layout_lines.fn) v_Layout_lines_0) a_nil))))
theorem b_Layout_pages_0 {f : Addr} {fd : FuncData} (F : FunD K "pages" "Layout.pages" (defArgs s_Layout_pages) (defBody s_Layout_pages) (defScope s_Layout_pages) [] [] f fd) : Bnd K fd ["self"] 1 [] [.p 0] [] :=
  bnd0 F fun _ _ _ _ _ _ us ws h1 h2 => match us, ws, h1, h2 with | [_], [], _, _ => rfl
theorem v_Layout_pages_0 : ∀ G, VRs K G ([] : List V) [] := fun _ => .nil
theorem sc_Layout_pages : FnScope n_Layout_pages ["self"] (defScope s_Layout_pages) := ⟨rfl, rfl, rfl, by decide +kernel, rfl, by decide +kernel, by decide +kernel⟩
theorem pd_Layout_pages {f : Addr} {tb : Tb} {f_Layout_init : Addr} {f_Layout_pages : Addr} {f_Layout_lines : Addr} {f_Layout_eq : Addr} {f_Layout_len : Addr} {f_Layout_str : Addr} {f_Layout_repr : Addr} (B : Bt K mg) (T_Layout : Ob_Layout K mg tb.Layout f_Layout_init f_Layout_pages f_Layout_lines f_Layout_eq f_Layout_len f_Layout_str f_Layout_repr) : ∀ (cdv : Value) (A : Around) (outer : List Env) (s : Shared) (H : Hp) (E : XK), Room 0 (A.deeper (envOfC "Layout.pages" (defScope s_Layout_pages) s.heap.objs.size f cdv)) →
    PSs (cxOf CX0 P w K mg base n_Layout_pages "Layout.pages" (defScope s_Layout_pages) f cdv A outer s H E).nox (defBody s_Layout_pages) (lowS K W0 (t_Layout_pagesO tb)) := by
  intro cdv A outer s H E hr
  have sc := sc_Layout_pages
  exact (s_one (s_ret (e_lc rfl sc.nd (i_seq (e_fld T_Layout.cl T_Layout.n_sheets (e_v 0))) (own := [("page", 1)]) (by exact blkOk_by (N := n_Layout_pages) (sc := defScope s_Layout_pages) (by decide +kernel)) (fun _ _ _ _ _ => (gw_name (i := 1) sc.nd rfl (by first | exact Or.inl rfl | exact Or.inr rfl))) (fun _ _ _ _ _ => ts_nil) (fun _ _ _ _ _ => (e_callTy call_list_of sList B.n_list (by decide +kernel) (a_cons (e_v 1) a_nil))))))
theorem b_law_same_0 {f : Addr} {fd : FuncData} (F : FunD K "_law_same" "_law_same" (defArgs s_law_same) (defBody s_law_same) (defScope s_law_same) [] [] f fd) : Bnd K fd ["_law_found", "_law_due"] 2 [] [.p 0, .p 1] [] :=
  bnd0 F fun _ _ _ _ _ _ us ws h1 h2 => match us, ws, h1, h2 with | [_, _], [], _, _ => rfl
theorem v_law_same_0 : ∀ G, VRs K G ([] : List V) [] := fun _ => .nil
theorem sc_law_same : FnScope n_law_same ["_law_found", "_law_due"] (defScope s_law_same) := ⟨rfl, rfl, rfl, by decide +kernel, rfl, by decide +kernel, by decide +kernel⟩
theorem pd_law_same {f : Addr} {k : Nat} {sp_law_same : DSp} {f_law_same : Addr} {fd_law_same : FuncData} (B : Bt K mg) (c_law_same : Df P w K mg base k s_law_same "_law_same" ["_law_found", "_law_due"] [] [] sp_law_same f_law_same fd_law_same) : ∀ (cdv : Value) (A : Around) (outer : List Env) (s : Shared) (H : Hp) (E : XK), Room k (A.deeper (envOfC "_law_same" (defScope s_law_same) s.heap.objs.size f cdv)) →
    PSs (cxOf CX0 P w K mg base n_law_same "_law_same" (defScope s_law_same) f cdv A outer s H E).nox (defBody s_law_same) (lowS K W0 (t_law_same sp_law_same)) := by
  intro cdv A outer s H E hr
  have sc := sc_law_same
  exact (s_cons (s_if (t_val (e_isi2 .lst .tup (by decide) (by decide) B.n_isinstance (e_v 1) (e_bltn (v := .ty "list") (u := .type "list") B.n_list (by decide +kernel) rfl fun _ => .ty _) (e_bltn (v := .ty "tuple") (u := .type "tuple") B.n_tuple (by decide +kernel) rfl fun _ => .ty _)))
    (s_cons (s_if (L2.PW.pt (w_or (t_cmp (opNe hr) sNe (e_isi .lst (by decide) B.n_isinstance (e_v 0) (e_bltn (v := .ty "list") (u := .type "list") B.n_list (by decide +kernel) rfl fun _ => .ty _)) (e_isi .lst (by decide) B.n_isinstance (e_v 1) (e_bltn (v := .ty "list") (u := .type "list") B.n_list (by decide +kernel) rfl fun _ => .ty _)) (nomark _)) (w_or1 (t_cmp (opNe hr) sNe (e_isi .tup (by decide) B.n_isinstance (e_v 0) (e_bltn (v := .ty "tuple") (u := .type "tuple") B.n_tuple (by decide +kernel) rfl fun _ => .ty _)) (e_isi .tup (by decide) B.n_isinstance (e_v 1) (e_bltn (v := .ty "tuple") (u := .type "tuple") B.n_tuple (by decide +kernel) rfl fun _ => .ty _)) (nomark _)))))
    (s_one (s_ret e_bl))
    s_nil)
  (s_one (s_ret (e_and (e_cmp (opEq hr) sEq (e_callB callLen sLen B.n_len (by decide +kernel) (a_cons (e_v 0) a_nil)) (e_callB callLen sLen B.n_len (by decide +kernel) (a_cons (e_v 1) a_nil)) (nomark _)) (e_one (e_callB (callAll rfl) sBls B.n_all (by decide +kernel) (a_cons (e_lc rfl sc.nd (i_range1 B.n_range (a_cons (e_callB callLen sLen B.n_len (by decide +kernel) (a_cons (e_v 1) a_nil)) a_nil)) (own := [("_law_k", 2)]) (by exact blkOk_by (N := n_law_same) (sc := defScope s_law_same) (by decide +kernel)) (fun _ _ _ _ _ => (gw_name (i := 2) sc.nd rfl (by first | exact Or.inl rfl | exact Or.inr rfl))) (fun _ _ _ _ _ => ts_nil) (fun _ _ _ _ _ => (e_call c_law_same.ok hr c_law_same.mg c_law_same.fn.kp (b_law_same_0 c_law_same.fn) v_law_same_0 (a_cons (e_ixS (e_v 0) (e_v 2)) (a_cons (e_ixS (e_v 1) (e_v 2)) a_nil)) k_nil))) a_nil)))))))
    s_nil)
  (s_cons (s_if (L2.PW.pt (w_or (t_cmp op_isN sIsN (e_v 1) e_non (nomark _)) (w_or1 (t_cmp op_isN sIsN (e_v 0) e_non (nomark _)))))
    (s_one (s_ret (e_and (e_cmp op_isN sIsN (e_v 0) e_non (nomark _)) (e_one (e_cmp op_isN sIsN (e_v 1) e_non (nomark _))))))
    s_nil)
  (s_cons (s_if (L2.PW.pt (w_or (t_cmp (opNe hr) sNe (e_isi .bl (by decide) B.n_isinstance (e_v 1) (e_bltn (v := .ty "bool") (u := .type "bool") B.n_bool (by decide +kernel) rfl fun _ => .ty _)) (e_isi .bl (by decide) B.n_isinstance (e_v 0) (e_bltn (v := .ty "bool") (u := .type "bool") B.n_bool (by decide +kernel) rfl fun _ => .ty _)) (nomark _)) (w_or1 (t_cmp (opNe hr) sNe (e_isi .int (by decide) B.n_isinstance (e_v 1) (e_bltn (v := .ty "int") (u := .type "int") B.n_int (by decide +kernel) rfl fun _ => .ty _)) (e_isi .int (by decide) B.n_isinstance (e_v 0) (e_bltn (v := .ty "int") (u := .type "int") B.n_int (by decide +kernel) rfl fun _ => .ty _)) (nomark _)))))
    (s_one (s_ret e_bl))
    s_nil)
  (s_one (s_ret (e_and (e_cmp (opEq hr) sEq (e_isi .str (by decide) B.n_isinstance (e_v 1) (e_bltn (v := .ty "str") (u := .type "str") B.n_str (by decide +kernel) rfl fun _ => .ty _)) (e_isi .str (by decide) B.n_isinstance (e_v 0) (e_bltn (v := .ty "str") (u := .type "str") B.n_str (by decide +kernel) rfl fun _ => .ty _)) (nomark _)) (e_one (e_cmp (opEq hr) sEq (e_v 0) (e_v 1) (nomark _)))))))))
theorem b_Layout_str_0 {f : Addr} {fd : FuncData} (F : FunD K "__str__" "Layout.__str__" (defArgs s_Layout_str) (defBody s_Layout_str) (defScope s_Layout_str) [] [] f fd) : Bnd K fd ["self"] 1 [] [.p 0] [] :=
  bnd0 F fun _ _ _ _ _ _ us ws h1 h2 => match us, ws, h1, h2 with | [_], [], _, _ => rfl
theorem sc_Layout_str : FnScope n_Layout_str ["self"] (defScope s_Layout_str) := ⟨rfl, rfl, rfl, by decide +kernel, rfl, by decide +kernel, by decide +kernel⟩
theorem pd_Layout_str {f : Addr} {tb : Tb} {f_Layout_init : Addr} {f_Layout_pages : Addr} {f_Layout_lines : Addr} {f_Layout_eq : Addr} {f_Layout_len : Addr} {f_Layout_str : Addr} {f_Layout_repr : Addr} (B : Bt K mg) (T_Layout : Ob_Layout K mg tb.Layout f_Layout_init f_Layout_pages f_Layout_lines f_Layout_eq f_Layout_len f_Layout_str f_Layout_repr) : ∀ (cdv : Value) (A : Around) (outer : List Env) (s : Shared) (H : Hp) (E : XK), Room 0 (A.deeper (envOfC "Layout.__str__" (defScope s_Layout_str) s.heap.objs.size f cdv)) →
    PSs (cxOf CX0 P w K mg base n_Layout_str "Layout.__str__" (defScope s_Layout_str) f cdv A outer s H E).nox (defBody s_Layout_str) (lowS K W0 (t_Layout_str tb)) := by
  intro cdv A outer s H E hr
  have sc := sc_Layout_str
  exact (s_one (s_ret (e_join e_str (e_lcF rfl sc.nd (i_seq (e_fld T_Layout.cl T_Layout.n_sheets (e_v 0))) (own := [("page", 1)]) (by exact blkOk_by (N := n_Layout_str) (sc := defScope s_Layout_str) (by decide +kernel)) (fun _ _ _ _ _ => (gw_name (i := 1) sc.nd rfl (by first | exact Or.inl rfl | exact Or.inr rfl))) (fun _ _ _ _ _ => ts_nil) (fun _ _ _ _ _ => (e_join e_str (e_lcF rfl sc.nd (i_seq (e_v 1)) (own := [("first", 2), ("behind", 3)]) (by refine blkOk_by ?_; kernel_rfl) (fun _ _ _ _ _ => (gw_tup rfl (gsw_cons (gw_name (i := 2) sc.nd rfl (by first | exact Or.inl rfl | exact Or.inr rfl)) (gsw_cons (gw_name (i := 3) sc.nd rfl (by first | exact Or.inl rfl | exact Or.inr rfl)) gsw_nil)))) (fun _ _ _ _ _ => ts_nil) (fun _ _ _ _ _ => (e_joined (ts := [(dUn dFmt (dVar 2)), (dC (.str (PySem.Str.ofString "-"))), (dUn dFmt (dVar 3))]) (.cons (e_fmt (e_v 2)) (.cons e_str (.cons (e_fmt (e_v 3)) .nil)))))) st_const))) st_const)))
theorem b_Layout_repr_0 {f : Addr} {fd : FuncData} (F : FunD K "__repr__" "Layout.__repr__" (defArgs s_Layout_repr) (defBody s_Layout_repr) (defScope s_Layout_repr) [] [] f fd) : Bnd K fd ["self"] 1 [] [.p 0] [] :=
  bnd0 F fun _ _ _ _ _ _ us ws h1 h2 => match us, ws, h1, h2 with | [_], [], _, _ => rfl
theorem sc_Layout_repr : FnScope n_Layout_repr ["self"] (defScope s_Layout_repr) := ⟨rfl, rfl, rfl, by decide +kernel, rfl, by decide +kernel, by decide +kernel⟩
theorem pd_Layout_repr {f : Addr} {tb : Tb} {f_Layout_init : Addr} {f_Layout_pages : Addr} {f_Layout_lines : Addr} {f_Layout_eq : Addr} {f_Layout_len : Addr} {f_Layout_str : Addr} {f_Layout_repr : Addr} (B : Bt K mg) (T_Layout : Ob_Layout K mg tb.Layout f_Layout_init f_Layout_pages f_Layout_lines f_Layout_eq f_Layout_len f_Layout_str f_Layout_repr) : ∀ (cdv : Value) (A : Around) (outer : List Env) (s : Shared) (H : Hp) (E : XK), A.guards = some [] → Room 0 (A.deeper (envOfC "Layout.__repr__" (defScope s_Layout_repr) s.heap.objs.size f cdv)) →
    PSs (cxOf CX0 P w K mg base n_Layout_repr "Layout.__repr__" (defScope s_Layout_repr) f cdv A outer s H E).nox (defBody s_Layout_repr) (lowS K W0 (t_Layout_repr tb)) := by
  intro cdv A outer s H E hg hr
  have sc := sc_Layout_repr
  exact (s_one (s_ret (e_joined (ts := [(dC (.str (PySem.Str.ofString "Layout("))), (dUn dFmtL (dFld tb.Layout "sheets" (dVar 0))), (dC (.str (PySem.Str.ofString ")")))]) (.cons e_str (.cons (e_fmtL hg hr (e_fld T_Layout.cl T_Layout.n_sheets (e_v 0))) (.cons e_str .nil))))))
theorem sc_law_v24 : FnScope n_law_v24 ["_law_script"] (defScope s_law_v24) := ⟨rfl, rfl, rfl, by decide +kernel, rfl, by decide +kernel, by decide +kernel⟩
theorem pd_law_v24 {f : Addr} {tb : Tb} {f_law_bag : Addr} {fd_law_bag : FuncData} {f_law_leaves : Addr} {fd_law_leaves : FuncData} {f_law_pull : Addr} {fd_law_pull : FuncData} {f_Layout_init : Addr} {fd_Layout_init : FuncData} {f_Layout_pages : Addr} {fd_Layout_pages : FuncData} {f_Layout_lines : Addr} {fd_Layout_lines : FuncData} {f_law_same : Addr} {fd_law_same : FuncData} {f_Layout_eq : Addr} {fd_Layout_eq : FuncData} {f_Layout_str : Addr} {fd_Layout_str : FuncData} {f_Layout_len : Addr} {fd_Layout_len : FuncData} {f_Layout_repr : Addr} {fd_Layout_repr : FuncData} (B : Bt K mg) (T_Layout : Ob_Layout K mg tb.Layout f_Layout_init f_Layout_pages f_Layout_lines f_Layout_eq f_Layout_len f_Layout_str f_Layout_repr) (c_law_bag : Df P w K mg base 1 s_law_bag "_law_bag" ["_law_script"] [] [] sp_law_bag f_law_bag fd_law_bag) (c_law_leaves : Df P w K mg base 2 s_law_leaves "_law_leaves" ["_law_bag_here"] [] [] sp_law_leaves f_law_leaves fd_law_leaves) (c_law_pull : Df P w K mg base 1 s_law_pull "_law_pull" ["_law_bag_here", "_law_sides"] [] [] sp_law_pull f_law_pull fd_law_pull) (c_Layout_init : Dm P w K mg base 1 s_Layout_init "__init__" "Layout.__init__" ["self", "pages"] [] [] (sp_Layout_init tb) f_Layout_init fd_Layout_init) (c_Layout_pages : Dm P w K mg base 1 s_Layout_pages "pages" "Layout.pages" ["self"] [] [] (sp_Layout_pages tb) f_Layout_pages fd_Layout_pages) (c_Layout_lines : Dm P w K mg base 1 s_Layout_lines "lines" "Layout.lines" ["self"] [] [] (sp_Layout_lines tb) f_Layout_lines fd_Layout_lines) (c_law_same : Df P w K mg base 10 s_law_same "_law_same" ["_law_found", "_law_due"] [] [] sp_law_same f_law_same fd_law_same) (c_Layout_eq : Dm P w K mg base 3 s_Layout_eq "__eq__" "Layout.__eq__" ["self", "other"] [] [] (sp_Layout_eq tb) f_Layout_eq fd_Layout_eq) (c_Layout_str : Dm P w K mg base 1 s_Layout_str "__str__" "Layout.__str__" ["self"] [] [] (sp_Layout_str tb) f_Layout_str fd_Layout_str) (c_Layout_len : Dm P w K mg base 2 s_Layout_len "__len__" "Layout.__len__" ["self"] [] [] (sp_Layout_len tb) f_Layout_len fd_Layout_len) (c_Layout_repr : DmG P w K mg base 1 s_Layout_repr "__repr__" "Layout.__repr__" ["self"] [] [] (sp_Layout_repr tb) f_Layout_repr fd_Layout_repr) : ∀ (cdv : Value) (A : Around) (outer : List Env) (s : Shared) (H : Hp) (E : XK), A.guards = some [] → Room 10 (A.deeper (envOfC "law" (defScope s_law_v24) s.heap.objs.size f cdv)) →
    PSs (cxOf CX0 P w K mg base n_law_v24 "law" (defScope s_law_v24) f cdv A outer s H E).nox (defBody s_law_v24) (lowS K W0 (t_law_v24 tb)) := by
  intro cdv A outer s H E hg hr
  have sc := sc_law_v24
  exact (s_cons (s_set (i := 1) sc.nd rfl (by first | exact Or.inl rfl | exact Or.inr rfl) (e_call c_law_bag.ok (hr.mono (by decide)) c_law_bag.mg c_law_bag.fn.kp (b_law_bag_0 c_law_bag.fn) v_law_bag_0 (a_cons (e_v 0) a_nil) k_nil))
  (s_cons (s_for PassesOwn.never rfl (i_range1 B.n_range (a_cons e_int a_nil)) (g_name (i := 2) sc.nd rfl (by first | exact Or.inl rfl | exact Or.inr rfl))
    (s_cons (s_set (i := 3) sc.nd rfl (by first | exact Or.inl rfl | exact Or.inr rfl) (e_call c_law_leaves.ok (hr.mono (by decide)) c_law_leaves.mg c_law_leaves.fn.kp (b_law_leaves_0 c_law_leaves.fn) v_law_leaves_0 (a_cons (e_v 1) a_nil) k_nil))
  (s_cons (s_set (i := 4) sc.nd rfl (by first | exact Or.inl rfl | exact Or.inr rfl) (e_ixS (e_lstF (a_cons (e_fz (e_call c_law_leaves.ok (hr.mono (by decide)) c_law_leaves.mg c_law_leaves.fn.kp (b_law_leaves_0 c_law_leaves.fn) v_law_leaves_0 (a_cons (e_v 1) a_nil) k_nil)) (a_cons (e_lcF rfl sc.nd (i_seq (e_v 3)) (own := [("_law_leaf", 8)]) (by exact blkOk_by (N := n_law_v24) (sc := defScope s_law_v24) (by decide +kernel)) (fun _ _ _ _ _ => (gw_name (i := 8) sc.nd rfl (by first | exact Or.inl rfl | exact Or.inr rfl))) (fun _ _ _ _ _ => ts_nil) (fun _ _ _ _ _ => (e_callTy call_list_of sListF B.n_list (by decide +kernel) (a_cons (e_v 8) a_nil)))) (a_cons (e_catF (e_v 3) (e_lstF (a_cons (e_lstF a_nil) a_nil))) a_nil)))) (e_call c_law_pull.ok (hr.mono (by decide)) c_law_pull.mg c_law_pull.fn.kp (b_law_pull_0 c_law_pull.fn) v_law_pull_0 (a_cons (e_v 1) (a_cons e_int a_nil)) k_nil)))
  (s_cons (s_setLc (i := 5) rfl sc.nd rfl rfl (sw_true rfl rfl rfl (by decide +kernel)) (i_seq (e_v 3)) (own := [("_law_leaf", 8)]) (by exact blkOk_by (N := n_law_v24) (sc := defScope s_law_v24) (by decide +kernel)) (fun _ _ _ _ _ => (gw_name (i := 8) sc.nd rfl (by first | exact Or.inl rfl | exact Or.inr rfl))) (fun _ _ _ _ _ => ts_nil) (fun _ _ _ _ _ => (e_callTy call_list_of sList B.n_list (by decide +kernel) (a_cons (e_v 8) a_nil))))
  (s_cons (s_par (i := 6) (j := 7) rfl sc.nd rfl rfl (by decide) rfl rfl (a_cons (e_make T_Layout.mak c_Layout_init.ok (hr.mono (by omega)) T_Layout.g (b_Layout_init_0 c_Layout_init.fn) v_Layout_init_0 (a_cons (e_v 5) a_nil) k_nil) (a_cons (e_make0 T_Layout.mak c_Layout_init.ok (hr.mono (by omega)) T_Layout.g (b_Layout_init_1 c_Layout_init.fn) v_Layout_init_1 (k_cons (e_v 4) k_nil)) a_nil)) (by rfl))
  (s_cons (s_for PassesOwn.never rfl (i_seq (e_v 5)) (g_name (i := 8) sc.nd rfl (by first | exact Or.inl rfl | exact Or.inr rfl))
    (s_one (s_expr (e_append (e_v 8) (a_cons (e_tup (a_cons e_int (a_cons e_int a_nil))) a_nil)))))
  (s_cons (s_expr (e_append (e_v 5) (a_cons (e_lst a_nil) a_nil)))
  (s_cons (s_set (i := 9) sc.nd rfl (by first | exact Or.inl rfl | exact Or.inr rfl) (e_callB (cr_sumL rfl) sSumL B.n_sum (by decide +kernel) (a_cons (e_v 3) (a_cons (e_lstF a_nil) a_nil))))
  (s_cons (s_for PassesOwn.never rfl (i_range1 B.n_range (a_cons e_int a_nil)) (g_name (i := 10) sc.nd rfl (by first | exact Or.inl rfl | exact Or.inr rfl))
    (s_cons (s_set (i := 11) sc.nd rfl (by first | exact Or.inl rfl | exact Or.inr rfl) (e_lst (a_cons (e_meth0 (e_v 6) T_Layout.cl T_Layout.m_pages c_Layout_pages.ok (hr.mono (by omega)) (b_Layout_pages_0 c_Layout_pages.fn) v_Layout_pages_0) (a_cons (e_meth0 (e_v 6) T_Layout.cl T_Layout.m_lines c_Layout_lines.ok (hr.mono (by omega)) (b_Layout_lines_0 c_Layout_lines.fn) v_Layout_lines_0) a_nil))))
  (s_cons (s_if (t_not (t_val (e_call c_law_same.ok (hr.mono (by decide)) c_law_same.mg c_law_same.fn.kp (b_law_same_0 c_law_same.fn) v_law_same_0 (a_cons (e_v 11) (a_cons (e_lstF (a_cons (e_v 3) (a_cons (e_v 9) a_nil))) a_nil)) k_nil)))
    (s_one (s_ret e_bl))
    s_nil)
  (s_cons (s_for PassesOwn.never rfl (i_seq (e_ixS (e_v 11) e_int)) (g_name (i := 8) sc.nd rfl (by first | exact Or.inl rfl | exact Or.inr rfl))
    (s_one (s_expr (e_append (e_v 8) (a_cons (e_tup (a_cons e_int (a_cons e_int a_nil))) a_nil)))))
  (s_cons (s_expr (e_lm0 PySem.F.slot_list_reverse PySem.F.type_list_reverse mt_reverse sReverse (e_ixS (e_v 11) e_int)))
  (s_one (s_expr (e_append (e_ixS (e_v 11) e_int) (a_cons (e_tup (a_cons e_int (a_cons e_int a_nil))) a_nil)))))))))
  (s_cons (s_set (i := 12) sc.nd rfl (by first | exact Or.inl rfl | exact Or.inr rfl) (e_cmp (opEq hr) sEq (e_v 3) (e_v 4) (nomark _)))
  (s_cons (s_if (t_not (t_val (e_call c_law_same.ok (hr.mono (by decide)) c_law_same.mg c_law_same.fn.kp (b_law_same_0 c_law_same.fn) v_law_same_0 (a_cons (e_lstF (a_cons (e_cmp (op_eqO c_Layout_eq.ok T_Layout.m_eq (hr.mono (by omega)) (b_Layout_eq_0 c_Layout_eq.fn)) sEqO (e_v 6) (e_v 7) (by rfl)) (a_cons (e_cmp (op_neO c_Layout_eq.ok T_Layout.m_eq T_Layout.o_ne T_Layout.o_obj (hr.mono (by omega)) (b_Layout_eq_0 c_Layout_eq.fn)) sEqO (e_v 7) (e_v 6) (by rfl)) a_nil))) (a_cons (e_lstF (a_cons (e_v 12) (a_cons (e_not (e_v 12)) a_nil))) a_nil)) k_nil)))
    (s_one (s_ret e_bl))
    s_nil)
  (s_cons (s_if (L2.PW.pt (w_or (t_cmp (op_eqO c_Layout_eq.ok T_Layout.m_eq (hr.mono (by omega)) (b_Layout_eq_0 c_Layout_eq.fn)) sEqO (e_v 6) (e_v 3) (by rfl)) (w_or (t_cmp (op_inO c_Layout_eq.ok T_Layout.m_eq T_Layout.o_sub (hr.mono (by omega)) (b_Layout_eq_0 c_Layout_eq.fn)) sInO (e_v 6) (e_lstF (a_cons e_non (a_cons e_str (a_cons e_int a_nil)))) (by rfl)) (w_or (t_cmp (op_eqO c_Layout_eq.ok T_Layout.m_eq (hr.mono (by omega)) (b_Layout_eq_0 c_Layout_eq.fn)) sEqO (e_v 6) (e_callTy (cr_strO c_Layout_str.ok T_Layout.m_str (hr.mono (by omega)) (b_Layout_str_0 c_Layout_str.fn)) sStrO B.n_str (by decide +kernel) (a_cons (e_v 6) a_nil)) (by rfl)) (w_or1 (t_not (t_val (e_call c_law_same.ok (hr.mono (by decide)) c_law_same.mg c_law_same.fn.kp (b_law_same_0 c_law_same.fn) v_law_same_0 (a_cons (e_callB (cr_lenO c_Layout_len.ok T_Layout.m_len (hr.mono (by omega)) (b_Layout_len_0 c_Layout_len.fn)) sLenO B.n_len (by decide +kernel) (a_cons (e_v 6) a_nil)) (a_cons (e_callB callLen sLen B.n_len (by decide +kernel) (a_cons (e_v 9) a_nil)) a_nil)) k_nil))))))))
    (s_one (s_ret e_bl))
    s_nil)
  (s_cons (s_setLcG (i := 13) rfl sc.nd rfl rfl (sw_true rfl rfl rfl (by decide +kernel)) (i_seq (e_v 3)) (own := [("_law_leaf", 8)]) (by exact blkOk_by (N := n_law_v24) (sc := defScope s_law_v24) (by decide +kernel)) (fun _ _ _ _ _ => (gw_name (i := 8) sc.nd rfl (by first | exact Or.inl rfl | exact Or.inr rfl))) (fun _ _ _ _ _ => ts_nil) (fun _ _ _ _ _ => (e_join e_str (e_lcF rfl sc.nd (i_seq (e_v 8)) (own := [("_law_a", 14), ("_law_b", 15)]) (by refine blkOk_by ?_; kernel_rfl) (fun _ _ _ _ _ => (gw_tup rfl (gsw_cons (gw_name (i := 14) sc.nd rfl (by first | exact Or.inl rfl | exact Or.inr rfl)) (gsw_cons (gw_name (i := 15) sc.nd rfl (by first | exact Or.inl rfl | exact Or.inr rfl)) gsw_nil)))) (fun _ _ _ _ _ => ts_nil) (fun _ _ _ _ _ => (e_add (e_add (e_callTy callStr sStr B.n_str (by decide +kernel) (a_cons (e_v 14) a_nil)) e_str) (e_callTy callStr sStr B.n_str (by decide +kernel) (a_cons (e_v 15) a_nil))))) st_const)))
  (s_cons (s_if (t_not (t_val (e_call c_law_same.ok (hr.mono (by decide)) c_law_same.mg c_law_same.fn.kp (b_law_same_0 c_law_same.fn) v_law_same_0 (a_cons (e_lstF (a_cons (e_callTy (cr_strO c_Layout_str.ok T_Layout.m_str (hr.mono (by omega)) (b_Layout_str_0 c_Layout_str.fn)) sStrO B.n_str (by decide +kernel) (a_cons (e_v 6) a_nil)) (a_cons (e_callB (cr_reprO c_Layout_repr.ok T_Layout.m_repr hg (hr.mono (by omega)) (b_Layout_repr_0 c_Layout_repr.fn)) sStrO B.n_repr (by decide +kernel) (a_cons (e_v 6) a_nil)) a_nil))) (a_cons (e_lstF (a_cons (e_join e_str (e_v 13) st_const) (a_cons (e_add (e_add e_str (e_callB (callRepr hg hr) sRepr B.n_repr (by decide +kernel) (a_cons (e_v 3) a_nil))) e_str) a_nil))) a_nil)) k_nil)))
    (s_one (s_ret e_bl))
    s_nil)
  (s_one (s_if (t_cmp (opNe hr) sNe (e_callTy (cr_boolO c_Layout_len.ok T_Layout.m_len T_Layout.o_bool (hr.mono (by omega)) (b_Layout_len_0 c_Layout_len.fn)) sBoolO B.n_bool (by decide +kernel) (a_cons (e_v 6) a_nil)) (e_cmp (opNe hr) sNe (e_v 9) (e_lstF a_nil) (nomark _)) (nomark _))
    (s_one (s_ret e_bl))
    s_nil))))))))))))))))
  (s_one (s_ret e_bl))))
end
theorem rec_law_same {P : Program} {w : World} {K : PySem.W.Frag} {mg : Str → Option Value} {base : Heap} {f : Addr} {fd : FuncData} (B : Bt K mg) (F : FunD K "_law_same" "_law_same" (defArgs s_law_same) (defBody s_law_same) (defScope s_law_same) [] [] f fd) (m : mg "_law_same" = some (.ref f)) : ∀ n, Df P w K mg base (n + 1) s_law_same "_law_same" ["_law_found", "_law_due"] [] [] (sp_law_sameN n) f fd
  | 0 => ⟨F, fn_ok F sc_law_same (by intro xs O R Z h; repeat (first | (obtain ⟨rfl, _⟩ := h; rfl) | (obtain ⟨_, h⟩ := h))) (pd_law_same B (⟨F, okBot, m⟩ : Df P w K mg base 0 s_law_same "_law_same" ["_law_found", "_law_due"] [] [] spBot f fd)) d_law_same0, m⟩
  | n + 1 => ⟨F, fn_ok F sc_law_same (by intro xs O R Z h; repeat (first | (obtain ⟨rfl, _⟩ := h; rfl) | (obtain ⟨_, h⟩ := h))) (pd_law_same B (rec_law_same B F m n)) (d_law_same n), m⟩
abbrev Tq (C_Layout : Addr) : Tb := ⟨0, 0, 0, 0, 0, fun i => [0, 0, 0, 0, 0, 0, C_Layout, 0, 0, 0, 0, 0, 0, 0, 0, 0, 0, 0, 0].getD i 0⟩
theorem all_mk {l : PySem.W.OpenLaw} {w : World} {K : PySem.W.Frag} {h : Heap} {mg : Str → Option Value} {fa : Addr} (X : K.In h) (G : h.Ns mainGlobals mg) (hfa : mg "law" = some (.ref fa)) {C_Layout : Addr} {f_law_bag : Addr} {od_law_bag an_law_bag : Option Addr} {sl_law_bag : Array (Option Value)} {oc_law_bag kV_law_bag dc_law_bag pm_law_bag cd_law_bag ct_law_bag : Value} {f_law_pull : Addr} {od_law_pull an_law_pull : Option Addr} {sl_law_pull : Array (Option Value)} {oc_law_pull kV_law_pull dc_law_pull pm_law_pull cd_law_pull ct_law_pull : Value} {f_law_leaves : Addr} {od_law_leaves an_law_leaves : Option Addr} {sl_law_leaves : Array (Option Value)} {oc_law_leaves kV_law_leaves dc_law_leaves pm_law_leaves cd_law_leaves ct_law_leaves : Value} {f_Layout_init : Addr} {od_Layout_init an_Layout_init : Option Addr} {sl_Layout_init : Array (Option Value)} {oc_Layout_init kV_Layout_init dc_Layout_init pm_Layout_init cd_Layout_init ct_Layout_init : Value} {f_Layout_eq : Addr} {od_Layout_eq an_Layout_eq : Option Addr} {sl_Layout_eq : Array (Option Value)} {oc_Layout_eq kV_Layout_eq dc_Layout_eq pm_Layout_eq cd_Layout_eq ct_Layout_eq : Value} {f_Layout_lines : Addr} {od_Layout_lines an_Layout_lines : Option Addr} {sl_Layout_lines : Array (Option Value)} {oc_Layout_lines kV_Layout_lines dc_Layout_lines pm_Layout_lines cd_Layout_lines ct_Layout_lines : Value} {f_Layout_len : Addr} {od_Layout_len an_Layout_len : Option Addr} {sl_Layout_len : Array (Option Value)} {oc_Layout_len kV_Layout_len dc_Layout_len pm_Layout_len cd_Layout_len ct_Layout_len : Value} {f_Layout_pages : Addr} {od_Layout_pages an_Layout_pages : Option Addr} {sl_Layout_pages : Array (Option Value)} {oc_Layout_pages kV_Layout_pages dc_Layout_pages pm_Layout_pages cd_Layout_pages ct_Layout_pages : Value} {f_law_same : Addr} {od_law_same an_law_same : Option Addr} {sl_law_same : Array (Option Value)} {oc_law_same kV_law_same dc_law_same pm_law_same cd_law_same ct_law_same : Value} {f_Layout_str : Addr} {od_Layout_str an_Layout_str : Option Addr} {sl_Layout_str : Array (Option Value)} {oc_Layout_str kV_Layout_str dc_Layout_str pm_Layout_str cd_Layout_str ct_Layout_str : Value} {f_Layout_repr : Addr} {od_Layout_repr an_Layout_repr : Option Addr} {sl_Layout_repr : Array (Option Value)} {oc_Layout_repr kV_Layout_repr dc_Layout_repr pm_Layout_repr cd_Layout_repr ct_Layout_repr : Value} {f_law_v24 : Addr} {od_law_v24 an_law_v24 : Option Addr} {sl_law_v24 : Array (Option Value)} {oc_law_v24 kV_law_v24 dc_law_v24 pm_law_v24 cd_law_v24 ct_law_v24 : Value}
    (xa_Layout : PySem.W.nsIn K mainGlobals "Layout" = some (some (.ref C_Layout)))
    (xpg_Layout : PySem.W.plainGet K C_Layout Str.empty = true)
    (xhd_Layout : PySem.W.hasDictIn K C_Layout = true)
    (xpo_Layout : PySem.W.plainOver K C_Layout = true)
    (xst_Layout : PySem.W.findIn K (.ref C_Layout) "__setattr__" = some (some (.builtin "object.__setattr__")))
    (xmk_Layout : PySem.W.makesIn K C_Layout = true)
    (xkp_Layout : PySem.W.keepIn K (.ref C_Layout) = true)
    (xn_Layout_sheets : PySem.W.findIn K (.ref C_Layout) "sheets" = some none)
    (xob_Layout : PySem.W.findIn K (.ref C_Layout) "__bool__" = some none)
    (xon_Layout : PySem.W.findIn K (.ref C_Layout) "__ne__" = some (some (.builtin "object.__ne__")))
    (xoo_Layout : PySem.W.mroIn K C_Layout (.type "object") = some true)
    (xoi_Layout : PySem.W.subIn K (.ref C_Layout) (.type "int") = some false)
    (xos_Layout : PySem.W.subIn K (.ref C_Layout) (.type "str") = some false)
    (xoN_Layout : PySem.W.subIn K (.ref C_Layout) (.type "NoneType") = some false)
    (yha_Layout : PySem.W.findIn K (.ref C_Layout) "__class__" = some (some (.builtin "object.__class__")))
    (yhn_Layout : PySem.W.specialIn K (.builtin "object.__class__") "__get__" = some (some (.builtin "getset_descriptor.__get__")))
    (yht_Layout : PySem.W.takesIn K (.builtin "object.__class__") = some true)
    (yhm_Layout : PySem.W.mroIn K C_Layout (.type "object") = some true)
    (yhe_Layout : PySem.W.kitOne K (.ref C_Layout) (.ref C_Layout) = some true)
    (ykl_Layout : PySem.W.kitOne K (.type "list") (.ref C_Layout) = some false)
    (yks_Layout : PySem.W.kitOne K (.type "str") (.ref C_Layout) = some false)
    (yki_Layout : PySem.W.kitOne K (.type "int") (.ref C_Layout) = some false)
    (ykn_Layout : PySem.W.kitOne K (.type "NoneType") (.ref C_Layout) = some false)
    (a_law_bag : PySem.W.nsIn K mainGlobals "_law_bag" = some (some (.ref f_law_bag)))
    (l_law_bag : K.lookup f_law_bag = some ⟨oc_law_bag, od_law_bag, .func (PySem.W.fnOf "_law_bag" "_law_bag" (defArgs s_law_bag) (defBody s_law_bag) (defScope s_law_bag) .none kV_law_bag dc_law_bag pm_law_bag an_law_bag cd_law_bag ct_law_bag), sl_law_bag⟩)
    (c_law_bag : PySem.W.codeIn K cd_law_bag "_law_bag" = true)
    (k_law_bag : PySem.W.keepIn K (.ref f_law_bag) = true)
    (a_law_pull : PySem.W.nsIn K mainGlobals "_law_pull" = some (some (.ref f_law_pull)))
    (l_law_pull : K.lookup f_law_pull = some ⟨oc_law_pull, od_law_pull, .func (PySem.W.fnOf "_law_pull" "_law_pull" (defArgs s_law_pull) (defBody s_law_pull) (defScope s_law_pull) .none kV_law_pull dc_law_pull pm_law_pull an_law_pull cd_law_pull ct_law_pull), sl_law_pull⟩)
    (c_law_pull : PySem.W.codeIn K cd_law_pull "_law_pull" = true)
    (k_law_pull : PySem.W.keepIn K (.ref f_law_pull) = true)
    (a_law_leaves : PySem.W.nsIn K mainGlobals "_law_leaves" = some (some (.ref f_law_leaves)))
    (l_law_leaves : K.lookup f_law_leaves = some ⟨oc_law_leaves, od_law_leaves, .func (PySem.W.fnOf "_law_leaves" "_law_leaves" (defArgs s_law_leaves) (defBody s_law_leaves) (defScope s_law_leaves) .none kV_law_leaves dc_law_leaves pm_law_leaves an_law_leaves cd_law_leaves ct_law_leaves), sl_law_leaves⟩)
    (c_law_leaves : PySem.W.codeIn K cd_law_leaves "_law_leaves" = true)
    (k_law_leaves : PySem.W.keepIn K (.ref f_law_leaves) = true)
    (a_Layout_init : PySem.W.findIn K (.ref C_Layout) "__init__" = some (some (.ref f_Layout_init)))
    (l_Layout_init : K.lookup f_Layout_init = some ⟨oc_Layout_init, od_Layout_init, .func (PySem.W.fnOf "__init__" "Layout.__init__" (defArgs s_Layout_init) (defBody s_Layout_init) (defScope s_Layout_init) .none kV_Layout_init dc_Layout_init pm_Layout_init an_Layout_init cd_Layout_init ct_Layout_init), sl_Layout_init⟩)
    (c_Layout_init : PySem.W.codeIn K cd_Layout_init "Layout.__init__" = true)
    (k_Layout_init : PySem.W.keepIn K (.ref f_Layout_init) = true)
    (i_Layout_init : PySem.W.isFn K (.ref f_Layout_init) = true)
    (a_Layout_eq : PySem.W.findIn K (.ref C_Layout) "__eq__" = some (some (.ref f_Layout_eq)))
    (l_Layout_eq : K.lookup f_Layout_eq = some ⟨oc_Layout_eq, od_Layout_eq, .func (PySem.W.fnOf "__eq__" "Layout.__eq__" (defArgs s_Layout_eq) (defBody s_Layout_eq) (defScope s_Layout_eq) .none kV_Layout_eq dc_Layout_eq pm_Layout_eq an_Layout_eq cd_Layout_eq ct_Layout_eq), sl_Layout_eq⟩)
    (c_Layout_eq : PySem.W.codeIn K cd_Layout_eq "Layout.__eq__" = true)
    (k_Layout_eq : PySem.W.keepIn K (.ref f_Layout_eq) = true)
    (i_Layout_eq : PySem.W.isFn K (.ref f_Layout_eq) = true)
    (a_Layout_lines : PySem.W.findIn K (.ref C_Layout) "lines" = some (some (.ref f_Layout_lines)))
    (l_Layout_lines : K.lookup f_Layout_lines = some ⟨oc_Layout_lines, od_Layout_lines, .func (PySem.W.fnOf "lines" "Layout.lines" (defArgs s_Layout_lines) (defBody s_Layout_lines) (defScope s_Layout_lines) .none kV_Layout_lines dc_Layout_lines pm_Layout_lines an_Layout_lines cd_Layout_lines ct_Layout_lines), sl_Layout_lines⟩)
    (c_Layout_lines : PySem.W.codeIn K cd_Layout_lines "Layout.lines" = true)
    (k_Layout_lines : PySem.W.keepIn K (.ref f_Layout_lines) = true)
    (i_Layout_lines : PySem.W.isFn K (.ref f_Layout_lines) = true)
    (a_Layout_len : PySem.W.findIn K (.ref C_Layout) "__len__" = some (some (.ref f_Layout_len)))
    (l_Layout_len : K.lookup f_Layout_len = some ⟨oc_Layout_len, od_Layout_len, .func (PySem.W.fnOf "__len__" "Layout.__len__" (defArgs s_Layout_len) (defBody s_Layout_len) (defScope s_Layout_len) .none kV_Layout_len dc_Layout_len pm_Layout_len an_Layout_len cd_Layout_len ct_Layout_len), sl_Layout_len⟩)
    (c_Layout_len : PySem.W.codeIn K cd_Layout_len "Layout.__len__" = true)
    (k_Layout_len : PySem.W.keepIn K (.ref f_Layout_len) = true)
    (i_Layout_len : PySem.W.isFn K (.ref f_Layout_len) = true)
    (a_Layout_pages : PySem.W.findIn K (.ref C_Layout) "pages" = some (some (.ref f_Layout_pages)))
    (l_Layout_pages : K.lookup f_Layout_pages = some ⟨oc_Layout_pages, od_Layout_pages, .func (PySem.W.fnOf "pages" "Layout.pages" (defArgs s_Layout_pages) (defBody s_Layout_pages) (defScope s_Layout_pages) .none kV_Layout_pages dc_Layout_pages pm_Layout_pages an_Layout_pages cd_Layout_pages ct_Layout_pages), sl_Layout_pages⟩)
    (c_Layout_pages : PySem.W.codeIn K cd_Layout_pages "Layout.pages" = true)
    (k_Layout_pages : PySem.W.keepIn K (.ref f_Layout_pages) = true)
    (i_Layout_pages : PySem.W.isFn K (.ref f_Layout_pages) = true)
    (a_law_same : PySem.W.nsIn K mainGlobals "_law_same" = some (some (.ref f_law_same)))
    (l_law_same : K.lookup f_law_same = some ⟨oc_law_same, od_law_same, .func (PySem.W.fnOf "_law_same" "_law_same" (defArgs s_law_same) (defBody s_law_same) (defScope s_law_same) .none kV_law_same dc_law_same pm_law_same an_law_same cd_law_same ct_law_same), sl_law_same⟩)
    (c_law_same : PySem.W.codeIn K cd_law_same "_law_same" = true)
    (k_law_same : PySem.W.keepIn K (.ref f_law_same) = true)
    (a_Layout_str : PySem.W.findIn K (.ref C_Layout) "__str__" = some (some (.ref f_Layout_str)))
    (l_Layout_str : K.lookup f_Layout_str = some ⟨oc_Layout_str, od_Layout_str, .func (PySem.W.fnOf "__str__" "Layout.__str__" (defArgs s_Layout_str) (defBody s_Layout_str) (defScope s_Layout_str) .none kV_Layout_str dc_Layout_str pm_Layout_str an_Layout_str cd_Layout_str ct_Layout_str), sl_Layout_str⟩)
    (c_Layout_str : PySem.W.codeIn K cd_Layout_str "Layout.__str__" = true)
    (k_Layout_str : PySem.W.keepIn K (.ref f_Layout_str) = true)
    (i_Layout_str : PySem.W.isFn K (.ref f_Layout_str) = true)
    (a_Layout_repr : PySem.W.findIn K (.ref C_Layout) "__repr__" = some (some (.ref f_Layout_repr)))
    (l_Layout_repr : K.lookup f_Layout_repr = some ⟨oc_Layout_repr, od_Layout_repr, .func (PySem.W.fnOf "__repr__" "Layout.__repr__" (defArgs s_Layout_repr) (defBody s_Layout_repr) (defScope s_Layout_repr) .none kV_Layout_repr dc_Layout_repr pm_Layout_repr an_Layout_repr cd_Layout_repr ct_Layout_repr), sl_Layout_repr⟩)
    (c_Layout_repr : PySem.W.codeIn K cd_Layout_repr "Layout.__repr__" = true)
    (k_Layout_repr : PySem.W.keepIn K (.ref f_Layout_repr) = true)
    (i_Layout_repr : PySem.W.isFn K (.ref f_Layout_repr) = true)
    (a_law_v24 : PySem.W.nsIn K mainGlobals "law" = some (some (.ref f_law_v24)))
    (l_law_v24 : K.lookup f_law_v24 = some ⟨oc_law_v24, od_law_v24, .func (PySem.W.fnOf "law" "law" (defArgs s_law_v24) (defBody s_law_v24) (defScope s_law_v24) .none kV_law_v24 dc_law_v24 pm_law_v24 an_law_v24 cd_law_v24 ct_law_v24), sl_law_v24⟩)
    (c_law_v24 : PySem.W.codeIn K cd_law_v24 "law" = true)
    (k_law_v24 : PySem.W.keepIn K (.ref f_law_v24) = true)
    (z_all : PySem.W.nsIn K mainGlobals "all" = some none)
    (z_bool : PySem.W.nsIn K mainGlobals "bool" = some none)
    (z_int : PySem.W.nsIn K mainGlobals "int" = some none)
    (z_isinstance : PySem.W.nsIn K mainGlobals "isinstance" = some none)
    (z_len : PySem.W.nsIn K mainGlobals "len" = some none)
    (z_list : PySem.W.nsIn K mainGlobals "list" = some none)
    (z_range : PySem.W.nsIn K mainGlobals "range" = some none)
    (z_repr : PySem.W.nsIn K mainGlobals "repr" = some none)
    (z_str : PySem.W.nsIn K mainGlobals "str" = some none)
    (z_sum : PySem.W.nsIn K mainGlobals "sum" = some none)
    (z_tuple : PySem.W.nsIn K mainGlobals "tuple" = some none) :
    ∃ (fd : FuncData) (sp : DSp), (∀ (s : Shared) (u : Value), BindsTo s fd ⟨[u], []⟩ [("_law_script", u)]) ∧ (∀ (ns : List Int) (O : Om) (R : D → Om → Prop) (Z : XD), ns.length ≤ 63 → (∀ O', R (.bl true) O') → sp [.lst (ns.map D.int)] O R Z) ∧
      ∀ base : Heap, K.In base → base.Ns mainGlobals mg → FnOkG l.prog w K mg base 11 fa fd ["_law_script"] (toSp K sp) := by
  have e : fa = f_law_v24 := Value.ref.inj (Option.some.inj (hfa.symm.trans (PySem.W.mg_of X G a_law_v24)))
  rw [e]
  have B : Bt K mg := ⟨PySem.W.mg_none_of X G z_all, PySem.W.mg_none_of X G z_bool, PySem.W.mg_none_of X G z_int, PySem.W.mg_none_of X G z_isinstance, PySem.W.mg_none_of X G z_len, PySem.W.mg_none_of X G z_list, PySem.W.mg_none_of X G z_range, PySem.W.mg_none_of X G z_repr, PySem.W.mg_none_of X G z_str, PySem.W.mg_none_of X G z_sum, PySem.W.mg_none_of X G z_tuple⟩
  have F_law_bag : FunD K "_law_bag" "_law_bag" (defArgs s_law_bag) (defBody s_law_bag) (defScope s_law_bag) [] [] f_law_bag _ := ⟨⟨_, _, _, _, _, _, _, _, _, _, rfl, l_law_bag, c_law_bag, .inl ⟨rfl, rfl⟩, .inl rfl⟩, k_law_bag⟩
  have F_law_pull : FunD K "_law_pull" "_law_pull" (defArgs s_law_pull) (defBody s_law_pull) (defScope s_law_pull) [] [] f_law_pull _ := ⟨⟨_, _, _, _, _, _, _, _, _, _, rfl, l_law_pull, c_law_pull, .inl ⟨rfl, rfl⟩, .inl rfl⟩, k_law_pull⟩
  have F_law_leaves : FunD K "_law_leaves" "_law_leaves" (defArgs s_law_leaves) (defBody s_law_leaves) (defScope s_law_leaves) [] [] f_law_leaves _ := ⟨⟨_, _, _, _, _, _, _, _, _, _, rfl, l_law_leaves, c_law_leaves, .inl ⟨rfl, rfl⟩, .inl rfl⟩, k_law_leaves⟩
  have F_Layout_init : FunD K "__init__" "Layout.__init__" (defArgs s_Layout_init) (defBody s_Layout_init) (defScope s_Layout_init) [] [] f_Layout_init _ := ⟨⟨_, _, _, _, _, _, _, _, _, _, rfl, l_Layout_init, c_Layout_init, .inl ⟨rfl, rfl⟩, .inl rfl⟩, k_Layout_init⟩
  have F_Layout_eq : FunD K "__eq__" "Layout.__eq__" (defArgs s_Layout_eq) (defBody s_Layout_eq) (defScope s_Layout_eq) [] [] f_Layout_eq _ := ⟨⟨_, _, _, _, _, _, _, _, _, _, rfl, l_Layout_eq, c_Layout_eq, .inl ⟨rfl, rfl⟩, .inl rfl⟩, k_Layout_eq⟩
  have F_Layout_lines : FunD K "lines" "Layout.lines" (defArgs s_Layout_lines) (defBody s_Layout_lines) (defScope s_Layout_lines) [] [] f_Layout_lines _ := ⟨⟨_, _, _, _, _, _, _, _, _, _, rfl, l_Layout_lines, c_Layout_lines, .inl ⟨rfl, rfl⟩, .inl rfl⟩, k_Layout_lines⟩
  have F_Layout_len : FunD K "__len__" "Layout.__len__" (defArgs s_Layout_len) (defBody s_Layout_len) (defScope s_Layout_len) [] [] f_Layout_len _ := ⟨⟨_, _, _, _, _, _, _, _, _, _, rfl, l_Layout_len, c_Layout_len, .inl ⟨rfl, rfl⟩, .inl rfl⟩, k_Layout_len⟩
  have F_Layout_pages : FunD K "pages" "Layout.pages" (defArgs s_Layout_pages) (defBody s_Layout_pages) (defScope s_Layout_pages) [] [] f_Layout_pages _ := ⟨⟨_, _, _, _, _, _, _, _, _, _, rfl, l_Layout_pages, c_Layout_pages, .inl ⟨rfl, rfl⟩, .inl rfl⟩, k_Layout_pages⟩
  have F_law_same : FunD K "_law_same" "_law_same" (defArgs s_law_same) (defBody s_law_same) (defScope s_law_same) [] [] f_law_same _ := ⟨⟨_, _, _, _, _, _, _, _, _, _, rfl, l_law_same, c_law_same, .inl ⟨rfl, rfl⟩, .inl rfl⟩, k_law_same⟩
  have F_Layout_str : FunD K "__str__" "Layout.__str__" (defArgs s_Layout_str) (defBody s_Layout_str) (defScope s_Layout_str) [] [] f_Layout_str _ := ⟨⟨_, _, _, _, _, _, _, _, _, _, rfl, l_Layout_str, c_Layout_str, .inl ⟨rfl, rfl⟩, .inl rfl⟩, k_Layout_str⟩
  have F_Layout_repr : FunD K "__repr__" "Layout.__repr__" (defArgs s_Layout_repr) (defBody s_Layout_repr) (defScope s_Layout_repr) [] [] f_Layout_repr _ := ⟨⟨_, _, _, _, _, _, _, _, _, _, rfl, l_Layout_repr, c_Layout_repr, .inl ⟨rfl, rfl⟩, .inl rfl⟩, k_Layout_repr⟩
  have F_law_v24 : FunD K "law" "law" (defArgs s_law_v24) (defBody s_law_v24) (defScope s_law_v24) [] [] f_law_v24 _ := ⟨⟨_, _, _, _, _, _, _, _, _, _, rfl, l_law_v24, c_law_v24, .inl ⟨rfl, rfl⟩, .inl rfl⟩, k_law_v24⟩
  have T_Layout : Ob_Layout K mg C_Layout f_Layout_init f_Layout_pages f_Layout_lines f_Layout_eq f_Layout_len f_Layout_str f_Layout_repr := ⟨⟨xpg_Layout, xhd_Layout, xpo_Layout, xst_Layout⟩, ⟨xmk_Layout, a_Layout_init, i_Layout_init, xkp_Layout⟩, PySem.W.mg_of X G xa_Layout, xn_Layout_sheets, ⟨a_Layout_pages, i_Layout_pages, k_Layout_pages⟩, ⟨a_Layout_lines, i_Layout_lines, k_Layout_lines⟩, ⟨a_Layout_eq, i_Layout_eq, k_Layout_eq⟩, ⟨a_Layout_len, i_Layout_len, k_Layout_len⟩, ⟨a_Layout_str, i_Layout_str, k_Layout_str⟩, ⟨a_Layout_repr, i_Layout_repr, k_Layout_repr⟩, xob_Layout, xon_Layout, xoo_Layout, ⟨xoi_Layout, xos_Layout, xoN_Layout⟩⟩
  have Y_Layout : InsO K mg "Layout" C_Layout := ⟨⟨⟨xpg_Layout, xhd_Layout, xpo_Layout, xst_Layout⟩, yha_Layout, yhn_Layout, yht_Layout, yhm_Layout, yhe_Layout⟩, PySem.W.mg_of X G xa_Layout⟩
  have W_Layout : InsO2 K mg "Layout" C_Layout := ⟨Y_Layout, ykl_Layout, yks_Layout, yki_Layout, ykn_Layout⟩
  refine ⟨PySem.W.fnOf "law" "law" (defArgs s_law_v24) (defBody s_law_v24) (defScope s_law_v24) .none kV_law_v24 dc_law_v24 pm_law_v24 an_law_v24 cd_law_v24 ct_law_v24, sp_law_v24 (Tq C_Layout), fun s v => .of_eq rfl, fun ns O R Z hl hR => end_law_v24 (Tq C_Layout) ns O R Z hl hR, fun base _ _ => ?_⟩
  have D_law_bag : Df l.prog w K mg base 1 s_law_bag "_law_bag" ["_law_script"] [] [] sp_law_bag f_law_bag _ := ⟨F_law_bag, fn_ok F_law_bag sc_law_bag (by intro xs O R Z h; repeat (first | (obtain ⟨rfl, _⟩ := h; rfl) | (obtain ⟨_, h⟩ := h))) (pd_law_bag B ) d_law_bag, PySem.W.mg_of X G a_law_bag⟩
  have D_law_pull : Df l.prog w K mg base 1 s_law_pull "_law_pull" ["_law_bag_here", "_law_sides"] [] [] sp_law_pull f_law_pull _ := ⟨F_law_pull, fn_ok F_law_pull sc_law_pull (by intro xs O R Z h; repeat (first | (obtain ⟨rfl, _⟩ := h; rfl) | (obtain ⟨_, h⟩ := h))) (pd_law_pull B ) d_law_pull, PySem.W.mg_of X G a_law_pull⟩
  have D_law_leaves : Df l.prog w K mg base 2 s_law_leaves "_law_leaves" ["_law_bag_here"] [] [] sp_law_leaves f_law_leaves _ := ⟨F_law_leaves, fn_ok F_law_leaves sc_law_leaves (by intro xs O R Z h; repeat (first | (obtain ⟨rfl, _⟩ := h; rfl) | (obtain ⟨_, h⟩ := h))) (pd_law_leaves B D_law_pull) d_law_leaves, PySem.W.mg_of X G a_law_leaves⟩
  have D_Layout_init : Dm l.prog w K mg base 1 s_Layout_init "__init__" "Layout.__init__" ["self", "pages"] [] [] (sp_Layout_init (Tq C_Layout)) f_Layout_init _ := ⟨F_Layout_init, fn_ok F_Layout_init sc_Layout_init (by intro xs O R Z h; repeat (first | (obtain ⟨rfl, _⟩ := h; rfl) | (obtain ⟨_, h⟩ := h))) (pd_Layout_init (tb := (Tq C_Layout)) B T_Layout ) (d_Layout_init (Tq C_Layout))⟩
  have D_Layout_eq : Dm l.prog w K mg base 3 s_Layout_eq "__eq__" "Layout.__eq__" ["self", "other"] [] [] (sp_Layout_eq (Tq C_Layout)) f_Layout_eq _ := ⟨F_Layout_eq, fn_ok F_Layout_eq sc_Layout_eq (by intro xs O R Z h; repeat (first | (obtain ⟨rfl, _⟩ := h; rfl) | (obtain ⟨_, h⟩ := h))) (pd_Layout_eq (tb := (Tq C_Layout)) B W_Layout Y_Layout T_Layout ) (d_Layout_eq (Tq C_Layout))⟩
  have D_Layout_lines : Dm l.prog w K mg base 1 s_Layout_lines "lines" "Layout.lines" ["self"] [] [] (sp_Layout_lines (Tq C_Layout)) f_Layout_lines _ := ⟨F_Layout_lines, fn_ok F_Layout_lines sc_Layout_lines (by intro xs O R Z h; repeat (first | (obtain ⟨rfl, _⟩ := h; rfl) | (obtain ⟨_, h⟩ := h))) (pd_Layout_lines (tb := (Tq C_Layout)) B T_Layout ) (d_Layout_lines (Tq C_Layout))⟩
  have D_Layout_len : Dm l.prog w K mg base 2 s_Layout_len "__len__" "Layout.__len__" ["self"] [] [] (sp_Layout_len (Tq C_Layout)) f_Layout_len _ := ⟨F_Layout_len, fn_ok F_Layout_len sc_Layout_len (by intro xs O R Z h; repeat (first | (obtain ⟨rfl, _⟩ := h; rfl) | (obtain ⟨_, h⟩ := h))) (pd_Layout_len (tb := (Tq C_Layout)) B T_Layout D_Layout_lines) (d_Layout_len (Tq C_Layout))⟩
  have D_Layout_pages : Dm l.prog w K mg base 1 s_Layout_pages "pages" "Layout.pages" ["self"] [] [] (sp_Layout_pages (Tq C_Layout)) f_Layout_pages _ := ⟨F_Layout_pages, fn_ok F_Layout_pages sc_Layout_pages (by intro xs O R Z h; repeat (first | (obtain ⟨rfl, _⟩ := h; rfl) | (obtain ⟨_, h⟩ := h))) (pd_Layout_pages (tb := (Tq C_Layout)) B T_Layout ) (d_Layout_pages (Tq C_Layout))⟩
  have D_law_same := rec_law_same (P := l.prog) (w := w) (base := base) B F_law_same (PySem.W.mg_of X G a_law_same) 9
  have D_Layout_str : Dm l.prog w K mg base 1 s_Layout_str "__str__" "Layout.__str__" ["self"] [] [] (sp_Layout_str (Tq C_Layout)) f_Layout_str _ := ⟨F_Layout_str, fn_ok F_Layout_str sc_Layout_str (by intro xs O R Z h; repeat (first | (obtain ⟨rfl, _⟩ := h; rfl) | (obtain ⟨_, h⟩ := h))) (pd_Layout_str (tb := (Tq C_Layout)) B T_Layout ) (d_Layout_str (Tq C_Layout))⟩
  have D_Layout_repr : DmG l.prog w K mg base 1 s_Layout_repr "__repr__" "Layout.__repr__" ["self"] [] [] (sp_Layout_repr (Tq C_Layout)) f_Layout_repr _ := ⟨F_Layout_repr, fn_okG F_Layout_repr sc_Layout_repr (by intro xs O R Z h; repeat (first | (obtain ⟨rfl, _⟩ := h; rfl) | (obtain ⟨_, h⟩ := h))) (pd_Layout_repr (tb := (Tq C_Layout)) B T_Layout ) (d_Layout_repr (Tq C_Layout))⟩
  exact fn_okG F_law_v24 sc_law_v24 (by intro xs O R Z h; repeat (first | (obtain ⟨rfl, _⟩ := h; rfl) | (obtain ⟨_, h⟩ := h))) (pd_law_v24 (tb := (Tq C_Layout)) B T_Layout D_law_bag D_law_leaves D_law_pull D_Layout_init D_Layout_pages D_Layout_lines D_law_same D_Layout_eq D_Layout_str D_Layout_len D_Layout_repr) (d_law_v24 (Tq C_Layout))
end Lw
open PySem PySem.W PyProof.Rows
set_option maxHeartbeats 0 in
theorem PySem.Challenge.cw_burinleaf_k25_layouts_compared_and_writt_holds : PySem.Challenge.rw_burinleaf_k25_layouts_compared_and_writt.Holds := by
  w_on; o_law; k_head; (case hw => w_witness2)
  k_fill
  refine DL.walkG (l := PySem.Challenge.rw_burinleaf_k25_layouts_compared_and_writt) (n := 63) (k := 11) (x := "_law_script") rfl (by decide) rfl ⟨rfl, by decide, by decide⟩ (fun w h Y => PySem.W.kIn_of Y) ?F
  case F =>
    intro w mg fa h Y KX G hmg
    refine' Lw.all_mk KX G hmg ?xa_Layout ?xpg_Layout ?xhd_Layout ?xpo_Layout ?xst_Layout ?xmk_Layout ?xkp_Layout ?xn_Layout_sheets ?xob_Layout ?xon_Layout ?xoo_Layout ?xoi_Layout ?xos_Layout ?xoN_Layout ?yha_Layout ?yhn_Layout ?yht_Layout ?yhm_Layout ?yhe_Layout ?ykl_Layout ?yks_Layout ?yki_Layout ?ykn_Layout ?a_law_bag ?l_law_bag ?c_law_bag ?k_law_bag ?a_law_pull ?l_law_pull ?c_law_pull ?k_law_pull ?a_law_leaves ?l_law_leaves ?c_law_leaves ?k_law_leaves ?a_Layout_init ?l_Layout_init ?c_Layout_init ?k_Layout_init ?i_Layout_init ?a_Layout_eq ?l_Layout_eq ?c_Layout_eq ?k_Layout_eq ?i_Layout_eq ?a_Layout_lines ?l_Layout_lines ?c_Layout_lines ?k_Layout_lines ?i_Layout_lines ?a_Layout_len ?l_Layout_len ?c_Layout_len ?k_Layout_len ?i_Layout_len ?a_Layout_pages ?l_Layout_pages ?c_Layout_pages ?k_Layout_pages ?i_Layout_pages ?a_law_same ?l_law_same ?c_law_same ?k_law_same ?a_Layout_str ?l_Layout_str ?c_Layout_str ?k_Layout_str ?i_Layout_str ?a_Layout_repr ?l_Layout_repr ?c_Layout_repr ?k_Layout_repr ?i_Layout_repr ?a_law_v24 ?l_law_v24 ?c_law_v24 ?k_law_v24 ?z_all ?z_bool ?z_int ?z_isinstance ?z_len ?z_list ?z_range ?z_repr ?z_str ?z_sum ?z_tuple
    (case xa_Layout => first | k_is | rfl); (case xpg_Layout => first | k_is | rfl); (case xhd_Layout => first | k_is | rfl); (case xpo_Layout => first | k_is | rfl)
    (case xst_Layout => first | k_is | rfl); (case xmk_Layout => first | k_is | rfl); (case xkp_Layout => first | k_is | rfl); (case xn_Layout_sheets => first | k_is | rfl)
    (case xob_Layout => first | k_is | rfl); (case xon_Layout => first | k_is | rfl); (case xoo_Layout => first | k_is | rfl); (case xoi_Layout => first | k_is | rfl)
    (case xos_Layout => first | k_is | rfl); (case xoN_Layout => first | k_is | rfl); (case yha_Layout => first | k_is | rfl); (case yhn_Layout => first | k_is | rfl)
    (case yht_Layout => first | k_is | rfl); (case yhm_Layout => first | k_is | rfl); (case yhe_Layout => first | k_is | rfl); (case ykl_Layout => first | k_is | rfl)
    (case yks_Layout => first | k_is | rfl); (case yki_Layout => first | k_is | rfl); (case ykn_Layout => first | k_is | rfl); (case a_law_bag => k_is)
    (case l_law_bag => k_is); (case c_law_bag => k_is); (case k_law_bag => k_is); (case a_law_pull => k_is)
    (case l_law_pull => k_is); (case c_law_pull => k_is); (case k_law_pull => k_is); (case a_law_leaves => k_is)
    (case l_law_leaves => k_is); (case c_law_leaves => k_is); (case k_law_leaves => k_is); (case a_Layout_init => k_is)
    (case l_Layout_init => k_is); (case c_Layout_init => k_is); (case k_Layout_init => k_is); (case i_Layout_init => first | k_is | rfl)
    (case a_Layout_eq => k_is); (case l_Layout_eq => k_is); (case c_Layout_eq => k_is); (case k_Layout_eq => k_is)
    (case i_Layout_eq => first | k_is | rfl); (case a_Layout_lines => k_is); (case l_Layout_lines => k_is); (case c_Layout_lines => k_is)
    (case k_Layout_lines => k_is); (case i_Layout_lines => first | k_is | rfl); (case a_Layout_len => k_is); (case l_Layout_len => k_is)
    (case c_Layout_len => k_is); (case k_Layout_len => k_is); (case i_Layout_len => first | k_is | rfl); (case a_Layout_pages => k_is)
    (case l_Layout_pages => k_is); (case c_Layout_pages => k_is); (case k_Layout_pages => k_is); (case i_Layout_pages => first | k_is | rfl)
    (case a_law_same => k_is); (case l_law_same => k_is); (case c_law_same => k_is); (case k_law_same => k_is)
    (case a_Layout_str => k_is); (case l_Layout_str => k_is); (case c_Layout_str => k_is); (case k_Layout_str => k_is)
    (case i_Layout_str => first | k_is | rfl); (case a_Layout_repr => k_is); (case l_Layout_repr => k_is); (case c_Layout_repr => k_is)
    (case k_Layout_repr => k_is); (case i_Layout_repr => first | k_is | rfl); (case a_law_v24 => k_is); (case l_law_v24 => k_is)
    (case c_law_v24 => k_is); (case k_law_v24 => k_is); (case z_all => k_is); (case z_bool => k_is)
    (case z_int => k_is); (case z_isinstance => k_is); (case z_len => k_is); (case z_list => k_is)
    (case z_range => k_is); (case z_repr => k_is); (case z_str => k_is); (case z_sum => k_is)
    (case z_tuple => k_is)
