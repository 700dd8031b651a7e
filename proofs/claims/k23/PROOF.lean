import PyProof.Rows.All
import Wide.All
import OpenK.AllK
import Wide.FinOn
import HandS.ForMost
import HandS.ForExc
import HandS.Flow
import HandS.Wide
import HandS.Deep
import HandS.Zip
import HandS.Walk
import HandS.SortInts
import HandS.Comp
import HandS.More
import HandS.Strs
import HandS.IsInst
import HandS.TupAny
import HandS.Style
import HandS.TupMul
import KE.KIndexOf
import KE.GoesMore
import KE.GoesEnum
import HandS.Defaults
import HandS.SortOrd
import PyProof.TupleOfSeq
import KE.OsSort
import HandS.Star
import HandS.Conv
import HandS.Ends
import HandS.Words
import HandS.WordsExc
import HandS.Head0
import HandS.Head1
import HandS.Head2
import HandS.HeadEnd
import HandS.HeadHook1
import HandS.HeadHook2
import KE.KStateDown
import PySem.Challenge.RW_asifcopied_k23_whole_no_move_or_one_forc
set_option Elab.async false
set_option linter.all false
set_option maxRecDepth 100000
set_option maxHeartbeats 4000000
namespace DL
open PySem PySem.Spec L2
abbrev Sl := List (Option V)

inductive D where
  | non | bl (b : Bool) | int (i : Int) | str (x : Str)
  | tup (ds : List D) | pt (ds : List D) | lst (ds : List D) | fz (ds : List D)
  | dic (ks : List Key) (ds : List D)
  | obj (C : Addr) (fs : List Str) (ds : List D)
  | op (v : V)

mutual
inductive Rep (K : PySem.W.Frag) (Z : Addr → Prop) (H : Hp) : D → V → List Addr → Prop
  | non : Rep K Z H .non .non []
  | bl (b : Bool) : Rep K Z H (.bl b) (.bl b) []
  | int (i : Int) : Rep K Z H (.int i) (.int i) []
  | str (x : Str) : Rep K Z H (.str x) (.str x) []
  | tup {a : Addr} {ds : List D} {vs : List V} {F : List Addr} : SqT K H a vs → Reps K Z H ds vs F → Rep K Z H (.tup ds) (.ref a) F
  | pt {a : Addr} {ob : Obj} {ds : List D} {vs : List V} {F : List Addr} : H a = some (.frz ob (.tup vs)) → ob.dict = none → Reps K Z H ds vs F → Rep K Z H (.pt ds) (.ref a) F
  | lst {a : Addr} {ds : List D} {vs : List V} {F : List Addr} : H a = some (.lst vs) → Reps K Z H ds vs F → Rep K Z H (.lst ds) (.ref a) (a :: F)
  | fz {a : Addr} {ds : List D} {vs : List V} : ((Z a ∧ Rd H a (.lst vs)) ∨ ∀ H', SqL K H' a vs) → Reps K Z H ds vs [] → Rep K Z H (.fz ds) (.ref a) []
  | dic {a : Addr} {ks : List Key} {ds : List D} {vs : List V} {F : List Addr} : H a = some (.dK (ks.zip vs)) → ks.length = vs.length → Reps K Z H ds vs F → Rep K Z H (.dic ks ds) (.ref a) (a :: F)
  | obj {a C dx : Addr} {fs : List Str} {ds : List D} {vs : List V} {F : List Addr} : H a = some (.ins C dx (fs.zip vs)) → fs.length = vs.length → Reps K Z H ds vs F → Rep K Z H (.obj C fs ds) (.ref a) (a :: F)
  | op (v : V) : Rep K Z H (.op v) v []
inductive Reps (K : PySem.W.Frag) (Z : Addr → Prop) (H : Hp) : List D → List V → List Addr → Prop
  | nil : Reps K Z H [] [] []
  | cons {d : D} {v : V} {F : List Addr} {ds : List D} {vs : List V} {G : List Addr} : Rep K Z H d v F → Reps K Z H ds vs G → Reps K Z H (d :: ds) (v :: vs) (F ++ G)
end

/-- one step of the owned world -/
structure Stp (Z : Addr → Prop) (H : Hp) (F : List Addr) (Z' : Addr → Prop) (H' : Hp) (F' : List Addr) : Prop where
  z1 : ∀ a, Z a → Z' a
  z2 : ∀ a, Z' a → Z a ∨ a ∈ F ∨ H a = none
  fr : ∀ a o, H a = some o → a ∉ F → H' a = some o
  th : ∀ a o, H a = some o → ∃ o', H' a = some o'
  f2 : ∀ a ∈ F', a ∈ F ∨ H a = none
  tu : ∀ a xs, Rd H a (.tup xs) → Rd H' a (.tup xs)
  fl : ∀ a xs, Z a → Rd H a (.lst xs) → Rd H' a (.lst xs)
  ft : ∀ a o xs, H a = some (.frz o (.tup xs)) → H' a = some (.frz o (.tup xs))
/-- what keeps a representation -/
structure Kp (Z : Addr → Prop) (H : Hp) (Z' : Addr → Prop) (H' : Hp) : Prop where
  z1 : ∀ a, Z a → Z' a
  tu : ∀ a xs, Rd H a (.tup xs) → Rd H' a (.tup xs)
  fl : ∀ a xs, Z a → Rd H a (.lst xs) → Rd H' a (.lst xs)
  ft : ∀ a o xs, H a = some (.frz o (.tup xs)) → H' a = some (.frz o (.tup xs))
theorem Stp.kp {Z : Addr → Prop} {H : Hp} {F : List Addr} {Z' : Addr → Prop} {H' : Hp} {F' : List Addr} (s : Stp Z H F Z' H' F') : Kp Z H Z' H' := ⟨s.z1, s.tu, s.fl, s.ft⟩

section
variable {K : PySem.W.Frag} {Z Z1 Z2 Z' : Addr → Prop} {H H1 H2 H' : Hp} {F F1 F2 F' G G' R : List Addr}
theorem none_back (th : ∀ a o, H a = some o → ∃ o', H' a = some o') {a : Addr} (h : H' a = none) : H a = none := by
  cases e : H a with
  | none => rfl
  | some o =>
    obtain ⟨o', e'⟩ := th a o e
    rw [h] at e'
    cases e'
theorem Stp.refl : Stp Z H F Z H F :=
  ⟨fun _ h => h, fun _ h => .inl h, fun _ _ h _ => h, fun _ o h => ⟨o, h⟩, fun _ h => .inl h, fun _ _ h => h, fun _ _ _ h => h, fun _ _ _ h => h⟩
theorem Stp.trans (a : Stp Z H F Z1 H1 F1) (b : Stp Z1 H1 F1 Z2 H2 F2) : Stp Z H F Z2 H2 F2 where
  z1 := fun x h => b.z1 x (a.z1 x h)
  z2 := fun x h => by
    rcases b.z2 x h with h | h | h
    · exact a.z2 x h
    · exact .inr (a.f2 x h)
    · exact .inr (.inr (none_back a.th h))
  fr := fun x o h hn => b.fr x o (a.fr x o h hn) fun h1 => by
    rcases a.f2 x h1 with q | q
    · exact hn q
    · rw [h] at q
      cases q
  th := fun x o h => by
    obtain ⟨o1, h1⟩ := a.th x o h
    exact b.th x o1 h1
  f2 := fun x h => by
    rcases b.f2 x h with h | h
    · exact a.f2 x h
    · exact .inr (none_back a.th h)
  tu := fun x xs h => b.tu x xs (a.tu x xs h)
  fl := fun x xs z h => b.fl x xs (a.z1 x z) (a.fl x xs z h)
  ft := fun x o xs h => b.ft x o xs (a.ft x o xs h)
theorem Stp.sub (a : Stp Z H F Z1 H1 F1) (h : ∀ x ∈ F2, x ∈ F1) : Stp Z H F Z1 H1 F2 := ⟨a.z1, a.z2, a.fr, a.th, fun x hx => a.f2 x (h x hx), a.tu, a.fl, a.ft⟩
theorem Stp.sup (a : Stp Z H F Z1 H1 F1) (h : ∀ x ∈ F, x ∈ F2) : Stp Z H F2 Z1 H1 F1 :=
  ⟨a.z1, fun x hx => (a.z2 x hx).imp_right (fun z => z.imp_left (h x)), fun x o e hn => a.fr x o e fun q => hn (h x q), a.th, fun x hx => (a.f2 x hx).imp_left (h x), a.tu, a.fl, a.ft⟩
/-- more that is owned and stays -/
theorem Stp.more (a : Stp Z H F Z1 H1 F1) (hF : ∀ x ∈ F, x ∈ F2) (h : ∀ x ∈ F', x ∈ F1 ∨ x ∈ F2) : Stp Z H F2 Z1 H1 F' :=
  ⟨a.z1, fun x hx => (a.z2 x hx).imp_right (fun z => z.imp_left (hF x)), fun x o e hn => a.fr x o e fun q => hn (hF x q), a.th, fun x hx => by
    rcases h x hx with q | q
    · exact (a.f2 x q).imp_left (hF x)
    · exact .inl q, a.tu, a.fl, a.ft⟩

mutual
theorem Rep.mem : ∀ {d : D} {v : V} {F : List Addr}, Rep K Z H d v F → ∀ a ∈ F, ∃ o, H a = some o
  | _, _, _, .non, a, h => nomatch h
  | _, _, _, .bl _, a, h => nomatch h
  | _, _, _, .int _, a, h => nomatch h
  | _, _, _, .str _, a, h => nomatch h
  | _, _, _, .tup _ r, a, h => Reps.mem r a h
  | _, _, _, .pt _ _ r, a, h => Reps.mem r a h
  | _, _, _, .lst e r, a, h => by
    rcases List.mem_cons.mp h with q | q
    · exact ⟨_, by rw [q]; exact e⟩
    · exact Reps.mem r a q
  | _, _, _, .fz _ r, a, h => nomatch h
  | _, _, _, .dic e _ r, a, h => by
    rcases List.mem_cons.mp h with q | q
    · exact ⟨_, by rw [q]; exact e⟩
    · exact Reps.mem r a q
  | _, _, _, .obj e _ r, a, h => by
    rcases List.mem_cons.mp h with q | q
    · exact ⟨_, by rw [q]; exact e⟩
    · exact Reps.mem r a q
  | _, _, _, .op _, a, h => nomatch h
theorem Reps.mem : ∀ {ds : List D} {vs : List V} {F : List Addr}, Reps K Z H ds vs F → ∀ a ∈ F, ∃ o, H a = some o
  | _, _, _, .nil, a, h => nomatch h
  | _, _, _, .cons r rs, a, h => by
    rcases List.mem_append.mp h with q | q
    · exact Rep.mem r a q
    · exact Reps.mem rs a q
end


theorem SqT.kp {a : Addr} {vs : List V} (tu : ∀ a xs, Rd H a (.tup xs) → Rd H' a (.tup xs)) (h : SqT K H a vs) : SqT K H' a vs := by
  rcases h with h | h
  · exact .inl (tu _ _ h)
  · exact .inr h

mutual
theorem Rep.kp (kk : Kp Z H Z' H') :
    ∀ {d : D} {v : V} {F : List Addr}, Rep K Z H d v F → (∀ a ∈ F, ∀ o, H a = some o → H' a = some o) → Rep K Z' H' d v F
  | _, _, _, .non, _ => .non
  | _, _, _, .bl b, _ => .bl b
  | _, _, _, .int i, _ => .int i
  | _, _, _, .str x, _ => .str x
  | _, _, _, .tup e r, h => .tup (SqT.kp kk.tu e) (Reps.kp kk r h)
  | _, _, _, .pt e d r, h => .pt (kk.ft _ _ _ e) d (Reps.kp kk r h)
  | _, _, _, .lst e r, h => .lst (h _ List.mem_cons_self _ e) (Reps.kp kk r fun a ha => h a (List.mem_cons_of_mem _ ha))
  | _, _, _, .fz e r, h => .fz (e.imp_left fun q => ⟨kk.z1 _ q.1, kk.fl _ _ q.1 q.2⟩) (Reps.kp kk r fun a ha => nomatch ha)
  | _, _, _, .dic e l r, h => .dic (h _ List.mem_cons_self _ e) l (Reps.kp kk r fun a ha => h a (List.mem_cons_of_mem _ ha))
  | _, _, _, .obj e l r, h => .obj (h _ List.mem_cons_self _ e) l (Reps.kp kk r fun a ha => h a (List.mem_cons_of_mem _ ha))
  | _, _, _, .op v, _ => .op v
theorem Reps.kp (kk : Kp Z H Z' H') :
    ∀ {ds : List D} {vs : List V} {F : List Addr}, Reps K Z H ds vs F → (∀ a ∈ F, ∀ o, H a = some o → H' a = some o) → Reps K Z' H' ds vs F
  | _, _, _, .nil, _ => .nil
  | _, _, _, .cons r rs, h => .cons (Rep.kp kk r fun a ha => h a (List.mem_append_left _ ha)) (Reps.kp kk rs fun a ha => h a (List.mem_append_right _ ha))
end
theorem Rep.step {d : D} {v : V} (s : Stp Z H F Z' H' F') (r : Rep K Z H d v G) (h : ∀ a ∈ G, a ∉ F) : Rep K Z' H' d v G := r.kp s.kp fun a ha o e => s.fr a o e (h a ha)
theorem Reps.step {ds : List D} {vs : List V} (s : Stp Z H F Z' H' F') (r : Reps K Z H ds vs G) (h : ∀ a ∈ G, a ∉ F) : Reps K Z' H' ds vs G := r.kp s.kp fun a ha o e => s.fr a o e (h a ha)

/-! ### the slots -/
abbrev EnvT := List (Option D)
inductive EnvR (K : PySem.W.Frag) (Z : Addr → Prop) (H : Hp) : EnvT → Sl → List Addr → Prop
  | nil : EnvR K Z H [] [] []
  | no {E : EnvT} {o : Option V} {σ : Sl} {F : List Addr} : EnvR K Z H E σ F → EnvR K Z H (none :: E) (o :: σ) F
  | so {E : EnvT} {d : D} {v : V} {σ : Sl} {F G : List Addr} : Rep K Z H d v G → EnvR K Z H E σ F → EnvR K Z H (some d :: E) (some v :: σ) (G ++ F)

theorem EnvR.kp (kk : Kp Z H Z' H') :
    ∀ {E : EnvT} {σ : Sl} {F : List Addr}, EnvR K Z H E σ F → (∀ a ∈ F, ∀ o, H a = some o → H' a = some o) → EnvR K Z' H' E σ F
  | _, _, _, .nil, _ => .nil
  | _, _, _, .no r, h => .no (EnvR.kp kk r h)
  | _, _, _, .so r rs, h => .so (r.kp kk fun a ha => h a (List.mem_append_left _ ha)) (EnvR.kp kk rs fun a ha => h a (List.mem_append_right _ ha))
theorem EnvR.step {E : EnvT} {σ : Sl} (s : Stp Z H F Z' H' F') (r : EnvR K Z H E σ G) (h : ∀ a ∈ G, a ∉ F) : EnvR K Z' H' E σ G := r.kp s.kp fun a ha o e => s.fr a o e (h a ha)
theorem EnvR.mem : ∀ {E : EnvT} {σ : Sl} {F : List Addr}, EnvR K Z H E σ F → ∀ a ∈ F, ∃ o, H a = Option.some o
  | _, _, _, .nil, a, h => nomatch h
  | _, _, _, .no r, a, h => EnvR.mem r a h
  | _, _, _, .so r rs, a, h => by
    rcases List.mem_append.mp h with q | q
    · exact Rep.mem r a q
    · exact EnvR.mem rs a q
theorem EnvR.len : ∀ {E : EnvT} {σ : Sl} {F : List Addr}, EnvR K Z H E σ F → E.length = σ.length
  | _, _, _, .nil => rfl
  | _, _, _, .no r => by rw [List.length_cons, List.length_cons, EnvR.len r]
  | _, _, _, .so _ r => by rw [List.length_cons, List.length_cons, EnvR.len r]
/-- a slot's tree, apart from the others -/
theorem EnvR.get : ∀ {E : EnvT} {σ : Sl} {F : List Addr} {i : Nat} {d : D}, EnvR K Z H E σ F → E[i]? = some (some d) →
    ∃ v G R, σ[i]? = some (some v) ∧ Rep K Z H d v G ∧ EnvR K Z H (E.set i none) σ R ∧ F.Perm (G ++ R)
  | _, _, _, _, _, .nil, e => by simp at e
  | _, _, _, 0, _, .no r, e => by simp at e
  | _, _, _, i + 1, _, .no r, e => by
    obtain ⟨v, G, R, h1, h2, h3, h4⟩ := EnvR.get r (by simpa using e)
    exact ⟨v, G, R, by simpa using h1, h2, by simpa using EnvR.no h3, h4⟩
  | _, _, _, 0, _, .so (v := v) (F := F') (G := G') r rs, e => by
    have e' := Option.some.inj (Option.some.inj (by simpa using e))
    subst e'
    exact ⟨v, G', F', rfl, r, .no rs, List.Perm.refl _⟩
  | _, _, _, i + 1, _, .so (v := w) (F := F') (G := G') r rs, e => by
    obtain ⟨v, G, R, h1, h2, h3, h4⟩ := EnvR.get rs (by simpa using e)
    refine ⟨v, G, G' ++ R, by simpa using h1, h2, by simpa using EnvR.so r h3, ?_⟩
    have p1 : (G' ++ F').Perm (G' ++ (G ++ R)) := List.Perm.append_left _ h4
    refine p1.trans ?_
    rw [← List.append_assoc, ← List.append_assoc]
    exact List.Perm.append_right _ List.perm_append_comm
/-- an empty slot filled with what stands there -/
theorem EnvR.put : ∀ {E : EnvT} {σ : Sl} {R : List Addr} {i : Nat} {d : D} {v : V} {G : List Addr}, EnvR K Z H E σ R → E[i]? = some none → σ[i]? = some (some v) → Rep K Z H d v G →
    ∃ F, EnvR K Z H (E.set i (some d)) σ F ∧ F.Perm (G ++ R)
  | _, _, _, _, _, _, _, .nil, e, _, _ => by simp at e
  | _, _, _, 0, _, _, _, .no (o := o) r, e, hv, rp => by
    have e' : o = _ := Option.some.inj (by simpa using hv)
    subst e'
    exact ⟨_, .so rp r, List.Perm.refl _⟩
  | _, _, _, i + 1, _, _, _, .no r, e, hv, rp => by
    obtain ⟨F, h1, h2⟩ := EnvR.put r (by simpa using e) (by simpa using hv) rp
    exact ⟨F, by simpa using EnvR.no h1, h2⟩
  | _, _, _, 0, _, _, _, .so r rs, e, _, _ => by simp at e
  | _, _, _, i + 1, _, _, G, .so (F := F') (G := G') r rs, e, hv, rp => by
    obtain ⟨F, h1, h2⟩ := EnvR.put rs (by simpa using e) (by simpa using hv) rp
    refine ⟨G' ++ F, by simpa using EnvR.so r h1, ?_⟩
    have p1 : (G' ++ F).Perm (G' ++ (G ++ F')) := List.Perm.append_left _ h2
    refine p1.trans ?_
    rw [← List.append_assoc, ← List.append_assoc]
    exact List.Perm.append_right _ List.perm_append_comm
/-- a slot dropped -/
theorem EnvR.drop : ∀ {E : EnvT} {σ : Sl} {F : List Addr} (i : Nat) (o : Option V), EnvR K Z H E σ F → ∃ R, EnvR K Z H (E.set i none) (σ.set i o) R ∧ R.Sublist F
  | _, _, _, _, _, .nil => ⟨_, .nil, List.Sublist.refl _⟩
  | _, _, _, 0, o, .no r => ⟨_, .no r, List.Sublist.refl _⟩
  | _, _, _, i + 1, o, .no r => by
    obtain ⟨R, h1, h2⟩ := EnvR.drop i o r
    exact ⟨R, by simpa using EnvR.no h1, h2⟩
  | _, _, _, 0, o, .so r rs => ⟨_, .no rs, List.sublist_append_right _ _⟩
  | _, _, _, i + 1, o, .so (G := G) r rs => by
    obtain ⟨R, h1, h2⟩ := EnvR.drop i o rs
    exact ⟨_, by simpa using EnvR.so r h1, List.Sublist.append_left h2 _⟩
theorem EnvR.drop' {E : EnvT} {σ : Sl} {F : List Addr} (i : Nat) (r : EnvR K Z H E σ F) : ∃ R, EnvR K Z H (E.set i none) σ R ∧ R.Sublist F := by
  cases e : E[i]? with
  | none => exact ⟨F, by rw [List.set_eq_of_length_le (List.getElem?_eq_none_iff.mp e)]; exact r, List.Sublist.refl _⟩
  | some o =>
    cases h : σ[i]? with
    | none =>
      have l := r.len
      have h1 := List.getElem?_eq_none_iff.mp h
      have h2 := (List.getElem?_eq_some_iff.mp e).1
      omega
    | some w =>
      obtain ⟨R, h1, h2⟩ := r.drop i w
      have hs : σ.set i w = σ := by
        obtain ⟨hl, hw⟩ := List.getElem?_eq_some_iff.mp h
        rw [← hw]
        exact List.set_getElem_self hl
      rw [hs] at h1
      exact ⟨R, h1, h2⟩
end

structure EnvS (K : PySem.W.Frag) (Z : Addr → Prop) (H : Hp) (E : EnvT) (σ : Sl) (F : List Addr) : Prop where
  r : EnvR K Z H E σ F
  nd : F.Nodup
  nz : ∀ a ∈ F, ¬ Z a
  zt : ∀ a, Z a → ∃ o, H a = some o

end DL

namespace DL
open PySem PySem.Spec L2

/-! ### wished-for ends of syntax, without a reading -/
section
variable (X : Cx)
def wpE (e : Expr) (σ : Sl) (H : Hp) (Q : VK) : Prop := ∀ (pins : List (Addr × Obj)) (s : Shared), Inv X pins σ H s → wpAny (model X.prog X.w) X.A (eval e X.env) (EP X pins σ Q) X.xe s
def wpT (e : Expr) (σ : Sl) (H : Hp) (Q : Bool → Hp → Prop) : Prop := ∀ (pins : List (Addr × Obj)) (s : Shared), Inv X pins σ H s → wpAny (model X.prog X.w) X.A (isTrue e X.env (eval e X.env)) (TP X pins σ Q) X.xe s
def wpW (e : Expr) (σ : Sl) (H : Hp) (Q : Bool → Hp → Prop) : Prop := ∀ (whole : Sem Value) (pins : List (Addr × Obj)) (s : Shared), Inv X pins σ H s → wpAny (model X.prog X.w) X.A (isTrue e X.env whole) (TP X pins σ Q) X.xe s
def wpA (es : List Expr) (σ : Sl) (H : Hp) (Q : List V → Hp → Prop) : Prop := ∀ (pos : Pos) (pins : List (Addr × Obj)) (s : Shared), Inv X pins σ H s → wpAny (model X.prog X.w) X.A (spliced (backTo pos (starEach es X.env))) (AP X pins σ Q) X.xe s
def wpS (st : Stmt) (D : Ends) (σ : Sl) (H : Hp) : Prop := ∀ (pins : List (Addr × Obj)) (s : Shared), Inv X pins σ H s → wpAny (model X.prog X.w) X.A (exec st X.env) (SP X pins D) X.xe s
def wpSs (st : List Stmt) (D : Ends) (σ : Sl) (H : Hp) : Prop := ∀ (pins : List (Addr × Obj)) (s : Shared), Inv X pins σ H s → wpAny (model X.prog X.w) X.A (execs st X.env) (SP X pins D) X.xe s
def wpG (tg : Expr) (v : V) (σ : Sl) (H : Hp) (Q : Sl → Hp → Prop) : Prop := ∀ (pins : List (Addr × Obj)) (s : Shared) (u : Value), Inv X pins σ H s → RelV v u → wpAny (model X.prog X.w) X.A (assign tg X.env u) (fun _ s' => ∃ σ' H', Inv X pins σ' H' s' ∧ Q σ' H') X.xe s
end
section
variable {X : Cx} {e : Expr} {es : List Expr} {st : Stmt} {sts : List Stmt} {σ : Sl} {H : Hp}
theorem pe_w : PE X e (wpE X e) := ⟨fun pins s σ H Q I h => h pins s I⟩
theorem pt_w : PT X e (wpT X e) := ⟨fun pins s σ H Q I h => h pins s I⟩
theorem pw_w : PW X e (wpW X e) := ⟨fun w pins s σ H Q I h => h w pins s I⟩
theorem pa_w : PA X es (wpA X es) := ⟨fun pos pins s σ H Q I h => h pos pins s I⟩
theorem ps_w : PS X st (wpS X st) := ⟨fun pins s σ H D I h => h pins s I⟩
theorem pss_w : PSs X sts (wpSs X sts) := ⟨fun pins s σ H D I h => h pins s I⟩
theorem pg_w : PG X e (wpG X e) := ⟨fun pins s σ H v u Q I r h => h pins s u I r⟩
theorem wpE_by {t : TE} {Q : VK} (h : PE X e t) (q : t σ H Q) : wpE X e σ H Q := fun pins s I => h.run pins s σ H Q I q
theorem wpT_by {t : TT} {Q : Bool → Hp → Prop} (h : PT X e t) (q : t σ H Q) : wpT X e σ H Q := fun pins s I => h.run pins s σ H Q I q
theorem wpW_by {t : TT} {Q : Bool → Hp → Prop} (h : PW X e t) (q : t σ H Q) : wpW X e σ H Q := fun w pins s I => h.run w pins s σ H Q I q
theorem wpA_by {t : TA} {Q : List V → Hp → Prop} (h : PA X es t) (q : t σ H Q) : wpA X es σ H Q := fun pos pins s I => h.run pos pins s σ H Q I q
theorem wpS_by {t : TS} {D : Ends} (h : PS X st t) (q : t D σ H) : wpS X st D σ H := fun pins s I => h.run pins s σ H D I q
theorem wpSs_by {t : TS} {D : Ends} (h : PSs X sts t) (q : t D σ H) : wpSs X sts D σ H := fun pins s I => h.run pins s σ H D I q
theorem wpG_by {t : TG} {v : V} {Q : Sl → Hp → Prop} (h : PG X e t) (q : t v σ H Q) : wpG X e v σ H Q := fun pins s u I r => h.run pins s σ H v u Q I r q
end

/-! ### operands -/
inductive Opd where
  | val (d : D) | bor (i : Nat)
def Opd.get (E : EnvT) : Opd → Option D
  | .val d => some d
  | .bor i => E[i]?.join
def OpdR (K : PySem.W.Frag) (Z : Addr → Prop) (H : Hp) (σ : Sl) : Opd → V → List Addr → Prop
  | .val d, v, G => Rep K Z H d v G
  | .bor i, v, G => σ[i]? = some (some v) ∧ G = []
inductive OpdRs (K : PySem.W.Frag) (Z : Addr → Prop) (H : Hp) (σ : Sl) : List Opd → List V → List Addr → Prop
  | nil : OpdRs K Z H σ [] [] []
  | cons {o : Opd} {v : V} {G : List Addr} {os : List Opd} {vs : List V} {Gs : List Addr} : OpdR K Z H σ o v G → OpdRs K Z H σ os vs Gs → OpdRs K Z H σ (o :: os) (v :: vs) (G ++ Gs)

section
variable {K : PySem.W.Frag} {Z Z1 Z2 Z' : Addr → Prop} {H H1 H2 H' : Hp} {F F1 F2 F' G G' R : List Addr} {σ : Sl} {E E' : EnvT} {o : Opd} {os : List Opd} {v : V} {vs : List V} {d : D}
theorem OpdR.mem (r : OpdR K Z H σ o v G) : ∀ a ∈ G, ∃ u, H a = some u := by
  cases o with
  | val d => exact Rep.mem r
  | bor i => intro a h; rw [r.2] at h; cases h
theorem OpdRs.mem : ∀ {os : List Opd} {vs : List V} {G : List Addr}, OpdRs K Z H σ os vs G → ∀ a ∈ G, ∃ u, H a = some u
  | _, _, _, .nil, a, h => nomatch h
  | _, _, _, .cons r rs, a, h => by
    rcases List.mem_append.mp h with q | q
    · exact OpdR.mem r a q
    · exact OpdRs.mem rs a q
theorem OpdR.step (s : Stp Z H F Z' H' F') (r : OpdR K Z H σ o v G) (h : ∀ a ∈ G, a ∉ F) : OpdR K Z' H' σ o v G := by
  cases o with
  | val d => exact Rep.step s r h
  | bor i => exact r
theorem OpdRs.step (s : Stp Z H F Z' H' F') : ∀ {os : List Opd} {vs : List V} {G : List Addr}, OpdRs K Z H σ os vs G → (∀ a ∈ G, a ∉ F) → OpdRs K Z' H' σ os vs G
  | _, _, _, .nil, _ => .nil
  | _, _, _, .cons r rs, h => .cons (OpdR.step s r fun a ha => h a (List.mem_append_left _ ha)) (OpdRs.step s rs fun a ha => h a (List.mem_append_right _ ha))
/-- what an operand is where it is used -/
theorem OpdR.use (e : EnvS K Z H E σ F) (r : OpdR K Z H σ o v G) (g : o.get E = some d) : ∃ G', Rep K Z H d v G' ∧ ∀ a ∈ G', a ∈ G ∨ a ∈ F := by
  cases o with
  | val d' =>
    cases g
    exact ⟨G, r, fun a h => .inl h⟩
  | bor i =>
    have g' : E[i]? = some (some d) := by
      have q : E[i]?.join = some d := g
      cases h : E[i]? with
      | none => rw [h] at q; cases q
      | some x => rw [h] at q; cases x <;> cases q; rfl
    obtain ⟨w, G1, R, h1, h2, h3, h4⟩ := e.r.get g'
    rw [r.1] at h1
    cases h1
    exact ⟨G1, h2, fun a ha => .inr (h4.mem_iff.mpr (List.mem_append_left _ ha))⟩

theorem Stp.push (a : Stp Z H F Z1 H1 (G ++ F1)) (b : Stp Z1 H1 F1 Z2 H2 F2) : Stp Z H F Z2 H2 (G ++ F2) :=
  a.trans (b.more (fun x h => List.mem_append_right _ h) fun x h => (List.mem_append.mp h).elim (fun q => .inr (List.mem_append_left _ q)) .inl)
theorem Stp.apart (b : Stp Z1 H1 F1 Z2 H2 F2) (hG : ∀ a ∈ G, ∃ u, H1 a = some u) (nd : (G ++ F1).Nodup) (n2 : F2.Nodup) : (G ++ F2).Nodup ∧ ∀ a ∈ G, a ∉ F1 := by
  have h0 : ∀ a ∈ G, a ∉ F1 := fun a ha hf => (List.nodup_append.mp nd).2.2 a ha a hf rfl
  refine ⟨List.nodup_append.mpr ⟨(List.nodup_append.mp nd).1, n2, fun a ha b hb e => ?_⟩, h0⟩
  subst e
  rcases b.f2 a hb with q | q
  · exact h0 a ha q
  · obtain ⟨u, hu⟩ := hG a ha
    rw [hu] at q
    cases q
theorem Stp.nz (b : Stp Z1 H1 F1 Z2 H2 F2) (hG : ∀ a ∈ G, ∃ u, H1 a = some u) (h0 : ∀ a ∈ G, a ∉ F1) (hz : ∀ a ∈ G, ¬ Z1 a) : ∀ a ∈ G, ¬ Z2 a := fun a ha z => by
  rcases b.z2 a z with q | q | q
  · exact hz a ha q
  · exact h0 a ha q
  · obtain ⟨u, hu⟩ := hG a ha
    rw [hu] at q
    cases q
end

/-! ### the judgements -/
structure Fin (K : PySem.W.Frag) (Z : Addr → Prop) (H : Hp) (σ : Sl) (F : List Addr) (E' : EnvT) (Z' : Addr → Prop) (H' : Hp) (F' G : List Addr) : Prop where
  env : EnvS K Z' H' E' σ F'
  nd : (G ++ F').Nodup
  nz : ∀ a ∈ G, ¬ Z' a
  st : Stp Z H F Z' H' (G ++ F')
section
variable {K : PySem.W.Frag} {Z Z1 Z2 Z' : Addr → Prop} {H H1 H2 H' : Hp} {F F1 F2 F' G G1 G2 G' R : List Addr} {σ : Sl} {E E1 E2 E' : EnvT} {o : Opd} {os : List Opd} {v : V} {vs : List V} {d : D}
theorem Fin.refl (e : EnvS K Z H E σ F) : Fin K Z H σ F E Z H F [] := ⟨e, e.nd, (fun a h => nomatch h), Stp.refl⟩
theorem Fin.join (a : Fin K Z H σ F E1 Z1 H1 F1 G1) (hG : ∀ a ∈ G1, ∃ u, H1 a = some u) (b : Fin K Z1 H1 σ F1 E2 Z2 H2 F2 G2) : Fin K Z H σ F E2 Z2 H2 F2 (G1 ++ G2) := by
  obtain ⟨n1, n2⟩ := b.st.apart hG a.nd b.nd
  refine ⟨b.env, by rw [List.append_assoc]; exact n1, fun x hx => ?_, by rw [List.append_assoc]; exact a.st.push b.st⟩
  rcases List.mem_append.mp hx with q | q
  · exact b.st.nz hG n2 a.nz x q
  · exact b.nz x q
theorem Fin.off (a : Fin K Z H σ F E1 Z1 H1 F1 G1) (hG : ∀ a ∈ G1, ∃ u, H1 a = some u) (b : Fin K Z1 H1 σ F1 E2 Z2 H2 F2 G2) : ∀ x ∈ G1, x ∉ F1 := (b.st.apart hG a.nd b.nd).2
/-- temporaries forgotten -/
theorem Fin.sub (a : Fin K Z H σ F E1 Z1 H1 F1 G1) (s : G2.Sublist G1) : Fin K Z H σ F E1 Z1 H1 F1 G2 :=
  ⟨a.env, (List.Sublist.append_right s F1).nodup a.nd, fun x hx => a.nz x (s.subset hx), a.st.sub fun x hx => (List.Sublist.append_right s F1).subset hx⟩
theorem Fin.nil (a : Fin K Z H σ F E1 Z1 H1 F1 G1) : Fin K Z H σ F E1 Z1 H1 F1 [] := a.sub (List.nil_sublist _)
end

section
variable (X : Cx)
def WO (e : Expr) (E : EnvT) (k : Opd → EnvT → Prop) : Prop := ∀ (Z : Addr → Prop) (H : Hp) (σ : Sl) (F : List Addr) (Q : VK), EnvS X.K Z H E σ F →
  (∀ (o : Opd) (E' : EnvT) (Z' : Addr → Prop) (H' : Hp) (F' G : List Addr) (v : V), k o E' → Fin X.K Z H σ F E' Z' H' F' G → OpdR X.K Z' H' σ o v G → Q v H') → wpE X e σ H Q
def WE (e : Expr) (E : EnvT) (k : D → EnvT → Prop) : Prop := WO X e E fun o E' => ∃ d, o = .val d ∧ k d E'
def WA (es : List Expr) (E : EnvT) (k : List Opd → EnvT → Prop) : Prop := ∀ (Z : Addr → Prop) (H : Hp) (σ : Sl) (F : List Addr) (Q : List V → Hp → Prop), EnvS X.K Z H E σ F →
  (∀ (os : List Opd) (E' : EnvT) (Z' : Addr → Prop) (H' : Hp) (F' G : List Addr) (vs : List V), k os E' → Fin X.K Z H σ F E' Z' H' F' G → OpdRs X.K Z' H' σ os vs G → Q vs H') → wpA X es σ H Q
def WT (e : Expr) (E : EnvT) (k : Bool → EnvT → Prop) : Prop := ∀ (Z : Addr → Prop) (H : Hp) (σ : Sl) (F : List Addr) (Q : Bool → Hp → Prop), EnvS X.K Z H E σ F →
  (∀ (b : Bool) (E' : EnvT) (Z' : Addr → Prop) (H' : Hp) (F' : List Addr), k b E' → Fin X.K Z H σ F E' Z' H' F' [] → Q b H') → wpT X e σ H Q
def WW (e : Expr) (E : EnvT) (k : Bool → EnvT → Prop) : Prop := ∀ (Z : Addr → Prop) (H : Hp) (σ : Sl) (F : List Addr) (Q : Bool → Hp → Prop), EnvS X.K Z H E σ F →
  (∀ (b : Bool) (E' : EnvT) (Z' : Addr → Prop) (H' : Hp) (F' : List Addr), k b E' → Fin X.K Z H σ F E' Z' H' F' [] → Q b H') → wpW X e σ H Q
end
/-- what is wanted behind a statement, over trees -/
structure KS where
  nx : EnvT → Prop
  rt : D → EnvT → Prop
  bk : EnvT → Prop := fun _ => False
  ct : EnvT → Prop := fun _ => False
/-- the slots of n hold what they held -/
def Pin (n : List Nat) (σ σ' : Sl) : Prop := ∀ i ∈ n, σ'[i]? = σ[i]?
theorem Pin.refl {n : List Nat} {σ : Sl} : Pin n σ σ := fun _ _ => rfl
theorem Pin.trans {n : List Nat} {σ σ1 σ2 : Sl} (a : Pin n σ σ1) (b : Pin n σ1 σ2) : Pin n σ σ2 := fun i h => (b i h).trans (a i h)
theorem Pin.set {n : List Nat} {i : Nat} {σ : Sl} {o : Option V} (h : i ∉ n) : Pin n σ (σ.set i o) := fun j hj => by
  rw [List.getElem?_set_ne]
  exact fun q => h (by rw [q]; exact hj)
theorem Pin.sub {n n' : List Nat} {σ σ1 : Sl} (a : Pin n σ σ1) (h : ∀ i ∈ n', i ∈ n) : Pin n' σ σ1 := fun i hi => a i (h i hi)
/-- an end of a statement -/
structure FinS (K : PySem.W.Frag) (n : List Nat) (Z : Addr → Prop) (H : Hp) (σ : Sl) (F : List Addr) (E' : EnvT) (Z' : Addr → Prop) (H' : Hp) (σ' : Sl) (F' G : List Addr) : Prop where
  env : EnvS K Z' H' E' σ' F'
  nd : (G ++ F').Nodup
  nz : ∀ a ∈ G, ¬ Z' a
  st : Stp Z H F Z' H' (G ++ F')
  pin : Pin n σ σ'
structure EndsOk (K : PySem.W.Frag) (n : List Nat) (Z : Addr → Prop) (H : Hp) (σ : Sl) (F : List Addr) (k : KS) (D : Ends) : Prop where
  nx : ∀ E' Z' H' σ' F', k.nx E' → FinS K n Z H σ F E' Z' H' σ' F' [] → D.nx σ' H'
  rt : ∀ d v E' Z' H' σ' F' G, k.rt d E' → FinS K n Z H σ F E' Z' H' σ' F' G → Rep K Z' H' d v G → D.rt v H'
  bk : ∀ E' Z' H' σ' F', k.bk E' → FinS K n Z H σ F E' Z' H' σ' F' [] → D.bk σ' H'
  ct : ∀ E' Z' H' σ' F', k.ct E' → FinS K n Z H σ F E' Z' H' σ' F' [] → D.ct σ' H'
def WS (X : Cx) (n : List Nat) (st : Stmt) (E : EnvT) (k : KS) : Prop := ∀ (Z : Addr → Prop) (H : Hp) (σ : Sl) (F : List Addr) (D : Ends), EnvS X.K Z H E σ F → EndsOk X.K n Z H σ F k D → wpS X st D σ H
def WSs (X : Cx) (n : List Nat) (sts : List Stmt) (E : EnvT) (k : KS) : Prop := ∀ (Z : Addr → Prop) (H : Hp) (σ : Sl) (F : List Addr) (D : Ends), EnvS X.K Z H E σ F → EndsOk X.K n Z H σ F k D → wpSs X sts D σ H
/-- a target of an assignment: the value's tree d -/
def WG (X : Cx) (n : List Nat) (tg : Expr) (d : D) (E : EnvT) (k : EnvT → Prop) : Prop := ∀ (Z : Addr → Prop) (H : Hp) (σ : Sl) (F G : List Addr) (v : V) (Q : Sl → Hp → Prop), EnvS X.K Z H E σ F → Rep X.K Z H d v G → (G ++ F).Nodup → (∀ a ∈ G, ¬ Z a) →
  (∀ (E' : EnvT) (Z' : Addr → Prop) (H' : Hp) (σ' : Sl) (F' : List Addr), k E' → FinS X.K n Z H σ (G ++ F) E' Z' H' σ' F' [] → Q σ' H') → wpG X tg v σ H Q

section
variable {K : PySem.W.Frag} {n : List Nat} {Z Z1 Z2 Z' : Addr → Prop} {H H1 H2 H' : Hp} {F F1 F2 F' G G1 G2 G' R : List Addr} {σ σ1 σ2 : Sl} {E E1 E2 E' : EnvT} {d : D} {v : V}
theorem Fin.toS (a : Fin K Z H σ F E1 Z1 H1 F1 G1) : FinS K n Z H σ F E1 Z1 H1 σ F1 G1 := ⟨a.env, a.nd, a.nz, a.st, Pin.refl⟩
theorem FinS.trans (a : FinS K n Z H σ F E1 Z1 H1 σ1 F1 []) (b : FinS K n Z1 H1 σ1 F1 E2 Z2 H2 σ2 F2 G2) : FinS K n Z H σ F E2 Z2 H2 σ2 F2 G2 :=
  ⟨b.env, b.nd, b.nz, a.st.trans b.st, a.pin.trans b.pin⟩
/-- behind a beginning the ends are still right -/
theorem EndsOk.after {k : KS} {D : Ends} (e : EndsOk K n Z H σ F k D) (a : FinS K n Z H σ F E1 Z1 H1 σ1 F1 []) : EndsOk K n Z1 H1 σ1 F1 k D :=
  ⟨fun E' Z' H' σ' F' h f => e.nx E' Z' H' σ' F' h (a.trans f), fun d v E' Z' H' σ' F' G h f r => e.rt d v E' Z' H' σ' F' G h (a.trans f) r, fun E' Z' H' σ' F' h f => e.bk E' Z' H' σ' F' h (a.trans f), fun E' Z' H' σ' F' h f => e.ct E' Z' H' σ' F' h (a.trans f)⟩
end

/-! ### arguments, blocks -/
section
variable {X : Cx} {n : List Nat} {e : Expr} {es : List Expr} {st : Stmt} {sts : List Stmt} {E : EnvT} {k : KS} {pos : Pos}
theorem wa_nil {k : List Opd → EnvT → Prop} (h : k [] E) : WA X [] E k := fun Z H σ F Q he hk => wpA_by pa_nil (hk [] E Z H F [] [] h (Fin.refl he) .nil)
theorem wa_cons {k : List Opd → EnvT → Prop} (h : WO X e E fun o E1 => WA X es E1 fun os E2 => k (o :: os) E2) (hs : starEach (e :: es) X.env = (false, eval e X.env) :: starEach es X.env := by rfl) : WA X (e :: es) E k := by
  intro Z H σ F Q he hk
  refine wpA_by (pa_cons pe_w pa_w hs) (h Z H σ F _ he fun o E1 Z1 H1 F1 G1 v k1 f1 r1 => ?_)
  refine k1 Z1 H1 σ F1 _ f1.env fun os E2 Z2 H2 F2 G2 vs k2 f2 r2 => ?_
  exact hk (o :: os) E2 Z2 H2 F2 (G1 ++ G2) (v :: vs) k2 (f1.join r1.mem f2) (.cons (r1.step f2.st (f1.off r1.mem f2)) r2)
theorem WO.mono {k k' : Opd → EnvT → Prop} (h : WO X e E k) (m : ∀ o E', k o E' → k' o E') : WO X e E k' := fun Z H σ F Q he hk => h Z H σ F Q he fun o E' Z' H' F' G v q => hk o E' Z' H' F' G v (m o E' q)
theorem we_of {k : D → EnvT → Prop} (h : WO X e E fun o E' => ∃ d, o = .val d ∧ k d E') : WE X e E k := h
theorem wo_of {k : Opd → EnvT → Prop} (h : WE X e E fun d E' => k (.val d) E') : WO X e E k := WO.mono h fun o E' ⟨d, e, q⟩ => by rw [e]; exact q
theorem wss_nil (h : k.nx E) : WSs X n [] E k := fun Z H σ F D he hk => wpSs_by pss_nil (hk.nx E Z H σ F h (Fin.refl he).toS)
theorem wss_cons (h : WS X n st E { k with nx := fun E' => WSs X n sts E' k }) : WSs X n (st :: sts) E k := by
  intro Z H σ F D he hk
  refine wpSs_by (pss_cons ps_w pss_w) (h Z H σ F _ he ⟨fun E' Z' H' σ' F' q f => ?_, hk.rt, hk.bk, hk.ct⟩)
  exact q Z' H' σ' F' D f.env (hk.after f)
theorem wss_one (h : WS X n st E k) : WSs X n [st] E k := fun Z H σ F D he hk => wpSs_by (pss_one ps_w) (h Z H σ F D he hk)
/-- with a word between -/
theorem wss_cut (M : EnvT → Prop) (h : WS X n st E { k with nx := M }) (h2 : ∀ E', M E' → WSs X n sts E' k) : WSs X n (st :: sts) E k := by
  intro Z H σ F D he hk
  refine wpSs_by (pss_cons ps_w pss_w) (h Z H σ F _ he ⟨fun E' Z' H' σ' F' q f => ?_, hk.rt, hk.bk, hk.ct⟩)
  exact h2 E' q Z' H' σ' F' D f.env (hk.after f)
theorem WS.mono {k k' : KS} (h : WS X n st E k) (h1 : ∀ E', k.nx E' → k'.nx E') (h2 : ∀ d E', k.rt d E' → k'.rt d E') (h3 : ∀ E', k.bk E' → k'.bk E') (h4 : ∀ E', k.ct E' → k'.ct E') : WS X n st E k' :=
  fun Z H σ F D he hk => h Z H σ F D he ⟨fun E' Z' H' σ' F' q f => hk.nx E' Z' H' σ' F' (h1 E' q) f, fun d v E' Z' H' σ' F' G q f r => hk.rt d v E' Z' H' σ' F' G (h2 d E' q) f r, fun E' Z' H' σ' F' q f => hk.bk E' Z' H' σ' F' (h3 E' q) f, fun E' Z' H' σ' F' q f => hk.ct E' Z' H' σ' F' (h4 E' q) f⟩
theorem ws_pass (h : k.nx E) : WS X n (.Pass pos) E k := fun Z H σ F D he hk => wpS_by ps_pass (hk.nx E Z H σ F h (Fin.refl he).toS)
theorem ws_break (h : k.bk E) : WS X n (.Break pos) E k := fun Z H σ F D he hk => wpS_by ps_break (hk.bk E Z H σ F h (Fin.refl he).toS)
theorem ws_cont (h : k.ct E) : WS X n (.Continue pos) E k := fun Z H σ F D he hk => wpS_by ps_continue (hk.ct E Z H σ F h (Fin.refl he).toS)
theorem ws_if {c : Expr} {a b : List Stmt} (h : WT X c E fun t E1 => (t = true → WSs X n a E1 k) ∧ (t = false → WSs X n b E1 k)) : WS X n (.If c a b pos) E k := by
  intro Z H σ F D he hk
  refine wpS_by (ps_if pt_w pss_w pss_w) (h Z H σ F _ he fun t E1 Z1 H1 F1 q f => ?_)
  cases t with
  | true => exact q.1 rfl Z1 H1 σ F1 D f.env (hk.after f.toS)
  | false => exact q.2 rfl Z1 H1 σ F1 D f.env (hk.after f.toS)
theorem ws_expr (h : WO X e E fun _ E1 => k.nx E1) (hs : swapsWith e none pos.line X.env = pure false := by rfl) : WS X n (.Expr e pos) E k := by
  intro Z H σ F D he hk
  refine wpS_by (ps_expr pe_w hs) (h Z H σ F _ he fun o E1 Z1 H1 F1 G v q f r => ?_)
  exact hk.nx E1 Z1 H1 σ F1 q f.nil.toS
theorem ws_ret (h : WE X e E fun d E1 => k.rt d E1) : WS X n (.Return (some e) pos) E k := by
  intro Z H σ F D he hk
  refine wpS_by (ps_ret pe_w) (h Z H σ F _ he fun o E1 Z1 H1 F1 G v ⟨d, eo, q⟩ f r => ?_)
  subst eo
  exact hk.rt d v E1 Z1 H1 σ F1 G q f.toS r
theorem ws_retN (h : k.rt .non E) : WS X n (.Return none pos) E k := fun Z H σ F D he hk => wpS_by ps_retN (hk.rt .non .non E Z H σ F [] h (Fin.refl he).toS .non)
theorem ws_never (h : False) : WS X n st E k := h.elim
/-- a slot stored -/
theorem EnvS.asg {K : PySem.W.Frag} {Z : Addr → Prop} {H : Hp} {E : EnvT} {σ : Sl} {F G : List Addr} {i : Nat} {d : D} {v : V} (e : EnvS K Z H E σ F) (r : Rep K Z H d v G) (nd : (G ++ F).Nodup) (nz : ∀ a ∈ G, ¬ Z a) (hi : i < E.length) :
    ∃ F', EnvS K Z H (E.set i (some d)) (σ.set i (some v)) F' ∧ ∀ a ∈ F', a ∈ G ∨ a ∈ F := by
  have hl : σ.length = E.length := e.r.len.symm
  obtain ⟨R, h1, h2⟩ := e.r.drop i (some v)
  obtain ⟨F', h3, h4⟩ := h1.put (i := i) (d := d) (v := v) (G := G) (by simp [hi]) (by simp [hl, hi]) r
  rw [List.set_set] at h3
  have n1 : (G ++ R).Nodup := (List.Sublist.append_left h2 G).nodup nd
  have m : ∀ a ∈ F', a ∈ G ∨ a ∈ F := fun a ha => (List.mem_append.mp (h4.mem_iff.mp ha)).imp_right fun q => h2.subset q
  exact ⟨F', ⟨h3, h4.nodup_iff.mpr n1, fun a ha => (m a ha).elim (nz a) (e.nz a), e.zt⟩, m⟩
theorem wg_name {i : Nat} {x : Str} {d : D} {k : EnvT → Prop} (hN : X.N.Nodup) (hi : X.N[i]? = some x) (hx : Loc X.env.scope x) (hn : i ∉ n) (hE : i < E.length) (h : k (E.set i (some d)))
    (hf : X.fn x = true ∨ X.env.scope.names.lookup x = some .local := by first | exact .inl rfl | exact .inr rfl | assumption) : WG X n (.Name x pos) d E k := by
  intro Z H σ F G v Q he r nd nz hk
  refine wpG_by (pg_name hN hi hx hf) ?_
  obtain ⟨F', h1, h2⟩ := he.asg r nd nz hE
  exact hk _ Z H _ F' h ⟨h1, h1.nd, (fun a q => nomatch q), Stp.refl.sub fun a ha => List.mem_append.mpr (h2 a ha), Pin.set hn⟩
theorem ws_set {i : Nat} {x : Str} {pos' : Pos} (hN : X.N.Nodup) (hi : X.N[i]? = some x) (hx : Loc X.env.scope x) (hn : i ∉ n) (h : WE X e E fun d E1 => i < E1.length ∧ k.nx (E1.set i (some d))) (hs : swapsWith e (some (.Name x pos')) pos.line X.env = pure false := by rfl)
    (hf : X.fn x = true ∨ X.env.scope.names.lookup x = some .local := by first | exact .inl rfl | exact .inr rfl | assumption) : WS X n (.Assign [.Name x pos'] e pos) E k := by
  intro Z H σ F D he hk
  refine wpS_by (ps_set hN hi hx pe_w hs hf) (h Z H σ F _ he fun o E1 Z1 H1 F1 G v ⟨d, eo, hE, q⟩ f r => ?_)
  subst eo
  obtain ⟨F', h1, h2⟩ := f.env.asg r f.nd f.nz hE
  exact hk.nx _ Z1 H1 _ F' q ⟨h1, h1.nd, (fun a q => nomatch q), f.st.sub fun a ha => List.mem_append.mpr (h2 a ha), Pin.set hn⟩
/-- a target of any form -/
theorem ws_asg {tg : Expr} (h : WE X e E fun d E1 => WG X n tg d E1 k.nx) (hs : swapsWithSole [tg] e pos.line X.env = pure false := by rfl) (hw : swappedStores [tg] e X.env = pure none := by rfl)
    (h1 : (assignEach [tg] X.env).map (·.2) = [assign tg X.env] := by rfl) : WS X n (.Assign [tg] e pos) E k := by
  intro Z H σ F D he hk
  refine wpS_by (ps_asg pe_w pg_w hs hw h1) (h Z H σ F _ he fun o E1 Z1 H1 F1 G v ⟨d, eo, q⟩ f r => ?_)
  subst eo
  refine q Z1 H1 σ F1 G v _ f.env r f.nd f.nz fun E2 Z2 H2 σ2 F2 q2 f2 => ?_
  exact hk.nx E2 Z2 H2 σ2 F2 q2 ⟨f2.env, f2.nd, f2.nz, f.st.trans f2.st, f2.pin⟩
end
end DL

namespace DL
open PySem PySem.Spec L2

/-! ### trees that own nothing -/
mutual
def Imm : D → Prop
  | .non => True
  | .bl _ => True
  | .int _ => True
  | .str _ => True
  | .tup ds => Imms ds
  | .pt ds => Imms ds
  | .lst _ => False
  | .fz _ => True
  | .dic _ _ => False
  | .obj _ _ _ => False
  | .op _ => True
def Imms : List D → Prop
  | [] => True
  | d :: ds => Imm d ∧ Imms ds
end
theorem imms_iff : ∀ {ds : List D}, Imms ds ↔ ∀ d ∈ ds, Imm d
  | [] => by simp [Imms]
  | d :: ds => by
    have ih := imms_iff (ds := ds)
    simp [Imms, ih]
theorem imms_map {α : Type} {f : α → D} {xs : List α} (h : ∀ x ∈ xs, Imm (f x)) : Imms (xs.map f) := imms_iff.mpr fun d hd => by
  obtain ⟨x, hx, rfl⟩ := List.mem_map.mp hd
  exact h x hx
theorem imms_ints {xs : List Int} : Imms (xs.map D.int) := imms_map fun _ _ => trivial
theorem imms_app {xs ys : List D} (a : Imms xs) (b : Imms ys) : Imms (xs ++ ys) := imms_iff.mpr fun d hd => (List.mem_append.mp hd).elim (imms_iff.mp a d) (imms_iff.mp b d)
theorem imms_get {xs : List D} {i : Nat} {d : D} (a : Imms xs) (h : xs[i]? = some d) : Imm d := imms_iff.mp a d (List.mem_of_getElem? h)
section
variable {K : PySem.W.Frag} {Z Z1 Z2 Z' : Addr → Prop} {H H1 H2 H' : Hp} {F F1 F2 F' G G1 G2 G' R : List Addr} {σ : Sl} {E E1 E2 E' : EnvT} {d d1 d2 : D} {v v1 v2 : V} {ds : List D} {vs : List V}
mutual
theorem Rep.imm : ∀ {d : D} {v : V} {G : List Addr}, Rep K Z H d v G → Imm d → G = []
  | _, _, _, .non, _ => rfl
  | _, _, _, .bl _, _ => rfl
  | _, _, _, .int _, _ => rfl
  | _, _, _, .str _, _ => rfl
  | _, _, _, .tup _ r, h => Reps.imm r (by simpa [Imm] using h)
  | _, _, _, .pt _ _ r, h => Reps.imm r (by simpa [Imm] using h)
  | _, _, _, .lst _ _, h => by simp [Imm] at h
  | _, _, _, .fz _ _, _ => rfl
  | _, _, _, .dic _ _ _, h => by simp [Imm] at h
  | _, _, _, .obj _ _ _, h => by simp [Imm] at h
  | _, _, _, .op _, _ => rfl
theorem Reps.imm : ∀ {ds : List D} {vs : List V} {G : List Addr}, Reps K Z H ds vs G → Imms ds → G = []
  | _, _, _, .nil, _ => rfl
  | _, _, _, .cons r rs, h => by
    rw [Imms] at h
    rw [Rep.imm r h.1, Reps.imm rs h.2]
    rfl
end
theorem Reps.len : ∀ {ds : List D} {vs : List V} {G : List Addr}, Reps K Z H ds vs G → ds.length = vs.length
  | _, _, _, .nil => rfl
  | _, _, _, .cons _ r => by rw [List.length_cons, List.length_cons, Reps.len r]
theorem Reps.get : ∀ {ds : List D} {vs : List V} {G : List Addr} {i : Nat} {d : D}, Reps K Z H ds vs G → ds[i]? = some d → ∃ v G', vs[i]? = some v ∧ Rep K Z H d v G' ∧ G'.Sublist G
  | _, _, _, _, _, .nil, h => by simp at h
  | _, _, _, 0, _, .cons r rs, h => by
    have e := Option.some.inj (by simpa using h)
    subst e
    exact ⟨_, _, rfl, r, List.sublist_append_left _ _⟩
  | _, _, _, i + 1, _, .cons r rs, h => by
    obtain ⟨v, G', h1, h2, h3⟩ := Reps.get rs (by simpa using h)
    exact ⟨v, G', by simpa using h1, h2, h3.trans (List.sublist_append_right _ _)⟩
theorem Reps.app : ∀ {ds es : List D} {vs ws : List V} {G G' : List Addr}, Reps K Z H ds vs G → Reps K Z H es ws G' → Reps K Z H (ds ++ es) (vs ++ ws) (G ++ G')
  | _, _, _, _, _, _, .nil, s => s
  | _, _, _, _, _, _, .cons r rs, s => by
    rw [List.append_assoc]
    exact .cons r (Reps.app rs s)
theorem Reps.take (n : Nat) : ∀ {ds : List D} {vs : List V} {G : List Addr}, Reps K Z H ds vs G → ∃ G', Reps K Z H (ds.take n) (vs.take n) G' ∧ G'.Sublist G := by
  induction n with
  | zero => intro ds vs G r; exact ⟨[], by simpa using Reps.nil, List.nil_sublist _⟩
  | succ n ih =>
    intro ds vs G r
    cases r with
    | nil => exact ⟨[], .nil, List.Sublist.refl _⟩
    | cons r rs =>
      obtain ⟨G', h1, h2⟩ := ih rs
      exact ⟨_, .cons r h1, List.Sublist.append_left h2 _⟩
theorem Reps.drop (n : Nat) : ∀ {ds : List D} {vs : List V} {G : List Addr}, Reps K Z H ds vs G → ∃ G', Reps K Z H (ds.drop n) (vs.drop n) G' ∧ G'.Sublist G := by
  induction n with
  | zero => intro ds vs G r; exact ⟨G, r, List.Sublist.refl _⟩
  | succ n ih =>
    intro ds vs G r
    cases r with
    | nil => exact ⟨[], .nil, List.Sublist.refl _⟩
    | cons r rs =>
      obtain ⟨G', h1, h2⟩ := ih rs
      exact ⟨G', h1, h2.trans (List.sublist_append_right _ _)⟩
theorem Reps.one (r : Rep K Z H d v G) : Reps K Z H [d] [v] G := by
  have q := Reps.cons r Reps.nil
  rw [List.append_nil] at q
  exact q
/-- of items that own nothing -/
theorem Reps.nils (r : Reps K Z H ds vs G) (h : Imms ds) : Reps K Z H ds vs [] := by
  have e := r.imm h
  rw [e] at r
  exact r
theorem Rep.nils (r : Rep K Z H d v G) (h : Imm d) : Rep K Z H d v [] := by
  have e := r.imm h
  rw [e] at r
  exact r

/-! ### the heap grows -/
structure Grow (H H' : Hp) (G : List Addr) : Prop where
  gr : ∀ a o, H a = some o → H' a = some o
  gn : ∀ a ∈ G, H a = none
  gd : G.Nodup
theorem Grow.refl : Grow H H [] := ⟨fun _ _ h => h, (fun a h => nomatch h), List.nodup_nil⟩
theorem Grow.new {p : Addr} {o : HO} (h : H p = none) : Grow H (upd H p o) [p] :=
  ⟨fun a u e => by rw [upd_ne (ne_of_none e h)]; exact e, fun a ha => by rw [List.mem_singleton.mp ha]; exact h, by simp⟩
theorem Grow.new0 {p : Addr} {o : HO} (h : H p = none) : Grow H (upd H p o) [] :=
  ⟨fun a u e => by rw [upd_ne (ne_of_none e h)]; exact e, fun a ha => (nomatch ha), List.nodup_nil⟩
theorem Grow.rd (g : Grow H H' G) {a : Addr} {u : HO} (h : Rd H a u) : Rd H' a u := by
  rcases h with h | ⟨o, h⟩
  · exact .inl (g.gr _ _ h)
  · exact .inr ⟨o, g.gr _ _ h⟩
theorem Grow.st (g : Grow H H' G) : Stp Z H F Z H' (G ++ F) :=
  ⟨fun _ h => h, fun _ h => .inl h, fun a o h _ => g.gr a o h, fun a o h => ⟨o, g.gr a o h⟩, fun a h => (List.mem_append.mp h).elim (fun q => .inr (g.gn a q)) .inl, fun _ _ h => g.rd h, fun _ _ _ h => g.rd h, fun _ _ _ h => g.gr _ _ h⟩
theorem Grow.trans (a : Grow H H1 G) (b : Grow H1 H2 G1) : Grow H H2 G1 := by
  refine ⟨fun x o h => b.gr x o (a.gr x o h), fun x h => ?_, b.gd⟩
  have q := b.gn x h
  cases e : H x with
  | none => rfl
  | some o =>
    rw [a.gr x o e] at q
    cases q
theorem Grow.kp (g : Grow H H' G) : Kp Z H Z H' := ⟨fun _ h => h, fun _ _ h => g.rd h, fun _ _ _ h => g.rd h, fun _ _ _ h => g.gr _ _ h⟩
theorem Rep.grow (g : Grow H H' G) (r : Rep K Z H d v G1) : Rep K Z H' d v G1 := r.kp g.kp fun a _ o e => g.gr a o e
theorem Reps.grow (g : Grow H H' G) (r : Reps K Z H ds vs G1) : Reps K Z H' ds vs G1 := r.kp g.kp fun a _ o e => g.gr a o e
theorem Fin.grow (a : Fin K Z H σ F E1 Z1 H1 F1 G1) (g : Grow H1 H2 G) : Fin K Z H σ F E1 Z1 H2 F1 G := by
  have b := a.nil
  have off : ∀ x ∈ G, x ∉ F1 := fun x hx hf => by
    obtain ⟨o, e⟩ := b.env.r.mem x hf
    rw [g.gn x hx] at e
    cases e
  refine ⟨⟨b.env.r.kp g.kp fun a _ o e => g.gr a o e, b.env.nd, b.env.nz, fun x z => ?_⟩, List.nodup_append.mpr ⟨g.gd, b.env.nd, fun x hx y hy e => off x hx (e ▸ hy)⟩, fun x hx z => ?_, ?_⟩
  · obtain ⟨o, e⟩ := b.env.zt x z
    exact ⟨o, g.gr x o e⟩
  · obtain ⟨o, e⟩ := b.env.zt x z
    rw [g.gn x hx] at e
    cases e
  · have s := b.st
    rw [List.nil_append] at s
    exact s.trans g.st
/-- r hands on a value of the tree d -/
def Gives (K : PySem.W.Frag) (Z : Addr → Prop) (H : Hp) (d : D) (r : VK → Prop) : Prop := ∀ Q : VK, (∀ v H' G, Rep K Z H' d v G → Grow H H' G → Q v H') → r Q
end

section
variable {X : Cx} {n : Nat} {e a b c : Expr} {es : List Expr} {E : EnvT} {k : Opd → EnvT → Prop} {pos p : Pos}
theorem wo_name {i : Nat} {x : Str} {d : D} (hN : X.N[i]? = some x) (hE : E[i]? = some (some d)) (h : k (.bor i) E) (hv : Vis X.env.scope x := by first | exact Or.inl rfl | exact Or.inr (Or.inl rfl) | exact Or.inr (Or.inr rfl))
    (hd : (x == ("__debug__" : Str)) = false := by decide) (hcd : (x == ("__classdict__" : Str)) = false := by decide) : WO X (.Name x pos) E k := by
  intro Z H σ F Q he hk
  obtain ⟨v, G, R, h1, h2, h3, h4⟩ := he.r.get hE
  exact wpE_by (pe_var hN hv hd hcd) ⟨v, h1, hk _ E Z H F [] v h (Fin.refl he) ⟨h1, rfl⟩⟩
theorem we_name {i : Nat} {x : Str} {d : D} {k : D → EnvT → Prop} (hN : X.N[i]? = some x) (hE : E[i]? = some (some d)) (hi : Imm d) (h : k d E) (hv : Vis X.env.scope x := by first | exact Or.inl rfl | exact Or.inr (Or.inl rfl) | exact Or.inr (Or.inr rfl))
    (hd : (x == ("__debug__" : Str)) = false := by decide) (hcd : (x == ("__classdict__" : Str)) = false := by decide) : WE X (.Name x pos) E k := by
  intro Z H σ F Q he hk
  obtain ⟨v, G, R, h1, h2, h3, h4⟩ := he.r.get hE
  exact wpE_by (pe_var hN hv hd hcd) ⟨v, h1, hk _ E Z H F [] v ⟨d, rfl, h⟩ (Fin.refl he) (h2.nils hi)⟩
/-- an owned value leaves its slot -/
theorem we_move {i : Nat} {x : Str} {d : D} {k : D → EnvT → Prop} (hN : X.N[i]? = some x) (hE : E[i]? = some (some d)) (h : k d (E.set i none)) (hv : Vis X.env.scope x := by first | exact Or.inl rfl | exact Or.inr (Or.inl rfl) | exact Or.inr (Or.inr rfl))
    (hd : (x == ("__debug__" : Str)) = false := by decide) (hcd : (x == ("__classdict__" : Str)) = false := by decide) : WE X (.Name x pos) E k := by
  intro Z H σ F Q he hk
  obtain ⟨v, G, R, h1, h2, h3, h4⟩ := he.r.get hE
  have nd : (G ++ R).Nodup := h4.nodup_iff.mp he.nd
  refine wpE_by (pe_var hN hv hd hcd) ⟨v, h1, hk _ (E.set i none) Z H R G v ⟨d, rfl, h⟩ ⟨⟨h3, (List.nodup_append.mp nd).2.1, fun a ha => he.nz a (h4.mem_iff.mpr (List.mem_append_right _ ha)), he.zt⟩, nd, fun a ha => he.nz a (h4.mem_iff.mpr (List.mem_append_left _ ha)), Stp.refl.sub fun a ha => h4.mem_iff.mpr ha⟩ h2⟩
theorem wo_c {e : Expr} {d : D} {v : V} (h : k (.val d) E) (hp : PE X e (tC v)) (r : ∀ Z H, Rep X.K Z H d v []) : WO X e E k := fun Z H σ F Q he hk => wpE_by hp (hk _ E Z H F [] v h (Fin.refl he) (r Z H))
theorem wo_int {i j} (h : k (.val (.int i)) E) : WO X (.Constant (.int i) j pos) E k := wo_c h pe_int fun _ _ => .int i
theorem wo_bl {i j} (h : k (.val (.bl i)) E) : WO X (.Constant (.bool i) j pos) E k := wo_c h pe_bl fun _ _ => .bl i
theorem wo_non {j} (h : k (.val .non) E) : WO X (.Constant .none j pos) E k := wo_c h pe_non fun _ _ => .non
theorem wo_str {i j} (h : k (.val (.str i)) E) : WO X (.Constant (.str i) j pos) E k := wo_c h pe_str fun _ _ => .str i
/-- a module's constant -/
theorem wo_glob {x : Str} {d : D} {v : V} {u : Value} (hg : Gl X x) (hm : X.mg x = some u) (r : RelV v u) (rd : ∀ Z H, Rep X.K Z H d v []) (h : k (.val d) E) (hd : (x == ("__debug__" : Str)) = false := by decide) : WO X (.Name x pos) E k := wo_c h (pe_glob hg hm r hd) rd
theorem wo_bltn {x : Str} {v : V} {u : Value} (hg : Gl X x) (hm : X.mg x = none) (hv : bootBuiltins x = some u) (r : RelV v u) (h : k (.val (.op v)) E) (hn : x ≠ "__name__" := by decide) (hd : (x == ("__debug__" : Str)) = false := by decide) : WO X (.Name x pos) E k :=
  wo_c h (pe_bltn hg hm hv r hn hd) fun _ _ => .op v

/-! ### operators -/
/-- what an operation on two trees must do -/
def Op2 (K : PySem.W.Frag) (r : R2) (d1 d2 d : D) : Prop := ∀ Z H v1 v2 G1 G2, Rep K Z H d1 v1 G1 → Rep K Z H d2 v2 G2 → Gives K Z H d (r v1 v2 H)
def Op1 (K : PySem.W.Frag) (r : V → Hp → VK → Prop) (d1 d : D) : Prop := ∀ Z H v1 G1, Rep K Z H d1 v1 G1 → Gives K Z H d (r v1 H)
theorem wo_two {r : R2} {f : Expr} (hp : PE X f (tOp r (wpE X a) (wpE X b)))
    (h : WO X a E fun o1 E1 => WO X b E1 fun o2 E2 => ∃ d1 d2 d, o1.get E2 = some d1 ∧ o2.get E2 = some d2 ∧ Op2 X.K r d1 d2 d ∧ k (.val d) E2) : WO X f E k := by
  intro Z H σ F Q he hk
  refine wpE_by hp (h Z H σ F _ he fun o1 E1 Z1 H1 F1 G1 v1 k1 f1 r1 => ?_)
  refine k1 Z1 H1 σ F1 _ f1.env fun o2 E2 Z2 H2 F2 G2 v2 ⟨d1, d2, d, g1, g2, op, k2⟩ f2 r2 => ?_
  have r1' := r1.step f2.st (f1.off r1.mem f2)
  obtain ⟨G3, q1, _⟩ := r1'.use f2.env g1
  obtain ⟨G4, q2, _⟩ := r2.use f2.env g2
  refine op Z2 H2 v1 v2 G3 G4 q1 q2 Q fun v H' G rv gr => ?_
  exact hk _ E2 Z2 H' F2 G v k2 ((f1.join r1.mem f2).grow gr) rv
theorem wo_bin {op : Operator} {r : R2} (ho : OpR X (binaryOp op) r)
    (h : WO X a E fun o1 E1 => WO X b E1 fun o2 E2 => ∃ d1 d2 d, o1.get E2 = some d1 ∧ o2.get E2 = some d2 ∧ Op2 X.K r d1 d2 d ∧ k (.val d) E2) : WO X (.BinOp a op b pos) E k := wo_two (pe_op ho pe_w pe_w) h
theorem wo_cmp {op : CmpOp} {r : R2} (ho : OpR X (compareOp op) r) (hm : behindInMarks op b = false)
    (h : WO X a E fun o1 E1 => WO X b E1 fun o2 E2 => ∃ d1 d2 d, o1.get E2 = some d1 ∧ o2.get E2 = some d2 ∧ Op2 X.K r d1 d2 d ∧ k (.val d) E2) : WO X (.Compare a [op] [b] pos) E k := wo_two (pe_cmpR ho pe_w pe_w hm) h
theorem wo_one {r : V → Hp → VK → Prop} {f : Expr} (hp : PE X f (tUn r (wpE X a))) (h : WO X a E fun o1 E1 => ∃ d1 d, o1.get E1 = some d1 ∧ Op1 X.K r d1 d ∧ k (.val d) E1) : WO X f E k := by
  intro Z H σ F Q he hk
  refine wpE_by hp (h Z H σ F _ he fun o1 E1 Z1 H1 F1 G1 v1 ⟨d1, d, g1, op, k1⟩ f1 r1 => ?_)
  obtain ⟨G3, q1, _⟩ := r1.use f1.env g1
  refine op Z1 H1 v1 G3 q1 Q fun v H' G rv gr => ?_
  exact hk _ E1 Z1 H' F1 G v k1 (f1.grow gr) rv
section
variable {K : PySem.W.Frag} {i j : Int}
theorem op2_I {C : Int → Int → Prop} {g : Int → Int → V} {d : D} (hc : C i j) (r : ∀ Z H, Rep K Z H d (g i j) []) : Op2 K (rI C g) (.int i) (.int j) d := by
  intro Z H v1 v2 G1 G2 r1 r2 Q q
  cases r1
  cases r2
  exact ⟨i, j, rfl, rfl, hc, q _ H [] (r Z H) Grow.refl⟩
theorem op2_I0 {g : Int → Int → V} {d : D} (r : ∀ Z H, Rep K Z H d (g i j) []) : Op2 K (rI0 g) (.int i) (.int j) d := by
  intro Z H v1 v2 G1 G2 r1 r2 Q q
  cases r1
  cases r2
  exact ⟨i, j, rfl, rfl, q _ H [] (r Z H) Grow.refl⟩
end
/-- two ints -/
abbrev Two (E : EnvT) (o1 o2 : Opd) (k : Int → Int → Prop) : Prop := ∃ i j, o1.get E = some (.int i) ∧ o2.get E = some (.int j) ∧ k i j
theorem wo_add (h : WO X a E fun o1 E1 => WO X b E1 fun o2 E2 => Two E2 o1 o2 fun i j => k (.val (.int (i + j))) E2) : WO X (.BinOp a .Add b pos) E k :=
  wo_bin op_add (WO.mono h fun o1 E1 q => WO.mono q fun o2 E2 ⟨i, j, g1, g2, kk⟩ => ⟨_, _, _, g1, g2, op2_I0 fun _ _ => .int _, kk⟩)
theorem wo_sub (h : WO X a E fun o1 E1 => WO X b E1 fun o2 E2 => Two E2 o1 o2 fun i j => k (.val (.int (i - j))) E2) : WO X (.BinOp a .Sub b pos) E k :=
  wo_bin op_sub (WO.mono h fun o1 E1 q => WO.mono q fun o2 E2 ⟨i, j, g1, g2, kk⟩ => ⟨_, _, _, g1, g2, op2_I0 fun _ _ => .int _, kk⟩)
theorem wo_mul (h : WO X a E fun o1 E1 => WO X b E1 fun o2 E2 => Two E2 o1 o2 fun i j => CMul i j ∧ k (.val (.int (i * j))) E2) : WO X (.BinOp a .Mult b pos) E k :=
  wo_bin op_mul (WO.mono h fun o1 E1 q => WO.mono q fun o2 E2 ⟨i, j, g1, g2, hc, kk⟩ => ⟨_, _, _, g1, g2, op2_I hc fun _ _ => .int _, kk⟩)
theorem wo_mod (h : WO X a E fun o1 E1 => WO X b E1 fun o2 E2 => Two E2 o1 o2 fun i j => 0 < j ∧ k (.val (.int (i % j))) E2) : WO X (.BinOp a .Mod b pos) E k :=
  wo_bin op_mod (WO.mono h fun o1 E1 q => WO.mono q fun o2 E2 ⟨i, j, g1, g2, hc, kk⟩ => ⟨_, _, _, g1, g2, op2_I hc fun _ _ => .int _, kk⟩)
theorem wo_fdiv (h : WO X a E fun o1 E1 => WO X b E1 fun o2 E2 => Two E2 o1 o2 fun i j => CDivW i j ∧ k (.val (.int (i / j))) E2) : WO X (.BinOp a .FloorDiv b pos) E k :=
  wo_bin op_fdivW (WO.mono h fun o1 E1 q => WO.mono q fun o2 E2 ⟨i, j, g1, g2, hc, kk⟩ => ⟨_, _, _, g1, g2, op2_I hc fun _ _ => .int _, kk⟩)
theorem wo_pow (h : WO X a E fun o1 E1 => WO X b E1 fun o2 E2 => Two E2 o1 o2 fun i j => CPow i j ∧ k (.val (.int (i ^ j.toNat))) E2) : WO X (.BinOp a .Pow b pos) E k :=
  wo_bin op_pow (WO.mono h fun o1 E1 q => WO.mono q fun o2 E2 ⟨i, j, g1, g2, hc, kk⟩ => ⟨_, _, _, g1, g2, op2_I hc fun _ _ => .int _, kk⟩)
theorem wo_shl (h : WO X a E fun o1 E1 => WO X b E1 fun o2 E2 => Two E2 o1 o2 fun i j => CPow i j ∧ k (.val (.int (i * 2 ^ j.toNat))) E2) : WO X (.BinOp a .LShift b pos) E k :=
  wo_bin op_shl (WO.mono h fun o1 E1 q => WO.mono q fun o2 E2 ⟨i, j, g1, g2, hc, kk⟩ => ⟨_, _, _, g1, g2, op2_I hc fun _ _ => .int _, kk⟩)
theorem wo_lt (h : WO X a E fun o1 E1 => WO X b E1 fun o2 E2 => Two E2 o1 o2 fun i j => k (.val (.bl (decide (i < j)))) E2) : WO X (.Compare a [.Lt] [b] pos) E k :=
  wo_cmp op_lt (nomark _) (WO.mono h fun o1 E1 q => WO.mono q fun o2 E2 ⟨i, j, g1, g2, kk⟩ => ⟨_, _, _, g1, g2, op2_I0 fun _ _ => .bl _, kk⟩)
theorem wo_le (h : WO X a E fun o1 E1 => WO X b E1 fun o2 E2 => Two E2 o1 o2 fun i j => k (.val (.bl (decide (i ≤ j)))) E2) : WO X (.Compare a [.LtE] [b] pos) E k :=
  wo_cmp op_le (nomark _) (WO.mono h fun o1 E1 q => WO.mono q fun o2 E2 ⟨i, j, g1, g2, kk⟩ => ⟨_, _, _, g1, g2, op2_I0 fun _ _ => .bl _, kk⟩)
theorem wo_gt (h : WO X a E fun o1 E1 => WO X b E1 fun o2 E2 => Two E2 o1 o2 fun i j => k (.val (.bl (decide (j < i)))) E2) : WO X (.Compare a [.Gt] [b] pos) E k :=
  wo_cmp op_gt (nomark _) (WO.mono h fun o1 E1 q => WO.mono q fun o2 E2 ⟨i, j, g1, g2, kk⟩ => ⟨_, _, _, g1, g2, op2_I0 fun _ _ => .bl _, kk⟩)
theorem wo_ge (h : WO X a E fun o1 E1 => WO X b E1 fun o2 E2 => Two E2 o1 o2 fun i j => k (.val (.bl (decide (j ≤ i)))) E2) : WO X (.Compare a [.GtE] [b] pos) E k :=
  wo_cmp op_ge (nomark _) (WO.mono h fun o1 E1 q => WO.mono q fun o2 E2 ⟨i, j, g1, g2, kk⟩ => ⟨_, _, _, g1, g2, op2_I0 fun _ _ => .bl _, kk⟩)
theorem wo_eqI (h : WO X a E fun o1 E1 => WO X b E1 fun o2 E2 => Two E2 o1 o2 fun i j => k (.val (.bl (decide (i = j)))) E2) : WO X (.Compare a [.Eq] [b] pos) E k :=
  wo_cmp op_eq (nomark _) (WO.mono h fun o1 E1 q => WO.mono q fun o2 E2 ⟨i, j, g1, g2, kk⟩ => ⟨_, _, _, g1, g2, fun Z H v1 v2 G1 G2 r1 r2 Q q => by
    cases r1
    cases r2
    refine ⟨rfl, q _ H [] ?_ Grow.refl⟩
    have e1 : decide (V.int i = V.int j) = decide (i = j) := by by_cases h : i = j <;> simp [h]
    rw [e1]
    exact .bl _, kk⟩)
theorem wo_neI (h : WO X a E fun o1 E1 => WO X b E1 fun o2 E2 => Two E2 o1 o2 fun i j => k (.val (.bl (!decide (i = j)))) E2) : WO X (.Compare a [.NotEq] [b] pos) E k :=
  wo_cmp op_ne (nomark _) (WO.mono h fun o1 E1 q => WO.mono q fun o2 E2 ⟨i, j, g1, g2, kk⟩ => ⟨_, _, _, g1, g2, fun Z H v1 v2 G1 G2 r1 r2 Q q => by
    cases r1
    cases r2
    refine ⟨rfl, q _ H [] ?_ Grow.refl⟩
    have e1 : decide (V.int i = V.int j) = decide (i = j) := by by_cases h : i = j <;> simp [h]
    rw [e1]
    exact .bl _, kk⟩)
/-- texts -/
theorem wo_eqS (h : WO X a E fun o1 E1 => WO X b E1 fun o2 E2 => ∃ i j, o1.get E2 = some (.str i) ∧ o2.get E2 = some (.str j) ∧ k (.val (.bl (decide (i = j)))) E2) : WO X (.Compare a [.Eq] [b] pos) E k :=
  wo_cmp op_eq (nomark _) (WO.mono h fun o1 E1 q => WO.mono q fun o2 E2 ⟨i, j, g1, g2, kk⟩ => ⟨_, _, _, g1, g2, fun Z H v1 v2 G1 G2 r1 r2 Q q => by
    cases r1
    cases r2
    refine ⟨rfl, q _ H [] ?_ Grow.refl⟩
    have e1 : decide (V.str i = V.str j) = decide (i = j) := by by_cases h : i = j <;> simp [h]
    rw [e1]
    exact .bl _, kk⟩)
/-- is None -/
def isNon : D → Bool
  | .non => true
  | .op v => decide (v = .non)
  | _ => false
theorem Rep.isNon {K : PySem.W.Frag} {Z : Addr → Prop} {H : Hp} {d : D} {v : V} {G : List Addr} (r : Rep K Z H d v G) : decide (v = .non) = isNon d := by
  cases r <;> first | rfl | exact decide_eq_false (fun h => nomatch h)
theorem wo_isN {j} (h : WO X a E fun o1 E1 => ∃ d, o1.get E1 = some d ∧ k (.val (.bl (isNon d))) E1) : WO X (.Compare a [.Is] [.Constant .none j p] pos) E k := by
  refine wo_cmp op_isN rfl (WO.mono h fun o1 E1 ⟨d, g, kk⟩ => wo_non ⟨d, .non, _, g, rfl, fun Z H v1 v2 G1 G2 r1 r2 Q q => ?_, kk⟩)
  cases r2
  refine ⟨rfl, q _ H [] ?_ Grow.refl⟩
  rw [r1.isNon]
  exact .bl _
theorem wo_notN {j} (h : WO X a E fun o1 E1 => ∃ d, o1.get E1 = some d ∧ k (.val (.bl (!isNon d))) E1) : WO X (.Compare a [.IsNot] [.Constant .none j p] pos) E k := by
  refine wo_cmp op_notN rfl (WO.mono h fun o1 E1 ⟨d, g, kk⟩ => wo_non ⟨d, .non, _, g, rfl, fun Z H v1 v2 G1 G2 r1 r2 Q q => ?_, kk⟩)
  cases r2
  refine ⟨rfl, q _ H [] ?_ Grow.refl⟩
  rw [r1.isNon]
  exact .bl _
theorem wo_neg (h : WO X a E fun o1 E1 => ∃ i, o1.get E1 = some (.int i) ∧ k (.val (.int (-i))) E1) : WO X (.UnaryOp .USub a pos) E k :=
  wo_one (pe_un un_neg pe_w) (WO.mono h fun o1 E1 ⟨i, g, kk⟩ => ⟨_, _, g, fun Z H v1 G1 r1 Q q => by
    cases r1
    exact ⟨i, rfl, q _ H [] (.int _) Grow.refl⟩, kk⟩)
end
end DL

namespace DL
open PySem PySem.Spec L2

section
variable {K : PySem.W.Frag} {Z Z1 Z2 Z' : Addr → Prop} {H H1 H2 H' : Hp} {F F1 F2 F' G G1 G2 G' R : List Addr} {σ : Sl} {E E1 E2 E' : EnvT} {d d1 d2 : D} {v v1 v2 : V} {ds : List D} {vs : List V}
theorem Fin.then (a : Fin K Z H σ F E1 Z1 H1 F1 G1) (b : Fin K Z1 H1 σ F1 E2 Z2 H2 F2 G2) : Fin K Z H σ F E2 Z2 H2 F2 G2 := a.nil.join (fun x h => nomatch h) b
/-- the items of a list or a tuple -/
def D.seq : D → Option (List D)
  | .tup ds => some ds
  | .pt ds => some ds
  | .lst ds => some ds
  | .fz ds => some ds
  | _ => none
def D.tseq : D → Option (List D)
  | .tup ds => some ds
  | .pt ds => some ds
  | _ => none
def D.lseq : D → Option (List D)
  | .lst ds => some ds
  | .fz ds => some ds
  | _ => none
theorem Rep.tseq (r : Rep K Z H d v G) (h : d.tseq = some ds) : ∃ a vs, v = .ref a ∧ SqT K H a vs ∧ Reps K Z H ds vs G := by
  cases r <;> simp only [D.tseq, Option.some.injEq, reduceCtorEq] at h
  case tup a ds' vs hs r => subst h; exact ⟨a, vs, rfl, hs, r⟩
  case pt a ob ds' vs hs hd r => subst h; exact ⟨a, vs, rfl, .inl (.inr ⟨ob, hs⟩), r⟩
theorem Rep.lseq (r : Rep K Z H d v G) (h : d.lseq = some ds) : ∃ a vs G', v = .ref a ∧ SqL K H a vs ∧ Reps K Z H ds vs G' := by
  cases r <;> simp only [D.lseq, Option.some.injEq, reduceCtorEq] at h
  case lst a ds' vs F hs r => subst h; exact ⟨a, vs, F, rfl, SqL.of hs, r⟩
  case fz a ds' vs hs r =>
    subst h
    refine ⟨a, vs, [], rfl, ?_, r⟩
    rcases hs with q | q
    · exact .inl q.2
    · exact q H
theorem Rep.seq (r : Rep K Z H d v G) (h : d.seq = some ds) : ∃ a vs G', v = .ref a ∧ (SqL K H a vs ∨ SqT K H a vs) ∧ Reps K Z H ds vs G' := by
  cases d <;> simp only [D.seq, Option.some.injEq, reduceCtorEq] at h
  case tup es => obtain ⟨a, vs, e, q1, q2⟩ := r.tseq (ds := ds) (by simp [D.tseq, h]); exact ⟨a, vs, _, e, .inr q1, q2⟩
  case pt es => obtain ⟨a, vs, e, q1, q2⟩ := r.tseq (ds := ds) (by simp [D.tseq, h]); exact ⟨a, vs, _, e, .inr q1, q2⟩
  case lst es => obtain ⟨a, vs, G', e, q1, q2⟩ := r.lseq (ds := ds) (by simp [D.lseq, h]); exact ⟨a, vs, _, e, .inl q1, q2⟩
  case fz es => obtain ⟨a, vs, G', e, q1, q2⟩ := r.lseq (ds := ds) (by simp [D.lseq, h]); exact ⟨a, vs, _, e, .inl q1, q2⟩
theorem Reps.at (r : Reps K Z H ds vs G) {i : Int} (h : atI ds i = some d) : ∃ v G', atI vs i = some v ∧ Rep K Z H d v G' := by
  unfold atI at h ⊢
  rw [r.len] at h
  cases e : ixN vs.length i with
  | none => rw [e] at h; simp at h
  | some j =>
    rw [e] at h
    obtain ⟨v, G', h1, h2, _⟩ := r.get (i := j) (d := d) (by simpa using h)
    exact ⟨v, G', by simpa using h1, h2⟩
def cutD (xs : List D) (lo hi : Option Int) : List D := (xs.drop (HT.sIx xs.length 0 lo)).take (HT.sIx xs.length xs.length hi - HT.sIx xs.length 0 lo)
theorem Reps.cut (r : Reps K Z H ds vs G) (lo hi : Option Int) : ∃ G', Reps K Z H (cutD ds lo hi) (cutV vs lo hi) G' := by
  obtain ⟨G1, h1, _⟩ := r.drop (HT.sIx ds.length 0 lo)
  obtain ⟨G2, h2, _⟩ := h1.take (HT.sIx ds.length ds.length hi - HT.sIx ds.length 0 lo)
  refine ⟨G2, ?_⟩
  unfold cutD cutV
  rw [r.len] at h2 ⊢
  exact h2
theorem imms_cut {lo hi : Option Int} (h : Imms ds) : Imms (cutD ds lo hi) := imms_iff.mpr fun d hd => imms_iff.mp h d (List.drop_subset _ _ (List.take_subset _ _ hd))
end

/-! ### tests -/
section
variable {X : Cx} {n : Nat} {e a b c : Expr} {es : List Expr} {E : EnvT} {k : Opd → EnvT → Prop} {kb : Bool → EnvT → Prop} {pos p : Pos} {rest : List Expr}
theorem wt_val (h : WO X e E fun o E1 => ∃ t, o.get E1 = some (.bl t) ∧ kb t E1) (he : ∀ whole, isTrue e X.env whole = (do let v ← whole; standAt e.pos; holding [v] (truthy v)) := by intro _; rfl) : WT X e E kb := by
  intro Z H σ F Q he' hk
  refine wpT_by (pt_val pe_w he) (h Z H σ F _ he' fun o E1 Z1 H1 F1 G v ⟨t, g, q⟩ f r => ?_)
  obtain ⟨G', r', _⟩ := r.use f.env g
  cases r'
  exact ⟨t, rfl, hk t E1 Z1 H1 F1 q f.nil⟩
theorem wt_not (h : WT X a E fun t E1 => kb (!t) E1) : WT X (.UnaryOp .Not a pos) E kb := by
  intro Z H σ F Q he hk
  refine wpT_by (pt_not pt_w) ?_
  exact h Z H σ F _ he fun t E1 Z1 H1 F1 q f => hk _ E1 Z1 H1 F1 q f
theorem wt_bool {op} (h : WW X (.BoolOp op es pos) E kb) : WT X (.BoolOp op es pos) E kb := by
  intro Z H σ F Q he hk
  exact wpT_by pw_w.pt (h Z H σ F Q he hk)
theorem ww_and1 (h : WT X a E kb) : WW X (.BoolOp .And [a] pos) E kb := fun Z H σ F Q he hk => wpW_by (pw_and1 pt_w) (h Z H σ F Q he hk)
theorem ww_or1 (h : WT X a E kb) : WW X (.BoolOp .Or [a] pos) E kb := fun Z H σ F Q he hk => wpW_by (pw_or1 pt_w) (h Z H σ F Q he hk)
theorem ww_and (h : WT X a E fun t E1 => (t = true → WW X (.BoolOp .And (b :: rest) pos) E1 kb) ∧ (t = false → kb false E1)) : WW X (.BoolOp .And (a :: b :: rest) pos) E kb := by
  intro Z H σ F Q he hk
  refine wpW_by (pw_and pt_w pw_w) (h Z H σ F _ he fun t E1 Z1 H1 F1 q f => ?_)
  cases t with
  | true => exact q.1 rfl Z1 H1 σ F1 Q f.env fun t2 E2 Z2 H2 F2 q2 f2 => hk t2 E2 Z2 H2 F2 q2 (f.then f2)
  | false => exact hk false E1 Z1 H1 F1 (q.2 rfl) f
theorem ww_or (h : WT X a E fun t E1 => (t = true → kb true E1) ∧ (t = false → WW X (.BoolOp .Or (b :: rest) pos) E1 kb)) : WW X (.BoolOp .Or (a :: b :: rest) pos) E kb := by
  intro Z H σ F Q he hk
  refine wpW_by (pw_or pt_w pw_w) (h Z H σ F _ he fun t E1 Z1 H1 F1 q f => ?_)
  cases t with
  | true => exact hk true E1 Z1 H1 F1 (q.1 rfl) f
  | false => exact q.2 rfl Z1 H1 σ F1 Q f.env fun t2 E2 Z2 H2 F2 q2 f2 => hk t2 E2 Z2 H2 F2 q2 (f.then f2)
/-- as values -/
theorem wo_bone {op} (h : WO X a E k) : WO X (.BoolOp op [a] pos) E k := fun Z H σ F Q he hk => wpE_by (pe_one pe_w) (h Z H σ F Q he hk)
theorem wo_and (h : WO X a E fun o E1 => ∃ t, o.get E1 = some (.bl t) ∧ (t = true → WO X (.BoolOp .And (b :: rest) pos) E1 k) ∧ (t = false → k (.val (.bl false)) E1)) : WO X (.BoolOp .And (a :: b :: rest) pos) E k := by
  intro Z H σ F Q he hk
  refine wpE_by (pe_and pe_w pe_w) (h Z H σ F _ he fun o E1 Z1 H1 F1 G v ⟨t, g, q⟩ f r => ?_)
  obtain ⟨G', r', _⟩ := r.use f.env g
  cases r'
  refine ⟨t, rfl, ?_⟩
  cases t with
  | true => exact q.1 rfl Z1 H1 σ F1 Q f.env fun o2 E2 Z2 H2 F2 G2 v2 q2 f2 r2 => hk o2 E2 Z2 H2 F2 G2 v2 q2 (f.then f2) r2
  | false => exact hk _ E1 Z1 H1 F1 [] _ (q.2 rfl) f.nil (.bl _)
theorem wo_or (h : WO X a E fun o E1 => ∃ t, o.get E1 = some (.bl t) ∧ (t = true → k (.val (.bl true)) E1) ∧ (t = false → WO X (.BoolOp .Or (b :: rest) pos) E1 k)) : WO X (.BoolOp .Or (a :: b :: rest) pos) E k := by
  intro Z H σ F Q he hk
  refine wpE_by (pe_or pe_w pe_w) (h Z H σ F _ he fun o E1 Z1 H1 F1 G v ⟨t, g, q⟩ f r => ?_)
  obtain ⟨G', r', _⟩ := r.use f.env g
  cases r'
  refine ⟨t, rfl, ?_⟩
  cases t with
  | true => exact hk _ E1 Z1 H1 F1 [] _ (q.1 rfl) f.nil (.bl _)
  | false => exact q.2 rfl Z1 H1 σ F1 Q f.env fun o2 E2 Z2 H2 F2 G2 v2 q2 f2 r2 => hk o2 E2 Z2 H2 F2 G2 v2 q2 (f.then f2) r2
theorem wo_not (h : WO X a E fun o E1 => ∃ t, o.get E1 = some (.bl t) ∧ k (.val (.bl (!t))) E1) : WO X (.UnaryOp .Not a pos) E k := by
  intro Z H σ F Q he hk
  refine wpE_by (pe_not pe_w) (h Z H σ F _ he fun o E1 Z1 H1 F1 G v ⟨t, g, q⟩ f r => ?_)
  obtain ⟨G', r', _⟩ := r.use f.env g
  cases r'
  exact ⟨t, rfl, hk _ E1 Z1 H1 F1 [] _ q f.nil (.bl _)⟩
theorem wo_if (h : WT X c E fun t E1 => (t = true → WO X a E1 k) ∧ (t = false → WO X b E1 k)) : WO X (.IfExp c a b pos) E k := by
  intro Z H σ F Q he hk
  refine wpE_by (pe_ifExp pt_w pe_w pe_w) (h Z H σ F _ he fun t E1 Z1 H1 F1 q f => ?_)
  cases t with
  | true => exact q.1 rfl Z1 H1 σ F1 Q f.env fun o2 E2 Z2 H2 F2 G2 v2 q2 f2 r2 => hk o2 E2 Z2 H2 F2 G2 v2 q2 (f.then f2) r2
  | false => exact q.2 rfl Z1 H1 σ F1 Q f.env fun o2 E2 Z2 H2 F2 G2 v2 q2 f2 r2 => hk o2 E2 Z2 H2 F2 G2 v2 q2 (f.then f2) r2
theorem wo_nameI {i : Nat} {x : Str} {d : D} (hN : X.N[i]? = some x) (hE : E[i]? = some (some d)) (hi : Imm d) (h : k (.val d) E) (hv : Vis X.env.scope x := by first | exact Or.inl rfl | exact Or.inr (Or.inl rfl) | exact Or.inr (Or.inr rfl))
    (hd : (x == ("__debug__" : Str)) = false := by decide) (hcd : (x == ("__classdict__" : Str)) = false := by decide) : WO X (.Name x pos) E k := wo_of (we_name hN hE hi h hv hd hcd)
theorem wo_move {i : Nat} {x : Str} {d : D} (hN : X.N[i]? = some x) (hE : E[i]? = some (some d)) (h : k (.val d) (E.set i none)) (hv : Vis X.env.scope x := by first | exact Or.inl rfl | exact Or.inr (Or.inl rfl) | exact Or.inr (Or.inr rfl))
    (hd : (x == ("__debug__" : Str)) = false := by decide) (hcd : (x == ("__classdict__" : Str)) = false := by decide) : WO X (.Name x pos) E k := wo_of (we_move hN hE h hv hd hcd)

/-! ### displays -/
theorem OpdRs.vals {K : PySem.W.Frag} {Z : Addr → Prop} {H : Hp} {σ : Sl} : ∀ {ds : List D} {vs : List V} {G : List Addr}, OpdRs K Z H σ (ds.map Opd.val) vs G → Reps K Z H ds vs G
  | [], _, _, .nil => .nil
  | d :: ds, _, _, .cons r rs => .cons r (OpdRs.vals rs)
def valsOf : List Opd → Option (List D)
  | [] => some []
  | .val d :: os => (match valsOf os with
    | some ds => some (d :: ds)
    | none => none)
  | .bor _ :: _ => none
theorem valsOf_map : ∀ {os : List Opd} {ds : List D}, valsOf os = some ds → os = ds.map Opd.val
  | [], ds, h => by
    rw [valsOf] at h
    cases h
    rfl
  | .val d :: os, ds, h => by
    rw [valsOf] at h
    cases e : valsOf os with
    | none => rw [e] at h; cases h
    | some es =>
      rw [e] at h
      cases h
      rw [valsOf_map e]
      rfl
  | .bor _ :: _, ds, h => by
    rw [valsOf] at h
    cases h
theorem wo_tup {x1} (h : WA X es E fun os E1 => ∃ ds, valsOf os = some ds ∧ ds.length ≤ 100000 ∧ k (.val (.tup ds)) E1) : WO X (.Tuple es x1 pos) E k := by
  intro Z H σ F Q he hk
  refine wpE_by (pe_tup pa_w) (h Z H σ F _ he fun os E1 Z1 H1 F1 G vs ⟨ds, eo, hl, q⟩ f r => ?_)
  have eo' := valsOf_map eo
  subst eo'
  have r' := r.vals
  have hlen := r'.len
  refine ⟨Nat.le_trans (by omega) (by decide : 100000 ≤ sizeLine), fun p hp => ?_⟩
  have g : Grow H1 (upd H1 p (.tup vs)) [] := Grow.new0 hp
  refine hk _ E1 Z1 _ F1 G _ q ⟨⟨f.env.r.kp g.kp fun a _ o e => g.gr a o e, f.env.nd, f.env.nz, fun x z => ?_⟩, f.nd, f.nz, f.st.trans ?_⟩ (.tup (SqT.of upd_same) (r'.grow g))
  · obtain ⟨o, e⟩ := f.env.zt x z
    exact ⟨o, g.gr x o e⟩
  · have s := g.st (Z := Z1) (F := G ++ F1)
    exact s
theorem wo_lst (h : WA X es E fun os E1 => ∃ ds, valsOf os = some ds ∧ ds.length ≤ 100000 ∧ k (.val (.lst ds)) E1) : WO X (.List es pos) E k := by
  intro Z H σ F Q he hk
  refine wpE_by (pe_lst pa_w) (h Z H σ F _ he fun os E1 Z1 H1 F1 G vs ⟨ds, eo, hl, q⟩ f r => ?_)
  have eo' := valsOf_map eo
  subst eo'
  have r' := r.vals
  have hlen := r'.len
  refine ⟨Nat.le_trans (by omega) (by decide : 100000 ≤ sizeLine), fun p hp => ?_⟩
  have g : Grow H1 (upd H1 p (.lst vs)) [p] := Grow.new hp
  have pf : p ∉ G ++ F1 := fun hm => by
    rcases List.mem_append.mp hm with m | m
    · obtain ⟨o, e⟩ := r'.mem p m; rw [hp] at e; cases e
    · obtain ⟨o, e⟩ := f.env.r.mem p m; rw [hp] at e; cases e
  refine hk _ E1 Z1 _ F1 (p :: G) _ q ⟨⟨f.env.r.kp g.kp fun a _ o e => g.gr a o e, f.env.nd, f.env.nz, fun x z => ?_⟩, List.nodup_cons.mpr ⟨pf, f.nd⟩, fun x hx z => ?_, f.st.trans ?_⟩ (.lst upd_same (r'.grow g))
  · obtain ⟨o, e⟩ := f.env.zt x z
    exact ⟨o, g.gr x o e⟩
  · rcases List.mem_cons.mp hx with m | m
    · obtain ⟨o, e⟩ := f.env.zt x z
      rw [m, hp] at e
      cases e
    · exact f.nz x m z
  · exact g.st (Z := Z1) (F := G ++ F1)

/-! ### items and slices -/
theorem wo_ix (hb : PlainIx b) (h : WO X a E fun o1 E1 => WO X b E1 fun o2 E2 => ∃ ds i d, (o1.get E2).bind D.seq = some ds ∧ o2.get E2 = some (.int i) ∧ atI ds i = some d ∧ Imm d ∧ k (.val d) E2) : WO X (.Subscript a b pos) E k := by
  refine wo_two (r := rIx X.K) (pe_ix ix_seq pe_w pe_w hb) (WO.mono h fun o1 E1 q => WO.mono q fun o2 E2 ⟨ds, i, d, g1, g2, hat, im, kk⟩ => ?_)
  cases g : o1.get E2 with
  | none => rw [g] at g1; simp at g1
  | some d1 =>
    rw [g] at g1
    refine ⟨d1, .int i, d, rfl, g2, fun Z H v1 v2 G1 G2 r1 r2 Q q => ?_, kk⟩
    cases r2
    obtain ⟨p, vs, G', rfl, hs, rs⟩ := r1.seq (by simpa using g1)
    obtain ⟨v, G3, h1, h2⟩ := rs.at hat
    rcases hs with hs | hs
    · exact .inl ⟨p, vs, i, v, rfl, rfl, hs, h1, q v H [] (h2.nils im) Grow.refl⟩
    · exact .inr (.inl ⟨p, vs, i, v, rfl, rfl, hs, h1, q v H [] (h2.nils im) Grow.refl⟩)
/-- an optional part of a slice -/
def WP (X : Cx) (o : Option Expr) (E : EnvT) (k : Option Int → EnvT → Prop) : Prop := ∃ t, PO X o t ∧ ∀ (Z : Addr → Prop) (H : Hp) (σ : Sl) (F : List Addr) (Q : Option Int → Hp → Prop), EnvS X.K Z H E σ F →
  (∀ (i : Option Int) (E' : EnvT) (Z' : Addr → Prop) (H' : Hp) (F' : List Addr), k i E' → Fin X.K Z H σ F E' Z' H' F' [] → Q i H') → t σ H Q
end
end DL

namespace DL
open PySem PySem.Spec L2

/-! ### slices -/
def wpP (X : Cx) (o : Option Expr) (σ : Sl) (H : Hp) (Q : Option Int → Hp → Prop) : Prop := ∀ (pins : List (Addr × Obj)) (s : Shared), Inv X pins σ H s → wpAny (model X.prog X.w) X.A (evalPart o X.env) (fun u s' => ∃ o H', Inv X pins σ H' s' ∧ IsPart u o ∧ Q o H') X.xe s
theorem po_w {X : Cx} {o : Option Expr} : PO X o (wpP X o) := ⟨fun pins s σ H Q I h => h pins s I⟩
def WPt (X : Cx) (o : Option Expr) (E : EnvT) (k : Option Int → EnvT → Prop) : Prop := ∀ (Z : Addr → Prop) (H : Hp) (σ : Sl) (F : List Addr) (Q : Option Int → Hp → Prop), EnvS X.K Z H E σ F →
  (∀ (i : Option Int) (E' : EnvT) (Z' : Addr → Prop) (H' : Hp) (F' : List Addr), k i E' → Fin X.K Z H σ F E' Z' H' F' [] → Q i H') → wpP X o σ H Q
section
variable {X : Cx} {n : Nat} {e a b c : Expr} {es : List Expr} {E : EnvT} {k : Opd → EnvT → Prop} {pos p p2 : Pos} {lo hi : Option Expr}
theorem wp_none {k : Option Int → EnvT → Prop} (h : k none E) : WPt X none E k := fun Z H σ F Q he hk pins s I => po_none.run pins s σ H Q I (hk none E Z H F h (Fin.refl he))
theorem wp_some {k : Option Int → EnvT → Prop} (h : WO X e E fun o E1 => ∃ i, o.get E1 = some (.int i) ∧ k (some i) E1) : WPt X (some e) E k := by
  intro Z H σ F Q he hk pins s I
  refine (po_some pe_w).run pins s σ H Q I (h Z H σ F _ he fun o E1 Z1 H1 F1 G v ⟨i, g, q⟩ f r => ?_)
  obtain ⟨G', r', _⟩ := r.use f.env g
  cases r'
  exact ⟨i, rfl, hk (some i) E1 Z1 H1 F1 q f.nil⟩
theorem wo_sl {r : V → Option Int → Option Int → Hp → VK → Prop} (hr : SlR X r) (h : WO X e E fun o E1 => WPt X lo E1 fun l E2 => WPt X hi E2 fun u E3 => ∃ d1 d, o.get E3 = some d1 ∧ (∀ Z H v G, Rep X.K Z H d1 v G → Gives X.K Z H d (r v l u H)) ∧ k (.val d) E3) :
    WO X (.Subscript e (.Slice lo hi none p2) pos) E k := by
  intro Z H σ F Q he hk
  refine wpE_by (pe_slice hr pe_w po_w po_w) (h Z H σ F _ he fun o1 E1 Z1 H1 F1 G1 v1 k1 f1 r1 => ?_)
  refine k1 Z1 H1 σ F1 _ f1.env fun l E2 Z2 H2 F2 k2 f2 => ?_
  refine k2 Z2 H2 σ F2 _ f2.env fun u E3 Z3 H3 F3 ⟨d1, d, g, op, k3⟩ f3 => ?_
  have f23 := f2.then f3
  have r1' := r1.step f23.st (f1.off r1.mem f23)
  obtain ⟨G', q, _⟩ := r1'.use f3.env g
  refine op Z3 H3 v1 G' q Q fun v H' G rv gr => ?_
  exact hk _ E3 Z3 H' F3 G v k3 ((f1.join r1.mem f23).grow gr) rv
/-- of a tuple of things that own nothing -/
theorem wo_slT (h : WO X e E fun o E1 => WPt X lo E1 fun l E2 => WPt X hi E2 fun u E3 => ∃ ds, (o.get E3).bind D.tseq = some ds ∧ Imms ds ∧ k (.val (.tup (cutD ds l u))) E3) : WO X (.Subscript e (.Slice lo hi none p2) pos) E k := by
  refine wo_sl sl_tupA (WO.mono h fun o E1 q1 => ?_)
  intro Z H σ F Q he hk
  refine q1 Z H σ F Q he fun l E2 Z2 H2 F2 q2 f2 => hk l E2 Z2 H2 F2 ?_ f2
  intro Z H σ F Q he hk
  refine q2 Z H σ F Q he fun u E3 Z3 H3 F3 ⟨ds, g1, im, kk⟩ f3 => hk u E3 Z3 H3 F3 ?_ f3
  cases g : o.get E3 with
  | none => rw [g] at g1; simp at g1
  | some d1 =>
    rw [g] at g1
    refine ⟨d1, _, g, fun Z H v G r Q q => ?_, kk⟩
    obtain ⟨a, vs, rfl, hs, rs⟩ := r.tseq (by simpa using g1)
    have rs0 := rs.nils im
    obtain ⟨G', rc⟩ := rs0.cut l u
    have rc0 := rc.nils (imms_cut im)
    refine ⟨a, vs, rfl, hs, fun hw => ?_, fun hw p hp => ?_⟩
    · refine q _ H [] (.tup hs ?_) Grow.refl
      have e : cutV vs l u = vs := by unfold cutV; rw [hw.1, hw.2]; simp
      rw [e] at rc0
      exact rc0
    · exact q _ _ [] (.tup (SqT.of upd_same) (rc0.grow (Grow.new0 hp))) (Grow.new0 hp)
theorem wo_slL (h : WO X e E fun o E1 => WPt X lo E1 fun l E2 => WPt X hi E2 fun u E3 => ∃ ds, (o.get E3).bind D.lseq = some ds ∧ Imms ds ∧ k (.val (.lst (cutD ds l u))) E3) : WO X (.Subscript e (.Slice lo hi none p2) pos) E k := by
  refine wo_sl sl_list (WO.mono h fun o E1 q1 => ?_)
  intro Z H σ F Q he hk
  refine q1 Z H σ F Q he fun l E2 Z2 H2 F2 q2 f2 => hk l E2 Z2 H2 F2 ?_ f2
  intro Z H σ F Q he hk
  refine q2 Z H σ F Q he fun u E3 Z3 H3 F3 ⟨ds, g1, im, kk⟩ f3 => hk u E3 Z3 H3 F3 ?_ f3
  cases g : o.get E3 with
  | none => rw [g] at g1; simp at g1
  | some d1 =>
    rw [g] at g1
    refine ⟨d1, _, g, fun Z H v G r Q q => ?_, kk⟩
    obtain ⟨a, vs, G', rfl, hs, rs⟩ := r.lseq (by simpa using g1)
    have rs0 := rs.nils im
    obtain ⟨G', rc⟩ := rs0.cut l u
    have rc0 := rc.nils (imms_cut im)
    exact ⟨a, vs, rfl, hs, fun p hp => q _ _ [p] (.lst upd_same (rc0.grow (Grow.new hp))) (Grow.new hp)⟩

/-! ### + and * of lists and tuples -/
theorem wo_catL (h : WO X a E fun o1 E1 => WO X b E1 fun o2 E2 => ∃ ds es, o1.get E2 = some (.lst ds) ∧ o2.get E2 = some (.lst es) ∧ Imms ds ∧ Imms es ∧ ds.length + es.length ≤ 100000 ∧ k (.val (.lst (ds ++ es))) E2) : WO X (.BinOp a .Add b pos) E k :=
  wo_bin op_cat (WO.mono h fun o1 E1 q => WO.mono q fun o2 E2 ⟨ds, es, g1, g2, i1, i2, hl, kk⟩ => ⟨_, _, _, g1, g2, fun Z H v1 v2 G1 G2 r1 r2 Q q => by
    cases r1 with
    | lst h1 s1 =>
      cases r2 with
      | lst h2 s2 =>
        have l1 := s1.len
        have l2 := s2.len
        exact ⟨_, _, _, _, rfl, rfl, h1, h2, Nat.le_trans (by omega) (by decide : 100000 ≤ sizeLine), fun p hp => q _ _ [p] (.lst upd_same (((s1.nils i1).app (s2.nils i2)).grow (Grow.new hp))) (Grow.new hp)⟩, kk⟩)
theorem wo_catT (h : WO X a E fun o1 E1 => WO X b E1 fun o2 E2 => ∃ ds es, (o1.get E2).bind D.tseq = some ds ∧ (o2.get E2).bind D.tseq = some es ∧ Imms ds ∧ Imms es ∧ ds.length + es.length ≤ 100000 ∧ k (.val (.tup (ds ++ es))) E2) : WO X (.BinOp a .Add b pos) E k :=
  wo_bin op_catA (WO.mono h fun o1 E1 q => WO.mono q fun o2 E2 ⟨ds, es, g1, g2, i1, i2, hl, kk⟩ => by
    cases g : o1.get E2 with
    | none => rw [g] at g1; simp at g1
    | some d1 =>
      cases g' : o2.get E2 with
      | none => rw [g'] at g2; simp at g2
      | some d2 =>
        rw [g] at g1
        rw [g'] at g2
        refine ⟨d1, d2, _, rfl, rfl, fun Z H v1 v2 G1 G2 r1 r2 Q q => ?_, kk⟩
        obtain ⟨p1, vs1, rfl, h1, s1⟩ := r1.tseq (by simpa using g1)
        obtain ⟨p2, vs2, rfl, h2, s2⟩ := r2.tseq (by simpa using g2)
        have l1 := s1.len
        have l2 := s2.len
        refine ⟨_, _, _, _, rfl, rfl, h1, h2, Nat.le_trans (by omega) (by decide : 100000 ≤ sizeLine), fun e0 => ?_, fun _ e0 => ?_, fun _ _ p hp => ?_⟩
        · refine q _ H [] (.tup h2 ?_) Grow.refl
          have r := (s1.nils i1).app (s2.nils i2)
          rw [e0] at r
          exact r
        · refine q _ H [] (.tup h1 ?_) Grow.refl
          have r := (s1.nils i1).app (s2.nils i2)
          rw [e0, List.append_nil] at r
          exact r
        · exact q _ _ [] (.tup (SqT.of upd_same) (((s1.nils i1).app (s2.nils i2)).grow (Grow.new0 hp))) (Grow.new0 hp))
theorem Reps.rep {K : PySem.W.Frag} {Z : Addr → Prop} {H : Hp} {ds : List D} {vs : List V} (r : Reps K Z H ds vs []) : ∀ m : Nat, Reps K Z H (List.replicate m ds).flatten (List.replicate m vs).flatten []
  | 0 => .nil
  | m + 1 => by
    rw [List.replicate_succ, List.replicate_succ, List.flatten_cons, List.flatten_cons]
    exact r.app (Reps.rep r m)
theorem wo_repL (h : WO X a E fun o1 E1 => WO X b E1 fun o2 E2 => ∃ ds i, o1.get E2 = some (.lst ds) ∧ o2.get E2 = some (.int i) ∧ Imms ds ∧ (-(2 ^ 63) ≤ i ∧ i < 2 ^ 63) ∧ ds.length * i.toNat ≤ 100000 ∧ k (.val (.lst (List.replicate i.toNat ds).flatten)) E2) : WO X (.BinOp a .Mult b pos) E k :=
  wo_bin op_rep (WO.mono h fun o1 E1 q => WO.mono q fun o2 E2 ⟨ds, i, g1, g2, i1, hi, hl, kk⟩ => ⟨_, _, _, g1, g2, fun Z H v1 v2 G1 G2 r1 r2 Q q => by
    cases r2
    cases r1 with
    | lst h1 s1 =>
      have l1 := s1.len
      exact ⟨_, i, _, rfl, rfl, h1, hi.1, hi.2, Nat.le_trans (by rw [← l1]; exact hl) (by decide : 100000 ≤ sizeLine), fun p hp => q _ _ [p] (.lst upd_same (((s1.nils i1).rep i.toNat).grow (Grow.new hp))) (Grow.new hp)⟩, kk⟩)

/-! ### == and in of data -/
mutual
def toPy : D → PyData
  | .non => .none
  | .bl b => .bool b
  | .int i => .int i
  | .str x => .str x
  | .tup ds => .tuple (toPys ds)
  | .pt ds => .tuple (toPys ds)
  | .lst ds => .list (toPys ds)
  | .fz ds => .list (toPys ds)
  | _ => .dict []
def toPys : List D → List PyData
  | [] => []
  | d :: ds => toPy d :: toPys ds
end
theorem toPys_map : ∀ ds : List D, toPys ds = ds.map toPy
  | [] => rfl
  | d :: ds => by rw [toPys, toPys_map ds, List.map_cons]
/-- data that == can be asked of -/
def Shp (d : D) : Prop := SeqAt.shaped (toPy d) = true
section
variable {K : PySem.W.Frag} {Z : Addr → Prop} {H : Hp}
mutual
theorem Rep.dp : ∀ {d : D} {v : V} {G : List Addr}, Rep K Z H d v G → (toPy d).canLay0 = true → Dp K H v (toPy d)
  | _, _, _, .non, _ => by rw [toPy]; exact .non
  | _, _, _, .bl b, _ => by rw [toPy]; exact .bl b
  | _, _, _, .int i, _ => by rw [toPy]; exact .int i
  | _, _, _, .str x, _ => by rw [toPy]; exact .str x
  | _, _, _, .tup hs r, h => by
    rw [toPy] at h ⊢
    exact .tup hs (Reps.dp r (by simpa [PyData.canLay0] using h))
  | _, _, _, .pt hs _ r, h => by
    rw [toPy] at h ⊢
    exact .tup (.inl (.inr ⟨_, hs⟩)) (Reps.dp r (by simpa [PyData.canLay0] using h))
  | _, _, _, .lst hs r, h => by
    rw [toPy] at h ⊢
    exact .lst (SqL.of hs) (Reps.dp r (by simpa [PyData.canLay0] using h))
  | _, _, _, .fz hs r, h => by
    rw [toPy] at h ⊢
    refine .lst ?_ (Reps.dp r (by simpa [PyData.canLay0] using h))
    rcases hs with q | q
    · exact .inl q.2
    · exact q H
  | _, _, _, .dic _ _ _, h => by simp [toPy, PyData.canLay0] at h
  | _, _, _, .obj _ _ _, h => by simp [toPy, PyData.canLay0] at h
  | _, _, _, .op _, h => by simp [toPy, PyData.canLay0] at h
theorem Reps.dp : ∀ {ds : List D} {vs : List V} {G : List Addr}, Reps K Z H ds vs G → PyData.canLayAll0 (toPys ds) = true → DpAll K H vs (toPys ds)
  | _, _, _, .nil, _ => by rw [toPys]; exact .nil
  | _, _, _, .cons r rs, h => by
    rw [toPys] at h ⊢
    rw [PyData.canLayAll0, Bool.and_eq_true] at h
    exact .cons (Rep.dp r h.1) (Reps.dp rs h.2)
end
end
def deq (d1 d2 : D) : Bool := PyData.eqv (toPy d1) (toPy d2)
theorem wo_eq (hu : X.A.units + 64 < cLine) (h : WO X a E fun o1 E1 => WO X b E1 fun o2 E2 => ∃ d1 d2, o1.get E2 = some d1 ∧ o2.get E2 = some d2 ∧ Shp d1 ∧ Shp d2 ∧ k (.val (.bl (deq d1 d2))) E2) : WO X (.Compare a [.Eq] [b] pos) E k :=
  wo_cmp (op_eqD hu) (nomark _) (WO.mono h fun o1 E1 q => WO.mono q fun o2 E2 ⟨d1, d2, g1, g2, s1, s2, kk⟩ => ⟨_, _, _, g1, g2, fun Z H v1 v2 G1 G2 r1 r2 Q q =>
    ⟨_, _, r1.dp (SeqAt.canLay_of_shaped s1), r2.dp (SeqAt.canLay_of_shaped s2), s1, s2, q _ H [] (.bl _) Grow.refl⟩, kk⟩)
theorem wo_ne (hu : X.A.units + 64 < cLine) (h : WO X a E fun o1 E1 => WO X b E1 fun o2 E2 => ∃ d1 d2, o1.get E2 = some d1 ∧ o2.get E2 = some d2 ∧ Shp d1 ∧ Shp d2 ∧ k (.val (.bl (!deq d1 d2))) E2) : WO X (.Compare a [.NotEq] [b] pos) E k :=
  wo_cmp (op_neD hu) (nomark _) (WO.mono h fun o1 E1 q => WO.mono q fun o2 E2 ⟨d1, d2, g1, g2, s1, s2, kk⟩ => ⟨_, _, _, g1, g2, fun Z H v1 v2 G1 G2 r1 r2 Q q =>
    ⟨_, _, r1.dp (SeqAt.canLay_of_shaped s1), r2.dp (SeqAt.canLay_of_shaped s2), s1, s2, q _ H [] (.bl _) Grow.refl⟩, kk⟩)
/-- flat things: no lists, no tuples -/
def flatD : D → Bool
  | .non => true
  | .bl _ => true
  | .int _ => true
  | .str _ => true
  | _ => false
theorem Rep.flat {K : PySem.W.Frag} {Z : Addr → Prop} {H : Hp} {d : D} {v : V} {G : List Addr} (r : Rep K Z H d v G) (h : flatD d = true) : flatV v = true ∧ ∀ (d' : D) (v' : V) (G' : List Addr), Rep K Z H d' v' G' → flatD d' = true → eqV v' v = deq d' d := by
  cases d <;> simp only [flatD, reduceCtorEq] at h <;> cases r <;> refine ⟨rfl, fun d' v' G' r' h' => ?_⟩ <;> cases d' <;> simp only [flatD, reduceCtorEq] at h' <;> cases r' <;> simp [eqV, deq, toPy, PyData.eqv]
theorem Reps.flat {K : PySem.W.Frag} {Z : Addr → Prop} {H : Hp} {d : D} {v : V} {G : List Addr} (r : Rep K Z H d v G) (h : flatD d = true) : ∀ {ds : List D} {vs : List V} {Gs : List Addr}, Reps K Z H ds vs Gs → ds.all flatD = true → vs.all flatV = true ∧ inV v vs = ds.any fun x => deq x d
  | _, _, _, .nil, _ => ⟨rfl, rfl⟩
  | _, _, _, .cons r1 rs, ha => by
    rw [List.all_cons, Bool.and_eq_true] at ha
    obtain ⟨h1, h2⟩ := Reps.flat r h rs ha.2
    refine ⟨by rw [List.all_cons, (r1.flat ha.1).1, h1]; rfl, ?_⟩
    unfold inV at h2 ⊢
    rw [List.any_cons, List.any_cons, h2, (r.flat h).2 _ _ _ r1 ha.1]
theorem wo_in (h : WO X a E fun o1 E1 => WO X b E1 fun o2 E2 => ∃ d ds, o1.get E2 = some d ∧ (o2.get E2).bind D.seq = some ds ∧ flatD d = true ∧ ds.all flatD = true ∧ k (.val (.bl (ds.any fun x => deq x d))) E2)
    (hm : behindInMarks .In b = false := by rfl) : WO X (.Compare a [.In] [b] pos) E k :=
  wo_cmp op_in_seq hm (WO.mono h fun o1 E1 q => WO.mono q fun o2 E2 ⟨d, ds, g1, g2, f1, f2, kk⟩ => by
    cases g' : o2.get E2 with
    | none => rw [g'] at g2; simp at g2
    | some d2 =>
      rw [g'] at g2
      refine ⟨d, d2, _, g1, rfl, fun Z H v1 v2 G1 G2 r1 r2 Q q => ?_, kk⟩
      obtain ⟨p, vs, G', rfl, hs, rs⟩ := r2.seq (by simpa using g2)
      obtain ⟨q1, q2⟩ := Reps.flat r1 f1 rs f2
      refine ⟨p, vs, rfl, hs, (r1.flat f1).1, q1, ?_⟩
      rw [q2]
      exact q _ H [] (.bl _) Grow.refl)
theorem wo_notin (h : WO X a E fun o1 E1 => WO X b E1 fun o2 E2 => ∃ d ds, o1.get E2 = some d ∧ (o2.get E2).bind D.seq = some ds ∧ flatD d = true ∧ ds.all flatD = true ∧ k (.val (.bl (!ds.any fun x => deq x d))) E2)
    (hm : behindInMarks .NotIn b = false := by rfl) : WO X (.Compare a [.NotIn] [b] pos) E k :=
  wo_cmp op_notIn_seq hm (WO.mono h fun o1 E1 q => WO.mono q fun o2 E2 ⟨d, ds, g1, g2, f1, f2, kk⟩ => by
    cases g' : o2.get E2 with
    | none => rw [g'] at g2; simp at g2
    | some d2 =>
      rw [g'] at g2
      refine ⟨d, d2, _, g1, rfl, fun Z H v1 v2 G1 G2 r1 r2 Q q => ?_, kk⟩
      obtain ⟨p, vs, G', rfl, hs, rs⟩ := r2.seq (by simpa using g2)
      obtain ⟨q1, q2⟩ := Reps.flat r1 f1 rs f2
      refine ⟨p, vs, rfl, hs, (r1.flat f1).1, q1, ?_⟩
      rw [q2]
      exact q _ H [] (.bl _) Grow.refl)
end
end DL

namespace DL
open PySem PySem.Spec L2

section
variable {X : Cx} {n : Nat} {e a b c f : Expr} {es : List Expr} {E : EnvT} {k : Opd → EnvT → Prop} {pos p p2 : Pos} {r : List V → Hp → VK → Prop}
def GivesP (K : PySem.W.Frag) (Z : Addr → Prop) (H : Hp) (P : D → Prop) (r : VK → Prop) : Prop := ∀ Q : VK, (∀ d v H' G, P d → Rep K Z H' d v G → Grow H H' G → Q v H') → r Q
theorem wo_ba (hp : PE X f (tCB r (wpA X es))) (h : WA X es E fun os E1 => ∃ P : D → Prop, (∀ Z H σ F vs G, EnvS X.K Z H E1 σ F → OpdRs X.K Z H σ os vs G → GivesP X.K Z H P (r vs H)) ∧ ∀ d, P d → k (.val d) E1) : WO X f E k := by
  intro Z H σ F Q he hk
  refine wpE_by hp (h Z H σ F _ he fun os E1 Z1 H1 F1 G vs ⟨P, op, q⟩ f1 r1 => ?_)
  refine op Z1 H1 σ F1 vs G f1.env r1 Q fun d v H' G' pd rv gr => ?_
  exact hk _ E1 Z1 H' F1 G' v (q d pd) (f1.grow gr) rv
theorem WA.mono {k k' : List Opd → EnvT → Prop} (h : WA X es E k) (m : ∀ o E', k o E' → k' o E') : WA X es E k' := fun Z H σ F Q he hk => h Z H σ F Q he fun o E' Z' H' F' G v q => hk o E' Z' H' F' G v (m o E' q)
theorem wo_b1 (hp : PE X f (tCB r (wpA X [a]))) (h : WO X a E fun o1 E1 => ∃ d1, o1.get E1 = some d1 ∧ ∃ P : D → Prop, (∀ Z H v G, Rep X.K Z H d1 v G → GivesP X.K Z H P (r [v] H)) ∧ ∀ d, P d → k (.val d) E1)
    (hs : starEach [a] X.env = (false, eval a X.env) :: starEach [] X.env := by rfl) : WO X f E k := by
  refine wo_ba hp (wa_cons (WO.mono h fun o1 E1 ⟨d1, g, P, op, q⟩ => wa_nil ⟨P, fun Z H σ F vs G he rs => ?_, q⟩) hs)
  cases rs with
  | cons r1 rs =>
    cases rs
    obtain ⟨G', r', _⟩ := r1.use he g
    exact op Z H _ G' r'
theorem wo_b2 (hp : PE X f (tCB r (wpA X [a, b]))) (h : WO X a E fun o1 E1 => WO X b E1 fun o2 E2 => ∃ d1 d2, o1.get E2 = some d1 ∧ o2.get E2 = some d2 ∧ ∃ P : D → Prop, (∀ Z H v1 v2 G1 G2, Rep X.K Z H d1 v1 G1 → Rep X.K Z H d2 v2 G2 → GivesP X.K Z H P (r [v1, v2] H)) ∧ ∀ d, P d → k (.val d) E2)
    (hs : starEach [a, b] X.env = (false, eval a X.env) :: starEach [b] X.env := by rfl) (hs2 : starEach [b] X.env = (false, eval b X.env) :: starEach [] X.env := by rfl) : WO X f E k := by
  refine wo_ba hp (wa_cons (WO.mono h fun o1 E1 q => wa_cons (WO.mono q fun o2 E2 ⟨d1, d2, g1, g2, P, op, q⟩ => wa_nil ⟨P, fun Z H σ F vs G he rs => ?_, q⟩) hs2) hs)
  cases rs with
  | cons r1 rs =>
    cases rs with
    | cons r2 rs =>
      cases rs
      obtain ⟨G1, r1', _⟩ := r1.use he g1
      obtain ⟨G2, r2', _⟩ := r2.use he g2
      exact op Z H _ _ G1 G2 r1' r2'
theorem GivesP.one {K : PySem.W.Frag} {Z : Addr → Prop} {H : Hp} {d : D} {r : VK → Prop} (h : ∀ Q : VK, (∀ v H' G, Rep K Z H' d v G → Grow H H' G → Q v H') → r Q) : GivesP K Z H (fun x => x = d) r := fun Q q => h Q fun v H' G rv g => q d v H' G rfl rv g

/-! ### built-ins by name -/
theorem wo_len (hg : Gl X "len") (hm : X.mg "len" = none) (h : WO X a E fun o E1 => ∃ ds, (o.get E1).bind D.seq = some ds ∧ k (.val (.int ds.length)) E1) (hs : starEach [a] X.env = (false, eval a X.env) :: starEach [] X.env := by rfl) : WO X (.Call (.Name "len" p) [a] [] pos) E k :=
  wo_b1 (pe_callB call_len_seq hg hm boot_len pa_w (he := hs)) (WO.mono h fun o E1 ⟨ds, g1, kk⟩ => by
    cases g : o.get E1 with
    | none => rw [g] at g1; simp at g1
    | some d1 =>
      rw [g] at g1
      refine ⟨d1, rfl, _, fun Z H v G rv => GivesP.one fun Q q => ?_, fun d e => by rw [e]; exact kk⟩
      obtain ⟨x, vs, G', rfl, hs, rs⟩ := rv.seq (by simpa using g1)
      refine ⟨x, vs, rfl, hs, ?_⟩
      rw [← rs.len]
      exact q _ H [] (.int _) Grow.refl) hs
theorem wo_abs (hg : Gl X "abs") (hm : X.mg "abs" = none) (h : WO X a E fun o E1 => ∃ i, o.get E1 = some (.int i) ∧ k (.val (.int (if i < 0 then -i else i))) E1) (hs : starEach [a] X.env = (false, eval a X.env) :: starEach [] X.env := by rfl) : WO X (.Call (.Name "abs" p) [a] [] pos) E k :=
  wo_b1 (pe_callB call_abs hg hm (by decide +kernel) pa_w (he := hs)) (WO.mono h fun o E1 ⟨i, g, kk⟩ => ⟨_, g, _, fun Z H v G rv => GivesP.one fun Q q => by
    cases rv
    exact ⟨i, rfl, q _ H [] (.int _) Grow.refl⟩, fun d e => by rw [e]; exact kk⟩) hs
theorem wo_intI (hg : Gl X "int") (hm : X.mg "int" = none) (h : WO X a E fun o E1 => ∃ i, o.get E1 = some (.int i) ∧ k (.val (.int i)) E1) (hs : starEach [a] X.env = (false, eval a X.env) :: starEach [] X.env := by rfl) : WO X (.Call (.Name "int" p) [a] [] pos) E k :=
  wo_b1 (pe_callTy call_int1 hg hm (by decide +kernel) pa_w (he := hs)) (WO.mono h fun o E1 ⟨i, g, kk⟩ => ⟨_, g, _, fun Z H v G rv => GivesP.one fun Q q => by
    cases rv
    exact .inl ⟨i, rfl, q _ H [] (.int _) Grow.refl⟩, fun d e => by rw [e]; exact kk⟩) hs
theorem wo_max2 (hc : X.calm = true) (hg : Gl X "max") (hm : X.mg "max" = none) (h : WO X a E fun o1 E1 => WO X b E1 fun o2 E2 => Two E2 o1 o2 fun i j => k (.val (.int (if j > i then j else i))) E2) (hs : starEach [a, b] X.env = (false, eval a X.env) :: starEach [b] X.env := by rfl) (hs2 : starEach [b] X.env = (false, eval b X.env) :: starEach [] X.env := by rfl) : WO X (.Call (.Name "max" p) [a, b] [] pos) E k :=
  wo_b2 (pe_callB (call_max2 hc) hg hm (by decide +kernel) pa_w (he := hs) (hpl := by rw [hs2]; rfl)) (WO.mono h fun o1 E1 q => WO.mono q fun o2 E2 ⟨i, j, g1, g2, kk⟩ => ⟨_, _, g1, g2, _, fun Z H v1 v2 G1 G2 r1 r2 => GivesP.one fun Q q => by
    cases r1
    cases r2
    exact ⟨i, j, rfl, q _ H [] (.int _) Grow.refl⟩, fun d e => by rw [e]; exact kk⟩) hs hs2
theorem wo_min2 (hc : X.calm = true) (hg : Gl X "min") (hm : X.mg "min" = none) (h : WO X a E fun o1 E1 => WO X b E1 fun o2 E2 => Two E2 o1 o2 fun i j => k (.val (.int (if j < i then j else i))) E2) (hs : starEach [a, b] X.env = (false, eval a X.env) :: starEach [b] X.env := by rfl) (hs2 : starEach [b] X.env = (false, eval b X.env) :: starEach [] X.env := by rfl) : WO X (.Call (.Name "min" p) [a, b] [] pos) E k :=
  wo_b2 (pe_callB (call_min2 hc) hg hm (by decide +kernel) pa_w (he := hs) (hpl := by rw [hs2]; rfl)) (WO.mono h fun o1 E1 q => WO.mono q fun o2 E2 ⟨i, j, g1, g2, kk⟩ => ⟨_, _, g1, g2, _, fun Z H v1 v2 G1 G2 r1 r2 => GivesP.one fun Q q => by
    cases r1
    cases r2
    exact ⟨i, j, rfl, q _ H [] (.int _) Grow.refl⟩, fun d e => by rw [e]; exact kk⟩) hs hs2
/-- tuple(list) -/
theorem wo_tuple (hg : Gl X "tuple") (hm : X.mg "tuple" = none) (h : WO X a E fun o E1 => ∃ ds, (o.get E1).bind D.seq = some ds ∧ Imms ds ∧ k (.val (.tup ds)) E1) (hs : starEach [a] X.env = (false, eval a X.env) :: starEach [] X.env := by rfl) : WO X (.Call (.Name "tuple" p) [a] [] pos) E k :=
  wo_b1 (pe_callTy call_tuple_of hg hm (by decide +kernel) pa_w (he := hs)) (WO.mono h fun o E1 ⟨ds, g1, im, kk⟩ => by
    cases g : o.get E1 with
    | none => rw [g] at g1; simp at g1
    | some d1 =>
      rw [g] at g1
      refine ⟨d1, rfl, _, fun Z H v G rv => GivesP.one fun Q q => ?_, fun d e => by rw [e]; exact kk⟩
      obtain ⟨x, vs, G', rfl, hs, rs⟩ := rv.seq (by simpa using g1)
      have rs0 := rs.nils im
      rcases hs with hs | hs
      · exact ⟨x, vs, rfl, .inl ⟨hs, fun l hl => q _ _ [] (.tup (SqT.of upd_same) (rs0.grow (Grow.new0 hl))) (Grow.new0 hl)⟩⟩
      · exact ⟨x, vs, rfl, .inr ⟨hs, q _ H [] (.tup hs rs0) Grow.refl⟩⟩) hs
/-- list(..) -/
theorem wo_list (hg : Gl X "list") (hm : X.mg "list" = none) (h : WO X a E fun o E1 => ∃ ds, (o.get E1).bind D.seq = some ds ∧ Imms ds ∧ k (.val (.lst ds)) E1) (hs : starEach [a] X.env = (false, eval a X.env) :: starEach [] X.env := by rfl) : WO X (.Call (.Name "list" p) [a] [] pos) E k :=
  wo_b1 (pe_callTy call_list_of hg hm (by decide +kernel) pa_w (he := hs)) (WO.mono h fun o E1 ⟨ds, g1, im, kk⟩ => by
    cases g : o.get E1 with
    | none => rw [g] at g1; simp at g1
    | some d1 =>
      rw [g] at g1
      refine ⟨d1, rfl, _, fun Z H v G rv => GivesP.one fun Q q => ?_, fun d e => by rw [e]; exact kk⟩
      obtain ⟨x, vs, G', rfl, hs, rs⟩ := rv.seq (by simpa using g1)
      exact ⟨x, vs, rfl, hs, fun l hl => q _ _ [l] (.lst upd_same ((rs.nils im).grow (Grow.new hl))) (Grow.new hl)⟩) hs
theorem Reps.ints {K : PySem.W.Frag} {Z : Addr → Prop} {H : Hp} : ∀ {ns : List Int} {vs : List V} {G : List Addr}, Reps K Z H (ns.map D.int) vs G → vs = ns.map V.int
  | [], _, _, .nil => rfl
  | n :: ns, _, _, .cons r rs => by
    cases r
    rw [Reps.ints rs]
    rfl
theorem Reps.ofInts {K : PySem.W.Frag} {Z : Addr → Prop} {H : Hp} : ∀ (ns : List Int), Reps K Z H (ns.map D.int) (ns.map V.int) []
  | [] => .nil
  | n :: ns => .cons (.int n) (Reps.ofInts ns)
theorem Reps.bls {K : PySem.W.Frag} {Z : Addr → Prop} {H : Hp} : ∀ {ns : List Bool} {vs : List V} {G : List Addr}, Reps K Z H (ns.map D.bl) vs G → vs = ns.map V.bl
  | [], _, _, .nil => rfl
  | n :: ns, _, _, .cons r rs => by
    cases r
    rw [Reps.bls rs]
    rfl
/-- sorted(list of ints) -/
theorem wo_sortedI (hg : Gl X "sorted") (hm : X.mg "sorted" = none) (h : WO X a E fun o E1 => ∃ ns : List Int, (o.get E1).bind D.lseq = some (ns.map D.int) ∧ ∀ ns' : List Int, ns'.Perm ns → ns'.Pairwise (· ≤ ·) → k (.val (.lst (ns'.map D.int))) E1)
    (hs : starEach [a] X.env = (false, eval a X.env) :: starEach [] X.env := by rfl) : WO X (.Call (.Name "sorted" p) [a] [] pos) E k :=
  wo_b1 (pe_callB cr_sortedI hg hm (by decide +kernel) pa_w (he := hs)) (WO.mono h fun o E1 ⟨ns, g1, kk⟩ => by
    cases g : o.get E1 with
    | none => rw [g] at g1; simp at g1
    | some d1 =>
      rw [g] at g1
      refine ⟨d1, rfl, fun d => ∃ ns' : List Int, ns'.Perm ns ∧ ns'.Pairwise (· ≤ ·) ∧ d = .lst (ns'.map D.int), fun Z H v G rv Q q => ?_, fun d ⟨ns', h1, h2, e⟩ => by rw [e]; exact kk ns' h1 h2⟩
      obtain ⟨x, vs, G', rfl, hs, rs⟩ := rv.lseq (by simpa using g1)
      have ev := rs.ints
      subst ev
      exact ⟨x, ns, rfl, hs, fun ns' l h1 h2 hl => q _ _ _ [l] ⟨ns', h1, h2, rfl⟩ (.lst upd_same (Reps.ofInts ns')) (Grow.new hl)⟩) hs
/-- min(list), max(list) -/
theorem wo_minL (hc : X.calm = true) (hg : Gl X "min") (hm : X.mg "min" = none) (h : WO X a E fun o E1 => ∃ ns : List Int, (o.get E1).bind D.lseq = some (ns.map D.int) ∧ 0 < ns.length ∧ ∀ m, m ∈ ns → (∀ y ∈ ns, m ≤ y) → k (.val (.int m)) E1)
    (hs : starEach [a] X.env = (false, eval a X.env) :: starEach [] X.env := by rfl) : WO X (.Call (.Name "min" p) [a] [] pos) E k :=
  wo_b1 (pe_callB (cr_min hc) hg hm (by decide +kernel) pa_w (he := hs)) (WO.mono h fun o E1 ⟨ns, g1, h0, kk⟩ => by
    cases g : o.get E1 with
    | none => rw [g] at g1; simp at g1
    | some d1 =>
      rw [g] at g1
      refine ⟨d1, rfl, fun d => ∃ m, m ∈ ns ∧ (∀ y ∈ ns, m ≤ y) ∧ d = .int m, fun Z H v G rv Q q => ?_, fun d ⟨m, h1, h2, e⟩ => by rw [e]; exact kk m h1 h2⟩
      obtain ⟨x, vs, G', rfl, hs, rs⟩ := rv.lseq (by simpa using g1)
      have ev := rs.ints
      subst ev
      exact ⟨x, ns, rfl, hs, h0, fun m h1 h2 => q _ _ H [] ⟨m, h1, h2, rfl⟩ (.int m) Grow.refl⟩) hs
theorem wo_maxL (hc : X.calm = true) (hg : Gl X "max") (hm : X.mg "max" = none) (h : WO X a E fun o E1 => ∃ ns : List Int, (o.get E1).bind D.lseq = some (ns.map D.int) ∧ 0 < ns.length ∧ ∀ m, m ∈ ns → (∀ y ∈ ns, y ≤ m) → k (.val (.int m)) E1)
    (hs : starEach [a] X.env = (false, eval a X.env) :: starEach [] X.env := by rfl) : WO X (.Call (.Name "max" p) [a] [] pos) E k :=
  wo_b1 (pe_callB (cr_max hc) hg hm (by decide +kernel) pa_w (he := hs)) (WO.mono h fun o E1 ⟨ns, g1, h0, kk⟩ => by
    cases g : o.get E1 with
    | none => rw [g] at g1; simp at g1
    | some d1 =>
      rw [g] at g1
      refine ⟨d1, rfl, fun d => ∃ m, m ∈ ns ∧ (∀ y ∈ ns, y ≤ m) ∧ d = .int m, fun Z H v G rv Q q => ?_, fun d ⟨m, h1, h2, e⟩ => by rw [e]; exact kk m h1 h2⟩
      obtain ⟨x, vs, G', rfl, hs, rs⟩ := rv.lseq (by simpa using g1)
      have ev := rs.ints
      subst ev
      exact ⟨x, ns, rfl, hs, h0, fun m h1 h2 => q _ _ H [] ⟨m, h1, h2, rfl⟩ (.int m) Grow.refl⟩) hs
/-- all(list of bools) -/
theorem wo_all (hc : X.calm = true) (hg : Gl X "all") (hm : X.mg "all" = none) (h : WO X a E fun o E1 => ∃ ns : List Bool, (o.get E1).bind D.lseq = some (ns.map D.bl) ∧ k (.val (.bl (ns.all id))) E1)
    (hs : starEach [a] X.env = (false, eval a X.env) :: starEach [] X.env := by rfl) : WO X (.Call (.Name "all" p) [a] [] pos) E k :=
  wo_b1 (pe_callB (cr_all hc) hg hm (by decide +kernel) pa_w (he := hs)) (WO.mono h fun o E1 ⟨ns, g1, kk⟩ => by
    cases g : o.get E1 with
    | none => rw [g] at g1; simp at g1
    | some d1 =>
      rw [g] at g1
      refine ⟨d1, rfl, _, fun Z H v G rv => GivesP.one fun Q q => ?_, fun d e => by rw [e]; exact kk⟩
      obtain ⟨x, vs, G', rfl, hs, rs⟩ := rv.lseq (by simpa using g1)
      have ev := rs.bls
      subst ev
      exact ⟨x, ns, rfl, hs, q _ H [] (.bl _) Grow.refl⟩) hs
/-- a tree's built-in class -/
def D.ty : D → Option String
  | .non => some "NoneType"
  | .bl _ => some "bool"
  | .int _ => some "int"
  | .str _ => some "str"
  | .tup _ => some "tuple"
  | .pt _ => some "tuple"
  | .lst _ => some "list"
  | .fz _ => some "list"
  | .dic _ _ => some "dict"
  | _ => none
theorem Rep.ty {K : PySem.W.Frag} {Z : Addr → Prop} {H : Hp} {d : D} {v : V} {G : List Addr} {t : String} (r : Rep K Z H d v G) (h : d.ty = some t) : TyX K H v (.type t) := by
  cases r <;> simp only [D.ty, Option.some.injEq, reduceCtorEq] at h <;> subst h
  case non => exact .base .non
  case bl => exact .base (.bl _)
  case int => exact .base (.int _)
  case str => exact .base (.str _)
  case tup hs _ =>
    rcases hs with (q | ⟨o, q⟩) | ⟨o, its, m, hk, hc, _⟩
    · exact .base (.tup q)
    · exact .fTuple q
    · exact .kTuple hk hc
  case pt hs _ _ => exact .fTuple hs
  case lst hs _ => exact .base (.lst hs)
  case fz hs _ =>
    rcases hs with ⟨_, (q | ⟨o, q⟩)⟩ | q
    · exact .base (.lst q)
    · exact .base (.frz q)
    · rcases q (fun _ => none) with (q | ⟨o, q⟩) | ⟨o, its, m, hk, hc, _⟩
      · cases q
      · cases q
      · exact .kList hk hc
  case dic hs _ _ => exact .base (.dK hs)
/-- isinstance(x, T), T a built-in class -/
theorem wo_isi {T : String} (hg : Gl X "isinstance") (hm : X.mg "isinstance" = none) (h : WO X a E fun o1 E1 => WO X b E1 fun o2 E2 => ∃ d t r, o1.get E2 = some d ∧ d.ty = some t ∧ o2 = .val (.op (.ty T)) ∧ kitB t T = some r ∧ k (.val (.bl r)) E2)
    (hs : starEach [a, b] X.env = (false, eval a X.env) :: starEach [b] X.env := by rfl) (hs2 : starEach [b] X.env = (false, eval b X.env) :: starEach [] X.env := by rfl) : WO X (.Call (.Name "isinstance" p) [a, b] [] pos) E k :=
  wo_b2 (pe_callB call_isi hg hm (by decide +kernel) pa_w (he := hs) (hpl := by rw [hs2]; rfl)) (WO.mono h fun o1 E1 q => WO.mono q fun o2 E2 ⟨d, t, r, g1, ht, g2, hb, kk⟩ => by
    subst g2
    exact ⟨d, .op (.ty T), g1, rfl, _, fun Z H v1 v2 G1 G2 r1 r2 => GivesP.one fun Q q => by
      cases r2
      exact ⟨v1, _, _, _, r, rfl, .ty T, r1.ty ht, kit_ty hb, q _ H [] (.bl _) Grow.refl⟩, fun d e => by rw [e]; exact kk⟩) hs hs2
end
end DL

namespace DL
open PySem PySem.Spec L2

section
variable {K : PySem.W.Frag} {Z Z1 Z2 Z' : Addr → Prop} {H H1 H2 H' : Hp} {F F1 F2 F' G Gt G1 G2 G' R Fd Fd' : List Addr} {σ : Sl} {E E1 E2 E' : EnvT} {d d1 d2 : D} {v v1 v2 : V} {ds ds' : List D} {vs vs' : List V} {a : Addr} {i : Nat} {o' : HO}
/-- what is owned may be changed -/
theorem Stp.upd (ha : a ∈ F) (hz : ¬ Z a) (hm : ∀ xs, ¬ Rd H a (.tup xs)) : Stp Z H F Z (upd H a o') F where
  z1 := fun _ h => h
  z2 := fun _ h => .inl h
  fr := fun b o e hb => by rw [upd_ne (fun q => hb (by rw [q]; exact ha))]; exact e
  th := fun b o e => by
    by_cases h : b = a
    · exact ⟨o', by rw [h]; exact upd_same⟩
    · exact ⟨o, by rw [upd_ne h]; exact e⟩
  f2 := fun _ h => .inl h
  tu := fun b xs h => by
    have hb : b ≠ a := fun q => hm xs (by rw [← q]; exact h)
    rcases h with h | ⟨o, h⟩
    · exact .inl (by rw [upd_ne hb]; exact h)
    · exact .inr ⟨o, by rw [upd_ne hb]; exact h⟩
  fl := fun b xs z h => by
    have hb : b ≠ a := fun q => hz (by rw [← q]; exact z)
    rcases h with h | ⟨o, h⟩
    · exact .inl (by rw [upd_ne hb]; exact h)
    · exact .inr ⟨o, by rw [upd_ne hb]; exact h⟩
  ft := fun b o xs h => by
    have hb : b ≠ a := fun q => hm xs (by rw [← q]; exact .inr ⟨o, h⟩)
    rw [upd_ne hb]
    exact h
/-- a slot's object changed in place: gen tells that the new tree stands -/
theorem EnvS.chg (e : EnvS K Z H E σ F) (hE : E[i]? = some (some d)) (hv : σ[i]? = some (some (.ref a))) (hr : Rep K Z H d (.ref a) (a :: Fd)) (hR : EnvR K Z H (E.set i none) σ R) (hp : F.Perm ((a :: Fd) ++ R)) (hm : ∀ xs, ¬ Rd H a (.tup xs))
    (nt : (Gt ++ F).Nodup) (nzt : ∀ x ∈ Gt, ¬ Z x) (hs : ∀ x ∈ Fd', x ∈ Fd ∨ x ∈ Gt) (hn : (a :: Fd').Nodup) (gen : Stp Z H (Gt ++ F) Z (L2.upd H a o') (Gt ++ F) → Rep K Z (L2.upd H a o') d1 (.ref a) (a :: Fd')) :
    ∃ F', EnvS K Z (L2.upd H a o') (E.set i (some d1)) σ F' ∧ Stp Z H (Gt ++ F) Z (L2.upd H a o') F' := by
  have nF := hp.nodup_iff.mp e.nd
  have nF' := List.nodup_append.mp nF
  have haF : a ∈ F := hp.mem_iff.mpr (List.mem_append_left _ List.mem_cons_self)
  have s0 : Stp Z H (Gt ++ F) Z (L2.upd H a o') (Gt ++ F) := Stp.upd (List.mem_append_right _ haF) (e.nz a haF) hm
  have s1 : Stp Z H [a] Z (L2.upd H a o') [a] := Stp.upd (by simp) (e.nz a haF) hm
  have hR' := hR.step s1 (fun x hx q => by
    rw [List.mem_singleton.mp q] at hx
    exact nF'.2.2 a List.mem_cons_self a hx rfl)
  obtain ⟨F', h1, h2⟩ := hR'.put (i := i) (d := d1) (v := .ref a) (G := a :: Fd') (by
    obtain ⟨hl, _⟩ := List.getElem?_eq_some_iff.mp hE
    simp [hl]) hv (gen s0)
  rw [List.set_set] at h1
  have sub : ∀ x ∈ a :: Fd', x ∈ Gt ∨ x ∈ a :: Fd := fun x hx => by
    rcases List.mem_cons.mp hx with q | q
    · exact .inr (by rw [q]; exact List.mem_cons_self)
    · exact (hs x q).elim (fun z => .inr (List.mem_cons_of_mem _ z)) .inl
  have inF : ∀ x ∈ F', x ∈ Gt ∨ x ∈ F := fun x hx => by
    rcases List.mem_append.mp (h2.mem_iff.mp hx) with q | q
    · exact (sub x q).imp_right fun z => hp.mem_iff.mpr (List.mem_append_left _ z)
    · exact .inr (hp.mem_iff.mpr (List.mem_append_right _ q))
  have nN : ((a :: Fd') ++ R).Nodup := List.nodup_append.mpr ⟨hn, nF'.2.1, fun x hx y hy q => by
    subst q
    rcases sub x hx with z | z
    · exact (List.nodup_append.mp nt).2.2 x z x (hp.mem_iff.mpr (List.mem_append_right _ hy)) rfl
    · exact nF'.2.2 x z x hy rfl⟩
  refine ⟨F', ⟨h1, h2.nodup_iff.mpr nN, fun x hx => (inF x hx).elim (nzt x) (e.nz x), fun x z => ?_⟩, s0.sub fun x hx => (inF x hx).elim (List.mem_append_left _) (List.mem_append_right _)⟩
  obtain ⟨o, q⟩ := e.zt x z
  exact s0.th x o q
/-- a list in a slot -/
theorem EnvS.lst (e : EnvS K Z H E σ F) (hE : E[i]? = some (some (.lst ds))) : ∃ a vs Fd R, σ[i]? = some (some (.ref a)) ∧ H a = some (.lst vs) ∧ Reps K Z H ds vs Fd ∧ EnvR K Z H (E.set i none) σ R ∧ F.Perm ((a :: Fd) ++ R) := by
  obtain ⟨v, G, R, h1, h2, h3, h4⟩ := e.r.get hE
  cases h2 with
  | lst hl rs => exact ⟨_, _, _, R, h1, hl, rs, h3, h4⟩
theorem lst_nt (h : H a = some (.lst vs)) : ∀ xs, ¬ Rd H a (.tup xs) := fun xs q => by
  rcases q with q | ⟨o, q⟩ <;> rw [h] at q <;> cases q
theorem EnvS.chgL (e : EnvS K Z H E σ F) (hE : E[i]? = some (some (.lst ds))) (hv : σ[i]? = some (some (.ref a))) (hl : H a = some (.lst vs)) (rs : Reps K Z H ds vs Fd) (hR : EnvR K Z H (E.set i none) σ R) (hp : F.Perm ((a :: Fd) ++ R))
    (nt : (Gt ++ F).Nodup) (nzt : ∀ x ∈ Gt, ¬ Z x) (hs : ∀ x ∈ Fd', x ∈ Fd ∨ x ∈ Gt) (hn : (a :: Fd').Nodup) (rs' : Reps K Z H ds' vs' Fd') :
    ∃ F', EnvS K Z (L2.upd H a (.lst vs')) (E.set i (some (.lst ds'))) σ F' ∧ Stp Z H (Gt ++ F) Z (L2.upd H a (.lst vs')) F' := by
  have haF : a ∈ F := hp.mem_iff.mpr (List.mem_append_left _ List.mem_cons_self)
  have s1 : Stp Z H [a] Z (L2.upd H a (.lst vs')) [a] := Stp.upd (by simp) (e.nz a haF) (lst_nt hl)
  exact e.chg hE hv (.lst hl rs) hR hp (lst_nt hl) nt nzt hs hn fun _ => .lst upd_same (rs'.step s1 fun x hx q => by
    rw [List.mem_singleton.mp q] at hx
    exact (List.nodup_cons.mp hn).1 hx)
end

section
variable {X : Cx} {n : Nat} {e a b c f : Expr} {es : List Expr} {E : EnvT} {k : Opd → EnvT → Prop} {pos apos p p2 : Pos} {i : Nat} {x : Str}
theorem pe_slot (hN : X.N[i]? = some x) (hv : Vis X.env.scope x := by first | exact Or.inl rfl | exact Or.inr (Or.inl rfl) | exact Or.inr (Or.inr rfl)) (hd : (x == ("__debug__" : Str)) = false := by decide) (hcd : (x == ("__classdict__" : Str)) = false := by decide) : PE X (.Name x p) (tVar i) := pe_var hN hv hd hcd
/-- x.append(e) -/
theorem wo_append (hN : X.N[i]? = some x) (hE : ∃ ds0, E[i]? = some (some (.lst ds0)))
    (h : WO X e E fun o E1 => ∃ d ds, o = .val d ∧ E1[i]? = some (some (.lst ds)) ∧ ds.length < 100000 ∧ k (.val .non) (E1.set i (some (.lst (ds ++ [d])))))
    (hp : PE X (.Name x p) (tVar i)) (hb : PE X (.Call (.Attribute (.Name x p) "append" apos) [e] [] pos) (tBM X.K "list" rAppend (tVar i) (wpA X [e]))) (hs : starEach [e] X.env = (false, eval e X.env) :: starEach [] X.env := by rfl) :
    WO X (.Call (.Attribute (.Name x p) "append" apos) [e] [] pos) E k := by
  intro Z H σ F Q he hk
  obtain ⟨ds0, hE⟩ := hE
  obtain ⟨a0, vs0, Fd0, R0, hv, hl0, _⟩ := he.lst hE
  refine wpE_by hb ⟨_, hv, .inl ⟨rfl, vs0, SqL.of hl0⟩, ?_⟩
  have hA : WA X [e] E fun os E1 => ∃ o, os = [o] ∧ ∃ d ds, o = .val d ∧ E1[i]? = some (some (.lst ds)) ∧ ds.length < 100000 ∧ k (.val .non) (E1.set i (some (.lst (ds ++ [d])))) := wa_cons (WO.mono h fun o E1 q => wa_nil ⟨o, rfl, q⟩) hs
  refine hA Z H σ F _ he fun os E1 Z1 H1 F1 G vs ⟨o, eo, d, ds, ed, hE1, hlen, kk⟩ f1 rs => ?_
  subst eo
  subst ed
  cases rs with
  | cons r1 rn =>
    cases rn
    rename_i w G1
    have f1' : Fin X.K Z H σ F E1 Z1 H1 F1 G1 := by have z := f1; rw [List.append_nil] at z; exact z
    obtain ⟨a1, vs1, Fd, R, hv1, hl1, rd, hR, hp1⟩ := f1.env.lst hE1
    rw [hv] at hv1
    cases hv1
    have hl := rd.len
    have nF := hp1.nodup_iff.mp f1'.env.nd
    have dis := (List.nodup_append.mp f1'.nd).2.2
    have hn : (a0 :: (Fd ++ G1)).Nodup := by
      have n1 := (List.nodup_append.mp nF).1
      refine List.nodup_cons.mpr ⟨fun hm => ?_, List.nodup_append.mpr ⟨(List.nodup_cons.mp n1).2, (List.nodup_append.mp f1'.nd).1, fun y hy z hz q => ?_⟩⟩
      · rcases List.mem_append.mp hm with m | m
        · exact (List.nodup_cons.mp n1).1 m
        · exact dis a0 m a0 (hp1.mem_iff.mpr (List.mem_append_left _ List.mem_cons_self)) rfl
      · subst q
        exact dis y hz y (hp1.mem_iff.mpr (List.mem_append_left _ (List.mem_cons_of_mem _ hy))) rfl
    obtain ⟨F', e2, s2⟩ := f1.env.chgL hE1 hv hl1 rd hR hp1 (Gt := G1) (Fd' := Fd ++ G1) f1'.nd f1'.nz (fun y hy => List.mem_append.mp hy) hn (rd.app (Reps.one r1))
    refine ⟨a0, vs1, w, rfl, rfl, hl1, Nat.lt_of_lt_of_le (by omega) (by decide : 100000 ≤ sizeLine), ?_⟩
    exact hk _ _ Z1 _ F' [] _ kk ⟨e2, e2.nd, (fun y hy => nomatch hy), f1'.st.trans s2⟩ .non
/-- x.insert(e, f), things that own nothing -/
theorem wo_insert (hE : ∃ ds0, E[i]? = some (some (.lst ds0)))
    (h : WO X e E fun o1 E1 => WO X f E1 fun o2 E2 => ∃ j d ds, o1.get E2 = some (.int j) ∧ o2 = .val d ∧ Imm d ∧ E2[i]? = some (some (.lst ds)) ∧ Imms ds ∧ ds.length < 100000 ∧ (0 ≤ j ∧ j < 2 ^ 63) ∧ k (.val .non) (E2.set i (some (.lst (ds.take j.toNat ++ [d] ++ ds.drop j.toNat)))))
    {rr : V → List V → Hp → VK → Prop} (hrr : rr = fun x vs H Q => ∃ (l : Addr) (xs : List V) (i : Int) (y : V), x = .ref l ∧ vs = [.int i, y] ∧ H l = some (.lst xs) ∧ xs.length < sizeLine ∧ 0 ≤ i ∧ i < 2 ^ 63 ∧ Q .non (upd H l (.lst (xs.take i.toNat ++ [y] ++ xs.drop i.toNat))))
    (hb : PE X (.Call (.Attribute (.Name x p) "insert" apos) [e, f] [] pos) (tBM X.K "list" rr (tVar i) (wpA X [e, f]))) (hs : starEach [e, f] X.env = (false, eval e X.env) :: starEach [f] X.env := by rfl) (hs2 : starEach [f] X.env = (false, eval f X.env) :: starEach [] X.env := by rfl) :
    WO X (.Call (.Attribute (.Name x p) "insert" apos) [e, f] [] pos) E k := by
  intro Z H σ F Q he hk
  obtain ⟨ds0, hE⟩ := hE
  obtain ⟨a0, vs0, Fd0, R0, hv, hl0, _⟩ := he.lst hE
  refine wpE_by hb ⟨_, hv, .inl ⟨rfl, vs0, SqL.of hl0⟩, ?_⟩
  have hA : WA X [e, f] E fun os E2 => ∃ o1 o2, os = [o1, o2] ∧ ∃ j d ds, o1.get E2 = some (.int j) ∧ o2 = .val d ∧ Imm d ∧ E2[i]? = some (some (.lst ds)) ∧ Imms ds ∧ ds.length < 100000 ∧ (0 ≤ j ∧ j < 2 ^ 63) ∧ k (.val .non) (E2.set i (some (.lst (ds.take j.toNat ++ [d] ++ ds.drop j.toNat)))) :=
    wa_cons (WO.mono h fun o1 E1 q => wa_cons (WO.mono q fun o2 E2 q => wa_nil ⟨o1, o2, rfl, q⟩) hs2) hs
  refine hA Z H σ F _ he fun os E1 Z1 H1 F1 G vs ⟨o1, o2, eo, j, d, ds, g1, ed, im, hE1, ims, hlen, hj, kk⟩ f1 rs => ?_
  subst eo
  subst ed
  cases rs with
  | cons r1 rn =>
    cases rn with
    | cons r2 rn =>
      cases rn
      rename_i w1 G1 w2 G2
      obtain ⟨Gj, rj, _⟩ := r1.use f1.env g1
      cases rj
      obtain ⟨a1, vs1, Fd, R, hv1, hl1, rd, hR, hp1⟩ := f1.env.lst hE1
      rw [hv] at hv1
      cases hv1
      have hl := rd.len
      have rd0 := rd.nils ims
      have r20 : Rep X.K Z1 H1 d w2 [] := Rep.nils r2 im
      obtain ⟨Ga, ra, _⟩ := rd0.take j.toNat
      obtain ⟨Gb, rb, _⟩ := rd0.drop j.toNat
      have ra0 := ra.nils (imms_iff.mpr fun d hd => imms_iff.mp ims d (List.take_subset _ _ hd))
      have rb0 := rb.nils (imms_iff.mpr fun d hd => imms_iff.mp ims d (List.drop_subset _ _ hd))
      obtain ⟨F', e2, s2⟩ := f1.env.chgL hE1 hv hl1 rd hR hp1 (Gt := []) (Fd' := []) f1.env.nd (fun y hy => nomatch hy) (fun y hy => nomatch hy) (by simp) ((ra0.app (Reps.one r20)).app rb0)
      subst hrr
      refine ⟨a0, vs1, j, w2, rfl, rfl, hl1, Nat.lt_of_lt_of_le (by omega) (by decide : 100000 ≤ sizeLine), hj.1, hj.2, ?_⟩
      exact hk _ _ Z1 _ F' [] _ kk ⟨e2, e2.nd, (fun y hy => nomatch hy), f1.nil.st.trans s2⟩ .non
/-- x.pop() -/
theorem wo_pop {ds : List D} {d : D} (hE : E[i]? = some (some (.lst ds))) (hd : ds[ds.length - 1]? = some d) (hi : Imms ds) (h : k (.val d) (E.set i (some (.lst ds.dropLast))))
    (hb : PE X (.Call (.Attribute (.Name x p) "pop" apos) [] [] pos) (tBM0 X.K "list" rPop (tVar i))) : WO X (.Call (.Attribute (.Name x p) "pop" apos) [] [] pos) E k := by
  intro Z H σ F Q he hk
  obtain ⟨a0, vs, Fd, R, hv, hl0, rd, hR, hp⟩ := he.lst hE
  have rd0 := rd.nils hi
  have hl := rd.len
  obtain ⟨v, G', hv1, rv, _⟩ := rd0.get hd
  refine wpE_by hb ⟨_, hv, .inl ⟨rfl, vs, SqL.of hl0⟩, ?_⟩
  rw [hl] at hv1
  have e1 : ds.dropLast = ds.take (ds.length - 1) := List.dropLast_eq_take
  have e2 : vs.dropLast = vs.take (ds.length - 1) := by rw [hl]; exact List.dropLast_eq_take
  obtain ⟨Ga, ra, _⟩ := rd0.take (ds.length - 1)
  rw [← e1, ← e2] at ra
  have im : Imms ds.dropLast := imms_iff.mpr fun d hd => imms_iff.mp hi d (List.dropLast_subset _ hd)
  obtain ⟨F', e3, s3⟩ := he.chgL hE hv hl0 rd hR hp (Gt := []) (Fd' := []) he.nd (fun y hy => nomatch hy) (fun y hy => nomatch hy) (by simp) (ra.nils im)
  refine ⟨a0, vs, v, rfl, rfl, hl0, hv1, ?_⟩
  have s4 : Stp Z H F Z (upd H a0 (.lst vs.dropLast)) F' := s3
  exact hk _ _ Z _ F' [] v h ⟨e3, e3.nd, (fun y hy => nomatch hy), s4⟩ ((rv.nils (imms_get hi hd)).step s4 fun y hy => nomatch hy)
/-- x.index(e) of a list -/
theorem wo_index {o : Expr} (h : WO X o E fun o1 E1 => ∃ ds0, (o1.get E1).bind D.lseq = some ds0 ∧ WO X e E1 fun o2 E2 => ∃ ds d j z, (o1.get E2).bind D.lseq = some ds ∧ o2.get E2 = some d ∧ flatD d = true ∧ ds.all flatD = true ∧ ds[j]? = some z ∧ deq z d = true ∧
      (∀ (m : Nat) (z' : D), m < j → ds[m]? = some z' → deq z' d = false) ∧ k (.val (.int (j : Nat))) E2)
    (hb : PE X (.Call (.Attribute o "index" apos) [e] [] pos) (tBM X.K "list" (rIndex X.K) (wpE X o) (wpA X [e]))) (hs : starEach [e] X.env = (false, eval e X.env) :: starEach [] X.env := by rfl) :
    WO X (.Call (.Attribute o "index" apos) [e] [] pos) E k := by
  intro Z H σ F Q he hk
  refine wpE_by hb (h Z H σ F _ he fun o1 E1 Z1 H1 F1 G1 v1 ⟨ds0, g0, q⟩ f1 r1 => ?_)
  obtain ⟨d0, gd0, gs0⟩ : ∃ d0, o1.get E1 = some d0 ∧ d0.lseq = some ds0 := by
    cases g : o1.get E1 with
    | none => rw [g] at g0; simp at g0
    | some d0 => rw [g] at g0; exact ⟨d0, rfl, by simpa using g0⟩
  obtain ⟨G0, rr0, _⟩ := r1.use f1.env gd0
  obtain ⟨a0, vs0, G0', ev, hs0, rs0⟩ := rr0.lseq gs0
  refine ⟨by rw [ev]; exact .inl ⟨rfl, vs0, hs0⟩, ?_⟩
  have hA : WA X [e] E1 fun os E2 => ∃ o2, os = [o2] ∧ ∃ ds d j z, (o1.get E2).bind D.lseq = some ds ∧ o2.get E2 = some d ∧ flatD d = true ∧ ds.all flatD = true ∧ ds[j]? = some z ∧ deq z d = true ∧
      (∀ (m : Nat) (z' : D), m < j → ds[m]? = some z' → deq z' d = false) ∧ k (.val (.int (j : Nat))) E2 := wa_cons (WO.mono q fun o E2 q => wa_nil ⟨o, rfl, q⟩) hs
  refine hA Z1 H1 σ F1 _ f1.env fun os E2 Z2 H2 F2 G2 ws ⟨o2, eo, ds, d, j, z, g1, g2, fl, fls, hz, hzd, hno, kk⟩ f2 rs => ?_
  subst eo
  cases rs with
  | cons r2 rn =>
    cases rn
    rename_i w2 G3
    have r1' := r1.step f2.st (f1.off r1.mem f2)
    obtain ⟨d1, gd1, gs1⟩ : ∃ d1, o1.get E2 = some d1 ∧ d1.lseq = some ds := by
      cases g : o1.get E2 with
      | none => rw [g] at g1; simp at g1
      | some d1 => rw [g] at g1; exact ⟨d1, rfl, by simpa using g1⟩
    obtain ⟨G4, rr1, _⟩ := r1'.use f2.env gd1
    obtain ⟨a1, vs, G4', ev1, hs1, rs1⟩ := rr1.lseq gs1
    obtain ⟨G5, rr2, _⟩ := r2.use f2.env g2
    obtain ⟨vz, G6, hvz, rz, _⟩ := rs1.get hz
    have flt := rr2.flat fl
    have fz : ∀ (m : Nat) (z' : D), ds[m]? = some z' → flatD z' = true := fun m z' hm => List.all_eq_true.mp fls z' (List.mem_of_getElem? hm)
    refine ⟨a1, vs, w2, j, vz, ev1, rfl, hs1, flt.1, (Reps.flat rr2 fl rs1 fls).1, hvz, ?_, fun m y hm hy => ?_, ?_⟩
    · rw [flt.2 z vz G6 rz (fz j z hz)]
      exact hzd
    · have hml : m < ds.length := by
        have q1 := (List.getElem?_eq_some_iff.mp hy).1
        have q2 := rs1.len
        omega
      obtain ⟨vy, G7, hvy, ry, _⟩ := rs1.get (i := m) (d := ds[m]) (List.getElem?_eq_getElem hml)
      rw [hy] at hvy
      cases hvy
      rw [flt.2 _ y G7 ry (fz m _ (List.getElem?_eq_getElem hml))]
      exact hno m _ hm (List.getElem?_eq_getElem hml)
    · exact hk _ E2 Z2 H2 F2 [] _ kk (f1.then f2).nil (.int _)
end
end DL

namespace DL
open PySem PySem.Spec L2

/-! ### while -/
section
variable {X : Cx} {n : List Nat} {e a b c f : Expr} {es : List Expr} {body : List Stmt} {E : EnvT} {k : KS} {pos p : Pos} {tg iter : Expr}
theorem ws_while (hp : PassesOwn (model X.prog X.w) X.A X.env X.xe) (I : Nat → EnvT → Prop) (h0 : ∃ m, I m E)
    (h : ∀ m E', I m E' → WT X c E' fun t E1 => (t = true → WSs X n body E1 { nx := fun E2 => ∃ m', m' < m ∧ I m' E2, rt := k.rt, bk := k.nx, ct := fun E2 => ∃ m', m' < m ∧ I m' E2 }) ∧ (t = false → k.nx E1)) : WS X n (.While c body [] pos) E k := by
  intro Z H σ F D he hk
  obtain ⟨m0, h0⟩ := h0
  refine wpS_by (ps_while hp pt_w pss_w) ?_
  refine ⟨fun m σ' H' => ∃ E' Z' F', I m E' ∧ FinS X.K n Z H σ F E' Z' H' σ' F' [], ⟨m0, E, Z, F, h0, (Fin.refl he).toS⟩, ?_⟩
  rintro m σ1 H1 ⟨E1, Z1, F1, i1, f1⟩
  refine h m E1 i1 Z1 H1 σ1 F1 _ f1.env fun t E2 Z2 H2 F2 q f2 => ?_
  have f12 := f1.trans (f2.toS (n := n))
  cases t with
  | false => exact hk.nx E2 Z2 H2 σ1 F2 (q.2 rfl) f12
  | true =>
    refine ⟨fun σ' H' => ∃ m', m' < m ∧ ∃ E' Z' F', I m' E' ∧ FinS X.K n Z H σ F E' Z' H' σ' F' [], fun σ' H' q => q, ?_⟩
    refine q.1 rfl Z2 H2 σ1 F2 _ f2.env ⟨fun E3 Z3 H3 σ3 F3 ⟨m', lt, i3⟩ f3 => ⟨m', lt, E3, Z3, F3, i3, f12.trans f3⟩, fun d v E3 Z3 H3 σ3 F3 G q3 f3 r3 => hk.rt d v E3 Z3 H3 σ3 F3 G q3 (f12.trans f3) r3, fun E3 Z3 H3 σ3 F3 q3 f3 => hk.nx E3 Z3 H3 σ3 F3 q3 (f12.trans f3), fun E3 Z3 H3 σ3 F3 ⟨m', lt, i3⟩ f3 => ⟨m', lt, E3, Z3, F3, i3, f12.trans f3⟩⟩
end

/-! ### what a loop walks -/
/-- m turns, the j-th gives the tree src j -/
structure SrcOk (K : PySem.W.Frag) (J : It) (m : Nat) (src : Nat → D) (Gp : (Addr → Prop) → Hp → Prop) : Prop where
  goes : ∀ Z i H, i < m → Gp Z H → J.go i H
  stops : ∀ Z H, Gp Z H → J.stop m H
  gives : ∀ Z i H x H', i < m → Gp Z H → J.yld i H x H' → Rep K Z H' (src i) x [] ∧ Grow H H' []
/-- what keeps the walked thing: steps, where the watched slots hold what they held -/
def Stay (K : PySem.W.Frag) (w : List (Nat × D)) (Z : Addr → Prop) (H : Hp) (σ : Sl) (F : List Addr) (Gp : (Addr → Prop) → Hp → Prop) : Prop :=
  ∀ E' Z' H' σ' F' G, FinS K (w.map (·.1)) Z H σ F E' Z' H' σ' F' G → (∀ p ∈ w, E'[p.1]? = some (some p.2)) → Gp Z' H'
def wpI (X : Cx) (tg iter : Expr) (σ : Sl) (H : Hp) (R : It → Hp → Prop) : Prop := ∀ (pins : List (Addr × Obj)) (s : Shared), Inv X pins σ H s →
  wpAny (model X.prog X.w) X.A (eval iter X.env) (fun v s1 => wpAny (model X.prog X.w) X.A (pyIter v) (PIE X pins σ tg R) X.xe s1) X.xe s
def WI (X : Cx) (tg iter : Expr) (E : EnvT) (k : List (Nat × D) → Nat → (Nat → D) → EnvT → Prop) : Prop := ∀ (Z : Addr → Prop) (H : Hp) (σ : Sl) (F : List Addr) (R : It → Hp → Prop), EnvS X.K Z H E σ F →
  (∀ w m src E' Z' H' F' J Gp G, k w m src E' → Fin X.K Z H σ F E' Z' H' F' G → SrcOk X.K J m src Gp → Gp Z' H' → Stay X.K w Z' H' σ F' Gp → R J H') → wpI X tg iter σ H R
section
variable {X : Cx} {n : List Nat} {e a b c f : Expr} {es : List Expr} {body : List Stmt} {E : EnvT} {pos p : Pos} {tg iter : Expr}
theorem pi_w : PI X tg iter (wpI X tg iter) := ⟨fun pins s σ H R I h => h pins s I⟩
theorem wpI_by {t : TI} {σ : Sl} {H : Hp} {R : It → Hp → Prop} (h : PI X tg iter t) (q : t σ H R) : wpI X tg iter σ H R := fun pins s I => h.run pins s σ H R I q
/-- for over anything, by a word of the turn and the slots -/
theorem ws_for {k : KS} (hp : PassesOwn (model X.prog X.w) X.A X.env X.xe) (hc : X.calm = true)
    (h : WI X tg iter E fun w m src E1 => ∃ I : Nat → EnvT → Prop, I 0 E1 ∧ (∀ j E', j ≤ m → I j E' → ∀ p ∈ w, E'[p.1]? = some (some p.2)) ∧
      (∀ j E', j < m → I j E' → WG X (w.map (·.1) ++ n) tg (src j) E' fun E2 => WSs X (w.map (·.1) ++ n) body E2 { nx := I (j + 1), rt := k.rt, bk := k.nx, ct := I (j + 1) }) ∧ ∀ E', I m E' → k.nx E')
    (hs : ∀ x, foldedSetIterable iter X.env x = pure x := by intro _; rfl) : WS X n (.For tg iter body [] pos) E k := by
  intro Z H σ F D he hk
  refine wpS_by (ps_for hp hc pi_w pg_w pss_w hs) (h Z H σ F _ he fun w m src E1 Z1 H1 F1 J Gp G ⟨I, i0, iw, step, fin⟩ f1 ok g1 stay => ?_)
  have f10 := f1.nil
  have pn : ∀ {σ' : Sl}, Pin (w.map (·.1) ++ n) σ σ' → Pin n σ σ' := fun h => h.sub fun i hi => List.mem_append_right _ hi
  have lower : ∀ {E' Z' H' σ' F' G'}, FinS X.K (w.map (·.1) ++ n) Z1 H1 σ F1 E' Z' H' σ' F' G' → FinS X.K n Z H σ F E' Z' H' σ' F' G' := fun q => ⟨q.env, q.nd, q.nz, f10.st.trans q.st, pn q.pin⟩
  have gp : ∀ {j E' Z' H' σ' F'}, j ≤ m → I j E' → FinS X.K (w.map (·.1) ++ n) Z1 H1 σ F1 E' Z' H' σ' F' [] → Gp Z' H' := fun hj ij q => stay _ _ _ _ _ _ ⟨q.env, q.nd, q.nz, q.st, q.pin.sub fun i hi => List.mem_append_left _ hi⟩ (iw _ _ hj ij)
  refine ⟨fun i l σ' H' => l = m - i ∧ i ≤ m ∧ ∃ E' Z' F', I i E' ∧ FinS X.K (w.map (·.1) ++ n) Z1 H1 σ F1 E' Z' H' σ' F' [], ⟨m, by simp, Nat.zero_le _, E1, Z1, F1, i0, ⟨f10.env, f10.nd, f10.nz, Stp.refl, Pin.refl⟩⟩, ?_⟩
  rintro i l σ2 H2 ⟨rfl, hi, E2, Z2, F2, i2, f2⟩
  have gp2 := gp hi i2 f2
  by_cases hlt : i < m
  · refine .inr ⟨ok.goes Z2 i H2 hlt gp2, fun σ' H' => ∃ E' Z' F', I (i + 1) E' ∧ FinS X.K (w.map (·.1) ++ n) Z1 H1 σ F1 E' Z' H' σ' F' [], fun σ' H' q => ⟨m - (i + 1), by omega, rfl, hlt, q⟩, fun x H3 y => ?_⟩
    obtain ⟨rx, gr⟩ := ok.gives Z2 i H2 x H3 hlt gp2 y
    have e3 : EnvS X.K Z2 H3 E2 σ2 F2 := ⟨f2.env.r.kp gr.kp fun a _ o e => gr.gr a o e, f2.env.nd, f2.env.nz, fun a z => let ⟨o, e⟩ := f2.env.zt a z; ⟨o, gr.gr a o e⟩⟩
    have f3 : FinS X.K (w.map (·.1) ++ n) Z1 H1 σ F1 E2 Z2 H3 σ2 F2 [] := ⟨e3, e3.nd, (fun a h => nomatch h), f2.st.trans gr.st, f2.pin⟩
    refine step i E2 hlt i2 Z2 H3 σ2 F2 [] x _ e3 rx e3.nd (fun a h => nomatch h) fun E4 Z4 H4 σ4 F4 q4 f4 => ?_
    have f34 := f3.trans (show FinS X.K (w.map (·.1) ++ n) Z2 H3 σ2 F2 E4 Z4 H4 σ4 F4 [] from f4)
    refine q4 Z4 H4 σ4 F4 _ f4.env ⟨fun E5 Z5 H5 σ5 F5 q5 f5 => ⟨E5, Z5, F5, q5, f34.trans f5⟩, fun d v E5 Z5 H5 σ5 F5 G5 q5 f5 r5 => hk.rt d v E5 Z5 H5 σ5 F5 G5 q5 (lower (f34.trans f5)) r5,
      fun E5 Z5 H5 σ5 F5 q5 f5 => hk.nx E5 Z5 H5 σ5 F5 q5 (lower (f34.trans f5)), fun E5 Z5 H5 σ5 F5 q5 f5 => ⟨E5, Z5, F5, q5, f34.trans f5⟩⟩
  · have e : i = m := by omega
    subst e
    exact .inl ⟨ok.stops Z2 H2 gp2, hk.nx E2 Z2 H2 σ2 F2 (fin E2 i2) (lower f2)⟩

/-! ### sources -/
theorem seq_of {o : Opd} {ds : List D} {g : D → Option (List D)} (h : (o.get E).bind g = some ds) : ∃ d, o.get E = some d ∧ g d = some ds := by
  cases e : o.get E with
  | none => rw [e] at h; simp at h
  | some d => rw [e] at h; exact ⟨d, rfl, by simpa using h⟩
theorem getD_some {ds : List D} {i : Nat} {d : D} (h : ds[i]? = some d) : ds.getD i .non = d := by rw [List.getD_eq_getElem?_getD, h]; rfl
theorem SqT.stp {K : PySem.W.Frag} {Z Z' : Addr → Prop} {H H' : Hp} {F F' : List Addr} {a : Addr} {vs : List V} (s : Stp Z H F Z' H' F') (h : SqT K H a vs) : SqT K H' a vs := SqT.kp s.tu h
theorem wi_tup {k : List (Nat × D) → Nat → (Nat → D) → EnvT → Prop} (h : WO X iter E fun o E1 => ∃ ds, (o.get E1).bind D.tseq = some ds ∧ Imms ds ∧ k [] ds.length (fun i => ds.getD i .non) E1) : WI X tg iter E k := by
  intro Z H σ F R he hk
  refine wpI_by (pi_tup pe_w) (h Z H σ F _ he fun o E1 Z1 H1 F1 G v ⟨ds, g1, im, kk⟩ f1 r1 => ?_)
  obtain ⟨d1, gd, gs⟩ := seq_of g1
  obtain ⟨G', r', _⟩ := r1.use f1.env gd
  obtain ⟨a, vs, rfl, hs, rs⟩ := r'.tseq gs
  have rs0 := rs.nils im
  have hl := rs0.len
  have wk := walk_tup (K := X.K) (a := a) (xs := vs)
  refine ⟨a, rfl, ⟨vs, hs⟩, hk [] ds.length _ E1 Z1 H1 F1 _ (fun Z' H' => SqT X.K H' a vs ∧ Reps X.K Z' H' ds vs []) [] kk f1.nil ⟨fun Z' i H' hi q => wk.goes i H' (by omega) q.1, fun Z' H' q => by rw [hl]; exact wk.stops H' q.1, fun Z' i H' x H'' hi q y => ?_⟩ ⟨hs, rs0⟩ fun E' Z' H' σ' F' G fs _ => ⟨SqT.stp fs.st hs, rs0.step fs.st fun a h => nomatch h⟩⟩
  obtain ⟨e, hx⟩ := wk.yields i H' x H'' (by omega) q.1 y
  subst e
  obtain ⟨w, G3, hw, rw', _⟩ := q.2.get (i := i) (d := ds[i]) (List.getElem?_eq_getElem hi)
  rw [hx] at hw
  cases hw
  rw [getD_some (List.getElem?_eq_getElem hi)]
  exact ⟨rw'.nils (imms_get im (List.getElem?_eq_getElem hi)), Grow.refl⟩
/-- what must stand still while a list is walked -/
def watch (E : EnvT) : Opd → List (Nat × D)
  | .val _ => []
  | .bor i => [(i, (E[i]?.join).getD .non)]
/-- a list of things that own nothing, in a slot or just made -/
theorem wi_lst {k : List (Nat × D) → Nat → (Nat → D) → EnvT → Prop} (h : WO X iter E fun o E1 => ∃ ds, (o.get E1).bind D.lseq = some ds ∧ Imms ds ∧ k (watch E1 o) ds.length (fun i => ds.getD i .non) E1) : WI X tg iter E k := by
  intro Z H σ F R he hk
  refine wpI_by (pi_list pe_w) (h Z H σ F _ he fun o E1 Z1 H1 F1 G v ⟨ds, g1, im, kk⟩ f1 r1 => ?_)
  obtain ⟨d1, gd, gs⟩ := seq_of g1
  obtain ⟨G', r', _⟩ := r1.use f1.env gd
  obtain ⟨a, vs, G3, rfl, hs, rs⟩ := r'.lseq gs
  have rs0 := rs.nils im
  refine ⟨a, rfl, ⟨vs, hs⟩, hk (watch E1 o) ds.length _ E1 Z1 H1 F1 _ (fun Z' H' => ∃ vs, SqL X.K H' a vs ∧ Reps X.K Z' H' ds vs []) [] kk f1.nil ⟨fun Z' i H' hi ⟨ws, q1, q2⟩ => ?_, fun Z' H' ⟨ws, q1, q2⟩ => ⟨ws, q1, by rw [q2.len]; exact Nat.le_refl _⟩, fun Z' i H' x H'' hi ⟨ws, q1, q2⟩ y => ?_⟩ ⟨vs, hs, rs0⟩ fun E' Z' H' σ' F' G4 fs hE => ?_⟩
  · obtain ⟨w, _, hw, _, _⟩ := q2.get (i := i) (d := ds[i]) (List.getElem?_eq_getElem hi)
    exact ⟨ws, w, q1, hw⟩
  · obtain ⟨e, hx⟩ := y
    subst e
    obtain ⟨w, G3, hw, rw', _⟩ := q2.get (i := i) (d := ds[i]) (List.getElem?_eq_getElem hi)
    rw [hx ws q1] at hw
    cases hw
    rw [getD_some (List.getElem?_eq_getElem hi)]
    exact ⟨rw'.nils (imms_get im (List.getElem?_eq_getElem hi)), Grow.refl⟩
  · cases o with
    | val d2 =>
      cases gd
      have hr : Rep X.K Z' H' d1 (.ref a) G := Rep.step fs.st r1 fun x hx hf => (List.nodup_append.mp f1.nd).2.2 x hx x hf rfl
      obtain ⟨a2, vs2, G5, e2, hs2, rs2⟩ := hr.lseq gs
      cases e2
      exact ⟨vs2, hs2, rs2.nils im⟩
    | bor i =>
      have hg : E1[i]?.join = some d1 := gd
      have hv : σ[i]? = some (some (.ref a)) := r1.1
      have hi' := hE (i, (E1[i]?.join).getD .non) (by simp [watch])
      rw [hg] at hi'
      obtain ⟨v2, G5, R5, h1, h2, _⟩ := fs.env.r.get (i := i) (d := d1) hi'
      have hp : σ'[i]? = σ[i]? := fs.pin i (by simp [watch])
      rw [hp, hv] at h1
      cases h1
      obtain ⟨a2, vs2, G6, e2, hs2, rs2⟩ := h2.lseq gs
      cases e2
      exact ⟨vs2, hs2, rs2.nils im⟩
theorem wi_range1 {k : List (Nat × D) → Nat → (Nat → D) → EnvT → Prop} (hg : Gl X "range") (hm : X.mg "range" = none) (h : WO X a E fun o E1 => ∃ j : Int, o.get E1 = some (.int j) ∧ (-(2 ^ 62) ≤ j ∧ j < 2 ^ 62) ∧ k [] j.toNat (fun i => .int (0 + (i : Int))) E1)
    (hs : starEach [a] X.env = [(false, eval a X.env)] := by rfl) (hs2 : starEach [a] X.env = (false, eval a X.env) :: starEach [] X.env := by rfl) : WI X tg (.Call (.Name "range" p) [a] [] pos) E k := by
  intro Z H σ F R he hk
  have hA : WA X [a] E fun os E1 => ∃ o, os = [o] ∧ ∃ j : Int, o.get E1 = some (.int j) ∧ (-(2 ^ 62) ≤ j ∧ j < 2 ^ 62) ∧ k [] j.toNat (fun i => .int (0 + (i : Int))) E1 := wa_cons (WO.mono h fun o E1 q => wa_nil ⟨o, rfl, q⟩) hs2
  refine wpI_by (pi_range1 hg hm pa_w hs) (hA Z H σ F _ he fun os E1 Z1 H1 F1 G vs ⟨o, eo, j, g, hj, kk⟩ f1 rs => ?_)
  subst eo
  cases rs with
  | cons r1 rn =>
    cases rn
    obtain ⟨G', r', _⟩ := r1.use f1.env g
    cases r'
    have wk := walk_range (lo := 0) (n := j.toNat)
    refine ⟨j, rfl, hj.1, hj.2, hk [] j.toNat _ E1 Z1 H1 F1 _ (fun _ _ => True) [] kk f1.nil ⟨fun _ i H' hi q => wk.goes i H' hi trivial, fun _ H' q => wk.stops H' trivial, fun Z' i H' x H'' hi q y => ?_⟩ trivial fun _ _ _ _ _ _ _ _ => trivial⟩
    obtain ⟨e, hx⟩ := wk.yields i H' x H'' hi trivial y
    subst e hx
    exact ⟨.int _, Grow.refl⟩
theorem wi_range2 {k : List (Nat × D) → Nat → (Nat → D) → EnvT → Prop} (hg : Gl X "range") (hm : X.mg "range" = none) (h : WO X a E fun o1 E1 => WO X b E1 fun o2 E2 => ∃ l j : Int, o1.get E2 = some (.int l) ∧ o2.get E2 = some (.int j) ∧ (-(2 ^ 62) ≤ l ∧ l < 2 ^ 62 ∧ -(2 ^ 62) ≤ j ∧ j < 2 ^ 62) ∧ k [] (j - l).toNat (fun i => .int (l + (i : Int))) E2)
    (hs : starEach [a, b] X.env = [(false, eval a X.env), (false, eval b X.env)] := by rfl) (hs3 : starEach [b] X.env = [(false, eval b X.env)] := by rfl) (hs2 : starEach [a, b] X.env = (false, eval a X.env) :: starEach [b] X.env := by rfl) (hs4 : starEach [b] X.env = (false, eval b X.env) :: starEach [] X.env := by rfl) :
    WI X tg (.Call (.Name "range" p) [a, b] [] pos) E k := by
  intro Z H σ F R he hk
  have hA : WA X [a, b] E fun os E2 => ∃ o1 o2, os = [o1, o2] ∧ ∃ l j : Int, o1.get E2 = some (.int l) ∧ o2.get E2 = some (.int j) ∧ (-(2 ^ 62) ≤ l ∧ l < 2 ^ 62 ∧ -(2 ^ 62) ≤ j ∧ j < 2 ^ 62) ∧ k [] (j - l).toNat (fun i => .int (l + (i : Int))) E2 :=
    wa_cons (WO.mono h fun o1 E1 q => wa_cons (WO.mono q fun o2 E2 q => wa_nil ⟨o1, o2, rfl, q⟩) hs4) hs2
  refine wpI_by (pi_range2 hg hm pa_w hs hs3) (hA Z H σ F _ he fun os E1 Z1 H1 F1 G vs ⟨o1, o2, eo, l, j, g1, g2, hj, kk⟩ f1 rs => ?_)
  subst eo
  cases rs with
  | cons r1 rn =>
    cases rn with
    | cons r2 rn =>
      cases rn
      obtain ⟨G1, r1', _⟩ := r1.use f1.env g1
      obtain ⟨G2, r2', _⟩ := r2.use f1.env g2
      cases r1'
      cases r2'
      have wk := walk_range (lo := l) (n := (j - l).toNat)
      refine ⟨l, j, rfl, hj, hk [] (j - l).toNat _ E1 Z1 H1 F1 _ (fun _ _ => True) [] kk f1.nil ⟨fun _ i H' hi q => wk.goes i H' hi trivial, fun _ H' q => wk.stops H' trivial, fun Z' i H' x H'' hi q y => ?_⟩ trivial fun _ _ _ _ _ _ _ _ => trivial⟩
      obtain ⟨e, hx⟩ := wk.yields i H' x H'' hi trivial y
      subst e hx
      exact ⟨.int _, Grow.refl⟩
/-- two tuples, or two lists just made, side by side -/
theorem wi_zipT {k : List (Nat × D) → Nat → (Nat → D) → EnvT → Prop} {elts : List Expr} {kk : Nat} {tpos : Pos} (hg : Gl X "zip") (hm : X.mg "zip" = none) (h : WO X a E fun o1 E1 => WO X b E1 fun o2 E2 => ∃ ds es, (o1.get E2).bind D.tseq = some ds ∧ (o2.get E2).bind D.tseq = some es ∧ Imms ds ∧ Imms es ∧
      k [] (min ds.length es.length) (fun i => .tup [ds.getD i .non, es.getD i .non]) E2)
    (hs2 : starEach [a, b] X.env = (false, eval a X.env) :: starEach [b] X.env := by rfl) (hs4 : starEach [b] X.env = (false, eval b X.env) :: starEach [] X.env := by rfl) :
    WI X (.Tuple elts kk tpos) (.Call (.Name "zip" p) [a, b] [] pos) E k := by
  intro Z H σ F R he hk
  have hA : WA X [a, b] E fun os E2 => ∃ o1 o2, os = [o1, o2] ∧ ∃ ds es, (o1.get E2).bind D.tseq = some ds ∧ (o2.get E2).bind D.tseq = some es ∧ Imms ds ∧ Imms es ∧ k [] (min ds.length es.length) (fun i => .tup [ds.getD i .non, es.getD i .non]) E2 :=
    wa_cons (WO.mono h fun o1 E1 q => wa_cons (WO.mono q fun o2 E2 q => wa_nil ⟨o1, o2, rfl, q⟩) hs4) hs2
  refine wpI_by (RZ.pi_zipA hg hm pa_w hs2 (by rw [hs4]; rfl)) (hA Z H σ F _ he fun os E1 Z1 H1 F1 G vs ⟨o1, o2, eo, ds, es, g1, g2, i1, i2, kk⟩ f1 rs => ?_)
  subst eo
  cases rs with
  | cons r1 rn =>
    cases rn with
    | cons r2 rn =>
      cases rn
      obtain ⟨d1, gd1, gs1⟩ := seq_of g1
      obtain ⟨d2, gd2, gs2⟩ := seq_of g2
      obtain ⟨G1, r1', _⟩ := r1.use f1.env gd1
      obtain ⟨G2, r2', _⟩ := r2.use f1.env gd2
      obtain ⟨x, xs, rfl, hx, rx⟩ := r1'.tseq gs1
      obtain ⟨y, ys, rfl, hy, ry⟩ := r2'.tseq gs2
      have rx0 := rx.nils i1
      have ry0 := ry.nils i2
      have lx := rx0.len
      have ly := ry0.len
      refine ⟨x, y, xs, ys, rfl, .inr ⟨hx, hy, hk [] _ _ E1 Z1 H1 F1 _ (fun Z' H' => SqT X.K H' x xs ∧ SqT X.K H' y ys ∧ Reps X.K Z' H' ds xs [] ∧ Reps X.K Z' H' es ys []) [] kk f1.nil ⟨fun _ i H' hi q => ?_, fun _ H' q => ⟨xs, ys, q.1, q.2.1, by omega⟩, fun Z' i H' v H'' hi q yv => ?_⟩ ⟨hx, hy, rx0, ry0⟩ fun E' Z' H' σ' F' G fs _ => ⟨SqT.stp fs.st hx, SqT.stp fs.st hy, rx0.step fs.st fun a h => (nomatch h), ry0.step fs.st fun a h => nomatch h⟩⟩⟩
      · exact ⟨xs, ys, xs[i]'(by omega), ys[i]'(by omega), q.1, q.2.1, List.getElem?_eq_getElem _, List.getElem?_eq_getElem _⟩
      · obtain ⟨T, u, w, rfl, hT, rfl, hu, hw⟩ := yv
        have ld : i < ds.length := by omega
        have le : i < es.length := by omega
        obtain ⟨u', G3, hu', ru, _⟩ := q.2.2.1.get (i := i) (d := ds[i]) (List.getElem?_eq_getElem ld)
        obtain ⟨w', G4, hw', rw', _⟩ := q.2.2.2.get (i := i) (d := es[i]) (List.getElem?_eq_getElem le)
        rw [hu xs q.1] at hu'
        rw [hw ys q.2.1] at hw'
        cases hu'
        cases hw'
        rw [getD_some (List.getElem?_eq_getElem ld), getD_some (List.getElem?_eq_getElem le)]
        have gr := Grow.new0 (H := H') (p := T) (o := .tup [u, w]) hT
        exact ⟨.tup (SqT.of upd_same) (.cons ((ru.nils (imms_get i1 (List.getElem?_eq_getElem ld))).grow gr) (.cons ((rw'.nils (imms_get i2 (List.getElem?_eq_getElem le))).grow gr) .nil)), gr⟩
end
end DL

namespace DL
open PySem PySem.Spec L2

set_option maxHeartbeats 4000000 in
theorem enum_new1 {vv : Value} {oo : Obj} {HH : Heap → Prop} (B : Begins vv oo HH) :
    Meets (Builtin.«enumerate.__new__» ⟨[.type "enumerate", vv], []⟩) (fun _ R s => HH s.heap ∧ R (.ok (.ret (.ref (s.heap.push oo).objs.size)))
      { s with heap := (s.heap.push oo).push { cls := .type "enumerate", data := .fields #[.none, .bool false, .ref s.heap.objs.size, rawInt 0, .none, .none] } }) :=
  .of_wp fun prog w A R s hh => by
    obtain ⟨hp, g, d, tk, os⟩ := s
    obtain ⟨hh1, hh⟩ := hh
    have hsub := sub_enumerate
    have step1 : ∀ {A1 : Around} {E1 : Value → Shared → Prop} {Q1 : Value → Shared → Prop}, Q1 (.ref hp.objs.size) ⟨hp.push oo, g, d, tk, os⟩ → wpAny (model prog w) A1 (pyIter vv) Q1 E1 ⟨hp, g, d, tk, os⟩ :=
      fun z => B.iter prog w _ _ ⟨hp, g, d, tk, os⟩ _ hh1 z
    wp_walk using step1
    refine wpAny_stack_any fun frames => wpAny_pure ?_
    split
    · rename_i c0 _ _ _ _ _
      cases (c0 == Value.type "enumerate")
      · wp_walk using step1
        exact ⟨_, rfl, hh⟩
      · wp_walk using step1
        exact ⟨_, rfl, hh⟩
    · wp_walk using step1
      exact ⟨_, rfl, hh⟩
theorem enum_make1 {prog : Program} {w : World} {A : Around} {E : Value → Shared → Prop} {s : Shared} {vv : Value} {oo : Obj} {HH : Heap → Prop} {Q : Value → Shared → Prop} (B : Begins vv oo HH) (h1 : HH s.heap)
    (h : ∀ h2, IsEnum h2 (s.heap.objs.size + 1) s.heap.objs.size 0 .none → h2.get? s.heap.objs.size = some oo → (∀ b o, s.heap.get? b = some o → h2.get? b = some o) → Q (.ref (s.heap.objs.size + 1)) { s with heap := h2 }) :
    wpAny (model prog w) A (call (.type "enumerate") [vv]) Q E s := by
  refine callType_new F.called_enumerate (by decide) (F.typeCall_enumerate_1 _) (F.newCall_enumerate_1 _) (fun ob => F.args_object_init_2 ob _) F.entry_enumerate_new (enum_new1 B) ⟨h1, ?_⟩
  have hz : (s.heap.push oo).objs.size = s.heap.objs.size + 1 := Heap.size_push ..
  show _ ∧ _
  rw [hz]
  have key : ((s.heap.push oo).push { cls := .type "enumerate", data := .fields #[.none, .bool false, .ref s.heap.objs.size, rawInt 0, .none, .none] }).get? (s.heap.objs.size + 1) = some { cls := .type "enumerate", data := .fields #[.none, .bool false, .ref s.heap.objs.size, rawInt 0, .none, .none] } := by
    have z := Heap.get?_push_size (s.heap.push oo) (o := { cls := .type "enumerate", data := .fields #[.none, .bool false, .ref s.heap.objs.size, rawInt 0, .none, .none] }) rfl
    rw [hz] at z
    exact z
  exact ⟨⟨_, key, rfl⟩, h _ key (Heap.get?_push_of_some _ (Heap.get?_push_size _ B.free)) fun b o z => Heap.get?_push_of_some _ (Heap.get?_push_of_some _ z)⟩

/-- the tuple at a, each item with its place in a new pair -/
def IteT (K : PySem.W.Frag) (a : Addr) : It :=
  ⟨fun i H => ∃ (zs : List V) (z : V), SqT K H a zs ∧ zs[i]? = some z, fun i H v H2 => ∃ T z, v = .ref T ∧ H T = none ∧ H2 = upd H T (.tup [.int (i : Nat), z]) ∧ ∀ zs, SqT K H a zs → zs[i]? = some z, fun i H => ∃ zs : List V, SqT K H a zs ∧ zs.length ≤ i⟩
theorem turn_enumT {P : Program} {w : World} {K : PySem.W.Frag} {elts : List Expr} {kk : Nat} {tpos : Pos} (a e it : Addr) (hai : a ≠ it) (hae : e ≠ a) :
    Turn P w K (.Tuple elts kk tpos) (IteT K a) [e, it] e (fun i h => (∃ old, IsEnum h e it ((i : Nat) : Int) old) ∧ h.IsTupleIter it a i ∧ e ≠ it) where
  mem := by simp
  obj := fun i h st b hb => by
    obtain ⟨⟨old, h1⟩, ⟨ob, ho, _, hd⟩, _⟩ := st
    rcases (show b = e ∨ b = it by simpa using hb) with z | z
    · rw [z]
      exact ⟨_, h1, fun v q => nomatch q⟩
    · exact ⟨ob, by rw [z]; exact ho, fun v q => by rw [hd] at q; cases q⟩
  keep := fun i h h2 st kp => ⟨let ⟨old, q⟩ := st.1; ⟨old, kp e (by simp) _ q⟩, st.2.1.at fun o q => kp it (by simp) o q, st.2.2⟩
  item := by
    intro X hP hw hK hc i pins s σ H E I hf st hg
    subst hP hw hK
    obtain ⟨⟨old, he⟩, hit, hne⟩ := st
    obtain ⟨zs, z, hq, hz⟩ := hg
    obtain ⟨its, rv, pl, _⟩ := I.tuple hq
    obtain ⟨u, hu, ru⟩ := rv.get hz
    have le1 : e < s.heap.objs.size := Heap.lt_size he
    have le2 : it < s.heap.objs.size := by
      obtain ⟨_, q, _⟩ := hit
      exact Heap.lt_size q
    have hi : i < its.toArray.size := by
      rw [List.size_toArray]
      exact (List.getElem?_eq_some_iff.mp hu).1
    refine wpAny_pyNext_enum_itemD (Draws.tuple (A := X.A.in1) (I.ok.hd hc) it a hai its.toArray) he ⟨hit, pl⟩ hi hne (by simp [hne, hae]) fun y h1 tk hy ho hst hT _ hk => ?_
    have ey : y = u := by
      have q : its.toArray[i]? = some y := hy
      rw [List.getElem?_toArray] at q
      rw [hu] at q
      exact (Option.some.inj q).symm
    subst ey
    refine ⟨_, rfl, wpAny_letOwnedTupleGo_enum (s := { s with heap := h1, toks := tk + 1 }) ho fun h2 he2 sb => ?_⟩
    have hT2 : h2.get? s.heap.objs.size = some { cls := .type "tuple", data := .seq #[.int i tk, y] } := (sb.2 _ (Nat.ne_of_gt le1)).trans hT
    have new : ObjOk X.prog X.w (upd H s.heap.objs.size (.tup [.int (i : Nat), z])) h2 s.heap.objs.size (.tup [.int (i : Nat), z]) :=
      ⟨by show 2 ≤ sizeLine; decide, [.int i tk, y], .cons ⟨tk, rfl⟩ (.cons ru .nil), ⟨_, hT2, rfl, _, rfl⟩⟩
    have I1 : Inv X pins σ (upd H s.heap.objs.size (.tup [.int (i : Nat), z])) { s with heap := h2, toks := tk + 1 } :=
      I.turnedNew (ch := [e, it]) (fun b ob hb q => (sb.2 b (fun c => hb (by simp [c]))).trans (hk b ob (fun c => hb (by simp [c])) (fun c => hb (by simp [c])) q)) hf (Nat.le_refl _) new
    refine ⟨.ref s.heap.objs.size, _, I1, rfl, ⟨_, z, rfl, I.hok.fresh (Nat.le_refl _), rfl, fun ys hy => by rw [I.tuple_inj hy hq]; exact hz⟩, ⟨⟨y, ?_⟩, hst.1.at fun o q => (sb.2 it (Ne.symm hne)).trans q, hne⟩, fun b hb => ?_⟩
    · have e1 : ((i + 1 : Nat) : Int) = (i : Int) + 1 := by omega
      rw [e1]
      exact he2
    · have lt : b < s.heap.objs.size := by
        rcases (show b = e ∨ b = it by simpa using hb) with c | c
        · rw [c]; exact le1
        · rw [c]; exact le2
      rw [upd_ne (Nat.ne_of_lt lt)]
      exact (hf b hb).1
  done := by
    intro X hP hw hK hc i pins s σ H E I hf st hg
    subst hP hw hK
    obtain ⟨⟨old, he⟩, hit, hne⟩ := st
    obtain ⟨zs, hq, hz⟩ := hg
    obtain ⟨its, rv, pl, _⟩ := I.tuple hq
    obtain ⟨f0, f1, f2, f3, f4, f5⟩ := hf it (by simp)
    have hl := rv.length
    have hend : its.toArray[i]? = none := by
      rw [List.getElem?_toArray]
      exact List.getElem?_eq_none_iff.mpr (by omega)
    have DD : Draws X.prog X.w X.A.in1 it [it, a] i (fun _ _ => False) (fun j h => j = i ∧ h.IsTupleIter it a i ∧ h.IsTuple a its.toArray) := {
      live := fun _ _ st => let ⟨o, ho, _⟩ := st.2.1; ⟨o, ho⟩
      frame := fun _ _ _ st hk => ⟨st.1, st.2.1.at fun o e => hk it (by simp) o e, st.2.2.at fun o e => hk a (by simp) o e⟩
      item := fun j s' Q E' hj st _ => absurd st.1 (Nat.ne_of_lt hj)
      done := fun s' Q E' st hE => wpAny_nextOf_tuple_end (I.ok.hd hc) st.2.1 st.2.2 hend hE }
    exact wpAny_pyNext_enum_endD DD he ⟨rfl, hit, pl⟩ fun h1 eb => ⟨rfl, I.turned (t' := s.toks) (fun b o hb q => eb b o hb q) f0 f1 f3 f4 f5⟩
  self := fun A i s Q E st h => let ⟨⟨_, he⟩, _⟩ := st; wpAny_pyIter_enum he h
def iEnumT (K : PySem.W.Frag) (ta : TA) : TI := fun σ H R => ta σ H fun vs H1 => ∃ a zs, vs = [.ref a] ∧ SqT K H1 a zs ∧ R (IteT K a) H1
theorem pi_enumT {X : Cx} {e : Expr} {ta : TA} {p pos tpos : Pos} {elts : List Expr} {kk : Nat} (hg : Gl X "enumerate") (hm : X.mg "enumerate" = none) (ha : PA X [e] ta) (hs : starEach [e] X.env = [(false, eval e X.env)] := by rfl) :
    PI X (.Tuple elts kk tpos) (.Call (.Name "enumerate" p) [e] [] pos) (iEnumT X.K ta) := by
  refine ⟨fun pins s σ H R I h => ?_⟩
  refine PyProof.Rows.Call_ (ld_blt I hg hm PyProof.Rows.boot_enumerate (PyProof.Rows.callWith_type1 (thn (ha.run pos pins s σ H _ I h) fun us s1 ⟨vs, H1, I1, r1, q1⟩ => ?_) hs rfl))
  obtain ⟨a, zs, ex, hq, q⟩ := q1
  subst ex
  cases r1 with
  | cons r rr =>
    cases rr
    cases r
    obtain ⟨its, rv, pl, _⟩ := I1.tuple hq
    have la : a < s1.heap.objs.size := pl.lt
    refine enum_make1 (begins_tuple a its.toArray) pl fun h2 he hit hk => wpAny_pyIter_enum he ?_
    have I2 : Inv X pins σ H1 { s1 with heap := h2 } := I1.kept (t' := s1.toks) hk
    refine ⟨s1.heap.objs.size + 1, [s1.heap.objs.size + 1, s1.heap.objs.size], _, _, H1, rfl, I2, turn_enumT a (s1.heap.objs.size + 1) s1.heap.objs.size (Nat.ne_of_lt la) (fun c => absurd la (by rw [← c]; exact Nat.not_lt.mpr (Nat.le_succ _))), ⟨⟨.none, he⟩, ⟨_, hit, rfl, rfl⟩, Nat.succ_ne_self _⟩, fun b hb => ?_, q⟩
    have hle : s1.heap.objs.size ≤ b := by
      rcases (show b = s1.heap.objs.size + 1 ∨ b = s1.heap.objs.size by simpa using hb) with z | z
      · rw [z]; exact Nat.le_succ _
      · rw [z]; exact Nat.le_refl _
    exact I1.fpOk hle (I1.hok.fresh hle)

section
variable {X : Cx} {a : Expr} {E : EnvT} {pos p : Pos}
theorem wi_enumT {k : List (Nat × D) → Nat → (Nat → D) → EnvT → Prop} {elts : List Expr} {kk : Nat} {tpos : Pos} (hg : Gl X "enumerate") (hm : X.mg "enumerate" = none) (h : WO X a E fun o1 E1 => ∃ ds, (o1.get E1).bind D.tseq = some ds ∧ Imms ds ∧
      k [] ds.length (fun i => .tup [.int (i : Int), ds.getD i .non]) E1)
    (hs : starEach [a] X.env = [(false, eval a X.env)] := by rfl) (hs2 : starEach [a] X.env = (false, eval a X.env) :: starEach [] X.env := by rfl) :
    WI X (.Tuple elts kk tpos) (.Call (.Name "enumerate" p) [a] [] pos) E k := by
  intro Z H σ F R he hk
  have hA : WA X [a] E fun os E1 => ∃ o1, os = [o1] ∧ ∃ ds, (o1.get E1).bind D.tseq = some ds ∧ Imms ds ∧ k [] ds.length (fun i => .tup [.int (i : Int), ds.getD i .non]) E1 := wa_cons (WO.mono h fun o1 E1 q => wa_nil ⟨o1, rfl, q⟩) hs2
  refine wpI_by (pi_enumT hg hm pa_w hs) (hA Z H σ F _ he fun os E1 Z1 H1 F1 G vs ⟨o1, eo, ds, g1, i1, kk⟩ f1 rs => ?_)
  subst eo
  cases rs with
  | cons r1 rn =>
    cases rn
    obtain ⟨d1, gd1, gs1⟩ := seq_of g1
    obtain ⟨G1, r1', _⟩ := r1.use f1.env gd1
    obtain ⟨x, xs, rfl, hx, rx⟩ := r1'.tseq gs1
    have rx0 := rx.nils i1
    have lx := rx0.len
    refine ⟨x, xs, rfl, hx, hk [] _ _ E1 Z1 H1 F1 _ (fun Z' H' => SqT X.K H' x xs ∧ Reps X.K Z' H' ds xs []) [] kk f1.nil ⟨fun _ i H' hi q => ?_, fun _ H' q => ⟨xs, q.1, by omega⟩, fun Z' i H' v H'' hi q yv => ?_⟩ ⟨hx, rx0⟩ fun E' Z' H' σ' F' G fs _ => ⟨SqT.stp fs.st hx, rx0.step fs.st fun a h => nomatch h⟩⟩
    · exact ⟨xs, xs[i]'(by omega), q.1, List.getElem?_eq_getElem _⟩
    · obtain ⟨T, u, rfl, hT, rfl, hu⟩ := yv
      obtain ⟨u', G3, hu', ru, _⟩ := q.2.get (i := i) (d := ds[i]) (List.getElem?_eq_getElem hi)
      rw [hu xs q.1] at hu'
      cases hu'
      rw [getD_some (List.getElem?_eq_getElem hi)]
      have gr := Grow.new0 (H := H') (p := T) (o := .tup [.int (i : Nat), u]) hT
      exact ⟨.tup (SqT.of upd_same) (.cons (.int _) (.cons ((ru.nils (imms_get i1 (List.getElem?_eq_getElem hi))).grow gr) .nil)), gr⟩
end
end DL

namespace DL
open PySem PySem.Spec L2
open PyProof.Rows (envOfC)

/-! ### a pair as a target -/
section
variable {X : Cx} {n : List Nat} {E : EnvT} {pos p : Pos}
theorem wg_pair {i j kk : Nat} {x y : Str} {d1 d2 : D} {k : EnvT → Prop} {px py pt : Pos} (hc : X.calm = true) (hN : X.N.Nodup) (hi : X.N[i]? = some x) (hj : X.N[j]? = some y) (hx : Loc X.env.scope x) (hy : Loc X.env.scope y) (hni : i ∉ n) (hnj : j ∉ n) (hE : i < E.length) (hE2 : j < E.length)
    (h : k ((E.set i (some d1)).set j (some d2))) (hf : X.fn x = true ∨ X.env.scope.names.lookup x = some .local := by first | exact .inl rfl | exact .inr rfl | assumption) (hf2 : X.fn y = true ∨ X.env.scope.names.lookup y = some .local := by first | exact .inl rfl | exact .inr rfl | assumption)
    (hp : ∀ t, PGs X [.Name x px, .Name y py] t → PG X (.Tuple [.Name x px, .Name y py] kk pt) (gTup X.K 2 t)) (hp2 : ∀ t u, PG X (.Name x px) t → PGs X [.Name y py] u → PGs X [.Name x px, .Name y py] (gCons t u)) (hp3 : ∀ t, PG X (.Name y py) t → PGs X [.Name y py] (gCons t gNil)) :
    WG X n (.Tuple [.Name x px, .Name y py] kk pt) (.tup [d1, d2]) E k := by
  intro Z H σ F G v Q he r nd nz hk
  refine wpG_by (hp _ (hp2 _ _ (pg_name hN hi hx hf) (hp3 _ (pg_name hN hj hy hf2)))) ?_
  cases r with
  | tup hs rs =>
    cases rs with
    | cons r1 rs =>
      cases rs with
      | cons r2 rs =>
        cases rs
        rename_i v1 G1 v2 G2
        have ndr : (G2 ++ F).Nodup := (List.Sublist.append_right (by rw [List.append_nil]; exact List.sublist_append_right G1 G2) F).nodup nd
        have ndl : (G1 ++ F).Nodup := (List.Sublist.append_right (List.sublist_append_left G1 _) F).nodup nd
        obtain ⟨F1, h1, m1⟩ := he.asg r1 ndl (fun a ha => nz a (List.mem_append_left _ ha)) hE
        have n12 : ∀ a ∈ G2, a ∉ G1 := fun a ha hb => by
          have q := (List.nodup_append.mp (List.nodup_append.mp nd).1).2.2
          exact q a hb a (List.mem_append_left _ ha) rfl
        have ndr2 : (G2 ++ F1).Nodup := List.nodup_append.mpr ⟨(List.nodup_append.mp ndr).1, h1.nd, fun a ha b hb e => by
          subst e
          rcases m1 a hb with q | q
          · exact n12 a ha q
          · exact (List.nodup_append.mp ndr).2.2 a ha a q rfl⟩
        obtain ⟨F2, h2, m2⟩ := h1.asg r2 ndr2 (fun a ha => nz a (List.mem_append_right _ (List.mem_append_left _ ha))) (by rw [List.length_set]; exact hE2)
        refine ⟨_, _, rfl, hs, rfl, v1, [v2], rfl, v2, [], rfl, rfl, ?_⟩
        refine hk _ Z H _ F2 h ⟨h2, h2.nd, (fun a q => nomatch q), Stp.refl.sub fun a ha => ?_, (Pin.set hni).trans (Pin.set hnj)⟩
        rcases m2 a ha with q | q
        · exact List.mem_append_left _ (List.mem_append_right _ (List.mem_append_left _ q))
        · rcases m1 a q with z | z
          · exact List.mem_append_left _ (List.mem_append_left _ z)
          · exact List.mem_append_right _ z
end

/-! ### a def's promise over trees -/
structure Ct where
  α : Type
  pre : α → List D → Prop
  post : α → D → List D → Prop
/-- the first pin arguments come back changed, the others are given away -/
def toSp (K : PySem.W.Frag) (pin : Nat) (S : Ct) : Sp := fun vs H Q _ => ∃ Z ds F, Reps K Z H ds vs F ∧ F.Nodup ∧ (∀ a ∈ F, ¬ Z a) ∧ (∀ a, Z a → ∃ o, H a = some o) ∧ ∃ a : S.α, S.pre a ds ∧ ∀ d ds', S.post a d ds' →
  ∀ v Z' H' G F', Reps K Z' H' ds' (vs.take pin) F' → Rep K Z' H' d v G → (G ++ F').Nodup → (∀ a ∈ G ++ F', ¬ Z' a) → (∀ a, Z' a → ∃ o, H' a = some o) → Stp Z H F Z' H' (G ++ F') → Q v H'
section
variable {K : PySem.W.Frag} {Z Z1 Z2 Z' : Addr → Prop} {H H1 H2 H' : Hp} {F F1 F2 F' G G1 G2 G' R : List Addr} {σ σ' : Sl} {E E1 E2 E' : EnvT}
theorem EnvR.start (r : Reps K Z H ds vs F) (m : Nat) : EnvR K Z H (ds.map some ++ List.replicate m none) (vs.map some ++ List.replicate m none) F := by
  have base : ∀ m : Nat, EnvR K Z H (List.replicate m none) (List.replicate m none) [] := fun m => by
    induction m with
    | zero => exact .nil
    | succ m ih => exact .no ih
  revert vs F
  induction ds with
  | nil => intro vs F r; cases r; exact base m
  | cons d ds ih =>
    intro vs F r
    cases r with
    | cons r rs => exact .so r (ih rs)
theorem EnvR.back : ∀ {E : EnvT} {σ : Sl} {F : List Addr}, EnvR K Z H E σ F → ∀ (pin : Nat) (vs : List V) (ds' : List D), pin ≤ vs.length → (∀ i, i < pin → σ[i]? = (vs.map some)[i]?) → E.take pin = ds'.map some → ∃ F', Reps K Z H ds' (vs.take pin) F' ∧ F'.Sublist F
  | _, _, _, _, 0, vs, ds', _, _, e => by
    have z : ds' = [] := by
      cases ds' with
      | nil => rfl
      | cons d ds => simp at e
    subst z
    exact ⟨[], by rw [List.take_zero]; exact .nil, List.nil_sublist _⟩
  | _, _, _, .nil, pin + 1, vs, ds', hl, hs, e => by
    cases vs with
    | nil => simp at hl
    | cons v vs =>
      have q := hs 0 (Nat.succ_pos _)
      simp at q
  | _, _, _, .no r, pin + 1, vs, ds', hl, hs, e => by
    cases ds' with
    | nil => simp at e
    | cons d ds => simp at e
  | _, _, _, .so (v := w) r rs, pin + 1, vs, ds', hl, hs, e => by
    cases vs with
    | nil => simp at hl
    | cons v vs =>
      have q := hs 0 (Nat.succ_pos _)
      have ew : w = v := by simpa using q
      subst ew
      cases ds' with
      | nil => simp at e
      | cons d ds =>
        rw [List.take_succ_cons, List.map_cons] at e
        injection e with e1 e2
        cases e1
        obtain ⟨F', h1, h2⟩ := EnvR.back rs pin vs ds (by simpa using hl) (fun i hi => by simpa using hs (i + 1) (by omega)) e2
        exact ⟨_, .cons r h1, List.Sublist.append_left h2 _⟩
end
section
variable {P : Program} {w : World} {K : PySem.W.Frag} {mg : Str → Option Value} {base : Heap}
/-- a def keeps its promise, from its body -/
theorem fn_ok {x qual : Str} {st : Stmt} {dvs : List V} {kws : List (Str × V)} {f : Addr} {fd : FuncData} {N ps : List Str} {k pin : Nat} {S : Ct} (F : FunD K x qual (defArgs st) (defBody st) (defScope st) dvs kws f fd) (sc : FnScope N ps (defScope st))
    (hlen : ∀ a ds, S.pre a ds → ds.length = ps.length) (hpin : pin ≤ ps.length)
    (body : ∀ (cdv : Value) (A : Around) (outer : List Env) (s : Shared) (H : Hp) (E : XK), Room k (A.deeper (envOfC qual (defScope st) s.heap.objs.size f cdv)) → ∀ (a : S.α) (ds : List D), S.pre a ds →
      (let X : Cx := (cxOf CX0 P w K mg base N qual (defScope st) f cdv A outer s H E).nox
      WSs X (List.range pin) (defBody st) (ds.map some ++ List.replicate (N.length - ps.length) none)
        { nx := fun E' => ∃ ds', E'.take pin = ds'.map some ∧ S.post a .non ds', rt := fun d E' => ∃ ds', E'.take pin = ds'.map some ∧ S.post a d ds' })) : FnOk P w K mg base CX0 (k + 1) f fd ps (toSp K pin S) := by
  have ln : ∀ vs H Q E, toSp K pin S vs H Q E → vs.length = ps.length := fun vs H Q E ⟨Z, ds, F, r, _, _, _, a, pa, _⟩ => by rw [← r.len]; exact hlen a ds pa
  refine F.ok sc ln fun cdv A outer s H vs Q E hr hsp => ?_
  have hl := ln _ _ _ _ hsp
  obtain ⟨Z, ds, F0, r, nd, nz, zt, a, pa, hq⟩ := hsp
  refine ⟨_, PSs.nox pss_w, ?_⟩
  have he : EnvS K Z H (ds.map some ++ List.replicate (N.length - ps.length) none) (start N vs) F0 := ⟨by
    have q := EnvR.start r (N.length - ps.length)
    unfold L2.start
    rw [hl]
    exact q, nd, nz, zt⟩
  have getv : ∀ {σ' : Sl}, Pin (List.range pin) (start N vs) σ' → ∀ i, i < pin → σ'[i]? = (vs.map some)[i]? := fun hpn i hi => by
    rw [hpn i (List.mem_range.mpr hi)]
    unfold L2.start
    rw [List.getElem?_append_left]
    rw [List.length_map, hl]
    omega
  refine body cdv A outer s H E hr a ds pa Z H (start N vs) F0 _ he ⟨fun E' Z' H' σ' F' ⟨ds', e, po⟩ f => ?_, fun d v E' Z' H' σ' F' G ⟨ds', e, po⟩ f rv => ?_, fun _ _ _ _ _ q _ => q.elim, fun _ _ _ _ _ q _ => q.elim⟩
  · obtain ⟨F2, r2, s2⟩ := f.env.r.back pin vs ds' (by omega) (getv f.pin) e
    exact hq .non ds' po .non Z' H' [] F2 r2 .non (s2.nodup f.env.nd) (fun a ha => f.env.nz a (s2.subset ha)) f.env.zt (f.st.sub fun x hx => s2.subset hx)
  · obtain ⟨F2, r2, s2⟩ := f.env.r.back pin vs ds' (by omega) (getv f.pin) e
    refine hq d ds' po v Z' H' G F2 r2 rv ((List.Sublist.append_left s2 G).nodup f.nd) (fun a ha => ?_) f.env.zt (f.st.sub fun x hx => (List.Sublist.append_left s2 G).subset hx)
    rcases List.mem_append.mp ha with q | q
    · exact f.nz a q
    · exact f.env.nz a (s2.subset q)
end

/-! ### calls -/
inductive Gets (E : EnvT) : List Opd → List D → Prop
  | nil : Gets E [] []
  | val {d : D} {os : List Opd} {ds : List D} : Gets E os ds → Gets E (.val d :: os) (d :: ds)
  | bor {i : Nat} {d : D} {os : List Opd} {ds : List D} : E[i]? = some (some d) → Imm d → Gets E os ds → Gets E (.bor i :: os) (d :: ds)
section
variable {K : PySem.W.Frag} {Z : Addr → Prop} {H : Hp} {F : List Addr} {σ : Sl} {E : EnvT}
theorem Gets.reps (he : EnvS K Z H E σ F) : ∀ {os : List Opd} {ds : List D} {vs : List V} {G : List Addr}, Gets E os ds → OpdRs K Z H σ os vs G → ∃ G', Reps K Z H ds vs G' ∧ G'.Sublist G
  | _, _, _, _, .nil, .nil => ⟨_, .nil, List.Sublist.refl _⟩
  | _, _, _, _, .val g, .cons r rs => by
    obtain ⟨G', h1, h2⟩ := Gets.reps he g rs
    exact ⟨_, .cons r h1, List.Sublist.append_left h2 _⟩
  | _, _, _, _, .bor (i := i) (d := d) hE im g, .cons (v := v) r rs => by
    obtain ⟨G', h1, h2⟩ := Gets.reps he g rs
    obtain ⟨G1, r1, _⟩ := OpdR.use (o := .bor i) he r (d := d) (by show E[i]?.join = some d; rw [hE]; rfl)
    exact ⟨_, .cons (r1.nils im) h1, h2.trans (List.sublist_append_right _ _)⟩
end
theorem Gets.of {E : EnvT} : ∀ {os : List Opd} {ds : List D}, valsOf os = some ds → Gets E os ds
  | [], ds, h => by
    rw [valsOf] at h
    cases h
    exact .nil
  | .val d :: os, ds, h => by
    rw [valsOf] at h
    cases e : valsOf os with
    | none => rw [e] at h; cases h
    | some es =>
      rw [e] at h
      cases h
      exact .val (Gets.of e)
  | .bor _ :: _, ds, h => by
    rw [valsOf] at h
    cases h
section
variable {X : Cx} {E : EnvT} {k : Opd → EnvT → Prop} {f : Expr} {es : List Expr} {S : Ct} {XE : XK}
theorem wo_call0 (hp : PE X f (tCall (toSp X.K 0 S) [] XE (wpA X es))) (h : WA X es E fun os E1 => ∃ ds, valsOf os = some ds ∧ ∃ a, S.pre a ds ∧ ∀ d, S.post a d [] → k (.val d) E1) : WO X f E k := by
  intro Z H σ F Q he hk
  refine wpE_by hp (h Z H σ F _ he fun os E1 Z1 H1 F1 G vs ⟨ds, g0, a, pa, hq⟩ f1 rs => ?_)
  have g := Gets.of (E := E1) g0
  obtain ⟨G', r, sub⟩ := g.reps f1.env rs
  have f2 := f1.sub sub
  rw [List.append_nil]
  refine ⟨Z1, ds, G', r, (List.nodup_append.mp f2.nd).1, f2.nz, f1.env.zt, a, pa, fun d ds' po v Z' H' G2 F2 r2 rv nd nz zt st => ?_⟩
  rw [List.take_zero] at r2
  cases r2
  have st0 : Stp Z1 H1 G' Z' H' G2 := st.sub fun x hx => List.mem_append_left _ hx
  have n2 : G2.Nodup := (List.nodup_append.mp nd).1
  have ap := st0.apart (G := F1) (F1 := G') (F2 := G2) f1.env.r.mem (by
    refine List.nodup_append.mpr ⟨f1.env.nd, (List.nodup_append.mp f2.nd).1, fun x hx y hy e => ?_⟩
    subst e
    exact (List.nodup_append.mp f2.nd).2.2 x hy x hx rfl) n2
  have nzF := st0.nz f1.env.r.mem ap.2 f1.env.nz
  refine hk (.val d) E1 Z' H' F1 G2 v (hq d po) ⟨⟨f1.env.r.step st0 ap.2, f1.env.nd, nzF, zt⟩, ?_, fun x hx => nz x (List.mem_append_left _ hx), ?_⟩ rv
  · refine List.nodup_append.mpr ⟨n2, f1.env.nd, fun x hx y hy e => ?_⟩
    subst e
    exact (List.nodup_append.mp ap.1).2.2 x hy x hx rfl
  · exact f2.st.trans (st0.more (fun x hx => List.mem_append_left _ hx) fun x hx => (List.mem_append.mp hx).imp_right fun z => List.mem_append_right _ z)
/-- the first argument an owned thing in a slot -/
theorem wo_call1 (hp : PE X f (tCall (toSp X.K 1 S) [] XE (wpA X es))) (h : WA X es E fun os E1 => ∃ i os' d0 ds, os = .bor i :: os' ∧ E1[i]? = some (some d0) ∧ valsOf os' = some ds ∧ ∃ a, S.pre a (d0 :: ds) ∧ ∀ d d0', S.post a d [d0'] → k (.val d) (E1.set i (some d0'))) : WO X f E k := by
  intro Z H σ F Q he hk
  refine wpE_by hp (h Z H σ F _ he fun os E1 Z1 H1 F1 G vs ⟨i, os', d0, ds, eo, hE, g0, a, pa, hq⟩ f1 rs => ?_)
  subst eo
  have g := Gets.of (E := E1) g0
  cases rs with
  | cons r0 rs =>
    rename_i v0 G0' vs' Gs
    obtain ⟨hv, eG⟩ := r0
    subst eG
    rw [List.nil_append] at f1
    obtain ⟨Gs', r, sub⟩ := g.reps f1.env rs
    have f2 := f1.sub sub
    obtain ⟨v0', G0, R, hv', rp, rR, pm⟩ := f1.env.r.get hE
    rw [hv] at hv'
    cases hv'
    rw [List.append_nil]
    have nF : (G0 ++ R).Nodup := pm.nodup_iff.mp f1.env.nd
    have nA : (G0 ++ Gs').Nodup := by
      refine List.nodup_append.mpr ⟨(List.nodup_append.mp nF).1, (List.nodup_append.mp f2.nd).1, fun x hx y hy e => ?_⟩
      subst e
      exact (List.nodup_append.mp f2.nd).2.2 x hy x (pm.mem_iff.mpr (List.mem_append_left _ hx)) rfl
    have nzA : ∀ x ∈ G0 ++ Gs', ¬ Z1 x := fun x hx => by
      rcases List.mem_append.mp hx with q | q
      · exact f1.env.nz x (pm.mem_iff.mpr (List.mem_append_left _ q))
      · exact f2.nz x q
    refine ⟨Z1, d0 :: ds, G0 ++ Gs', .cons rp r, nA, nzA, f1.env.zt, a, pa, fun d ds' po v Z' H' G2 F2 r2 rv nd nz zt st => ?_⟩
    have et : (v0 :: vs').take 1 = [v0] := rfl
    rw [et] at r2
    cases r2 with
    | cons r2 rn =>
      cases rn
      rename_i d0' Fd
      rw [List.append_nil] at nd nz st
      have nR : ∀ x ∈ R, x ∉ G0 ++ Gs' := fun x hx hm => by
        rcases List.mem_append.mp hm with q | q
        · exact (List.nodup_append.mp nF).2.2 x q x hx rfl
        · exact (List.nodup_append.mp f2.nd).2.2 x q x (pm.mem_iff.mpr (List.mem_append_right _ hx)) rfl
      have rR' := rR.step st nR
      obtain ⟨F3, e3, p3⟩ := rR'.put (i := i) (d := d0') (v := v0) (G := Fd) (by
        obtain ⟨hl, _⟩ := List.getElem?_eq_some_iff.mp hE
        simp [hl]) hv r2
      rw [List.set_set] at e3
      have apR : ∀ x ∈ R, x ∉ G2 ++ Fd := fun x hx hm => by
        rcases st.f2 x hm with q | q
        · exact nR x hx q
        · obtain ⟨o, e⟩ := rR.mem x hx
          rw [e] at q
          cases q
      have nd3 : (G2 ++ (Fd ++ R)).Nodup := by
        rw [← List.append_assoc]
        refine List.nodup_append.mpr ⟨nd, (List.nodup_append.mp nF).2.1, fun x hx y hy e => ?_⟩
        subst e
        exact apR x hy hx
      have mem3 : ∀ x ∈ F3, x ∈ Fd ∨ x ∈ R := fun x hx => List.mem_append.mp (p3.mem_iff.mp hx)
      have nzR := st.nz rR.mem nR fun x hx => f1.env.nz x (pm.mem_iff.mpr (List.mem_append_right _ hx))
      have hsub : ∀ x ∈ G0 ++ Gs', x ∈ Gs' ++ F1 := fun x hx => by
        rcases List.mem_append.mp hx with q | q
        · exact List.mem_append_right _ (pm.mem_iff.mpr (List.mem_append_left _ q))
        · exact List.mem_append_left _ q
      refine hk (.val d) _ Z' H' F3 G2 v (hq d d0' po) ⟨⟨e3, p3.nodup_iff.mpr (List.nodup_append.mp nd3).2.1, fun x hx => (mem3 x hx).elim (fun q => nz x (List.mem_append_right _ q)) (nzR x), zt⟩,
        (List.Perm.append_left G2 p3).nodup_iff.mpr nd3, fun x hx => nz x (List.mem_append_left _ hx), ?_⟩ rv
      refine f2.st.trans (st.more hsub fun x hx => ?_)
      rcases List.mem_append.mp hx with q | q
      · exact .inl (List.mem_append_left _ q)
      · rcases mem3 x q with z | z
        · exact .inl (List.mem_append_right _ z)
        · exact .inr (List.mem_append_right _ (pm.mem_iff.mpr (List.mem_append_right _ z)))
end
end DL

namespace DL
open PySem PySem.Spec L2

/-! ### slots forgotten -/
def wipeE (E : EnvT) : List Nat → EnvT
  | [] => E
  | i :: is => (wipeE E is).set i none
theorem wipe_get (σ : Sl) : ∀ (vs : List Nat) (j : Nat), (wipe σ vs)[j]? = if j ∈ vs ∧ j < σ.length then some none else σ[j]?
  | [], j => by simp [wipe]
  | v :: vs, j => by
    rw [wipe, List.getElem?_set, wipe_length, wipe_get σ vs j]
    by_cases h : v = j
    · subst h
      by_cases hl : v < σ.length
      · simp [hl]
      · have z : σ[v]? = none := List.getElem?_eq_none_iff.mpr (by omega)
        simp [hl, z]
    · have h' : ¬ j = v := fun e => h e.symm
      simp [h, h']
theorem wipe_idem (σ : Sl) (vs : List Nat) : wipe (wipe σ vs) vs = wipe σ vs := by
  apply List.ext_getElem?
  intro j
  rw [wipe_get, wipe_length, wipe_get]
  split <;> rfl
theorem wipe_set {σ : Sl} {i : Nat} {o : Option V} {vs : List Nat} (h : i ∈ vs) : wipe (σ.set i o) vs = wipe σ vs := by
  apply List.ext_getElem?
  intro j
  rw [wipe_get, wipe_get, List.length_set]
  by_cases hj : j ∈ vs ∧ j < σ.length
  · rw [if_pos hj, if_pos hj]
  · rw [if_neg hj, if_neg hj, List.getElem?_set]
    by_cases e : i = j
    · subst e
      have hl : ¬ i < σ.length := fun q => hj ⟨h, q⟩
      have z : σ[i]? = none := List.getElem?_eq_none_iff.mpr (by omega)
      simp [hl, z]
    · simp [e]
section
variable {K : PySem.W.Frag} {Z Z1 Z2 Z' : Addr → Prop} {H H1 H2 H' : Hp} {F F1 F2 F' G G1 G2 G' R : List Addr} {σ σ' : Sl} {E E1 E2 E' : EnvT}
theorem wipeE_length (E : EnvT) : ∀ vs : List Nat, (wipeE E vs).length = E.length
  | [] => rfl
  | v :: vs => by rw [wipeE, List.length_set, wipeE_length E vs]
theorem wipeE_get (E : EnvT) : ∀ (vs : List Nat) (j : Nat), (wipeE E vs)[j]? = if j ∈ vs ∧ j < E.length then some none else E[j]?
  | [], j => by simp [wipeE]
  | v :: vs, j => by
    rw [wipeE, List.getElem?_set, wipeE_length, wipeE_get E vs j]
    by_cases h : v = j
    · subst h
      by_cases hl : v < E.length
      · simp [hl]
      · have z : E[v]? = none := List.getElem?_eq_none_iff.mpr (by omega)
        simp [hl, z]
    · have h' : ¬ j = v := fun e => h e.symm
      simp [h, h']
theorem EnvR.wipe (r : EnvR K Z H E σ F) : ∀ vs : List Nat, ∃ F2, EnvR K Z H (wipeE E vs) (L2.wipe σ vs) F2 ∧ F2.Sublist F
  | [] => ⟨F, r, List.Sublist.refl _⟩
  | v :: vs => by
    obtain ⟨F2, h1, h2⟩ := EnvR.wipe r vs
    obtain ⟨F3, h3, h4⟩ := h1.drop v none
    exact ⟨F3, h3, h4.trans h2⟩
/-- other values in slots that nothing is known of -/
theorem EnvR.other : ∀ {E : EnvT} {σ : Sl} {F : List Addr}, EnvR K Z H E σ F → ∀ σ' : Sl, σ'.length = σ.length → (∀ (i : Nat) (d : D), E[i]? = some (some d) → σ'[i]? = σ[i]?) → EnvR K Z H E σ' F
  | _, _, _, .nil, σ', hl, _ => by
    have e : σ' = [] := List.eq_nil_of_length_eq_zero hl
    rw [e]
    exact .nil
  | _, _, _, .no r, σ', hl, h => by
    cases σ' with
    | nil => simp at hl
    | cons o σ' => exact .no (EnvR.other r σ' (by simpa using hl) fun i d e => by simpa using h (i + 1) d (by simpa using e))
  | _, _, _, .so (v := v) r rs, σ', hl, h => by
    cases σ' with
    | nil => simp at hl
    | cons o σ' =>
      have e0 : o = some v := by simpa using h 0 _ rfl
      rw [e0]
      exact .so r (EnvR.other rs σ' (by simpa using hl) fun i d e => by simpa using h (i + 1) d (by simpa using e))
theorem EnvS.wipe (e : EnvS K Z H E σ F) (vs : List Nat) : ∃ F2, EnvS K Z H (wipeE E vs) (L2.wipe σ vs) F2 ∧ F2.Sublist F := by
  obtain ⟨F2, h1, h2⟩ := e.r.wipe vs
  exact ⟨F2, ⟨h1, h2.nodup e.nd, fun a ha => e.nz a (h2.subset ha), e.zt⟩, h2⟩
theorem EnvS.unwipe {E0 : EnvT} {vs : List Nat} (e : EnvS K Z H (wipeE E0 vs) (L2.wipe σ vs) F) : EnvS K Z H (wipeE E0 vs) σ F :=
  ⟨e.r.other σ (wipe_length σ vs).symm fun i d h => by
    have hl := e.r.len
    rw [wipeE_length, wipe_length] at hl
    rw [wipeE_get] at h
    rw [wipe_get]
    by_cases q : i ∈ vs ∧ i < E0.length
    · rw [if_pos q] at h
      cases h
    · rw [if_neg (by rw [← hl]; exact q)], e.nd, e.nz, e.zt⟩
end

/-! ### a comprehension's target -/
/-- d is bound to names that are forgotten behind the turn -/
def TgB (K : PySem.W.Frag) (g : TG) (vs : List Nat) (d : D) (E E2 : EnvT) : Prop := ∀ (Z : Addr → Prop) (H : Hp) (σ : Sl) (v : V) (F : List Addr) (Q : Sl → Hp → Prop), EnvS K Z H E σ F → Rep K Z H d v [] →
  (∀ σ2 F2, EnvS K Z H E2 σ2 F2 → (∀ a ∈ F2, a ∈ F) → wipe σ2 vs = wipe σ vs → Q σ2 H) → g v σ H Q
theorem tgb_name {K : PySem.W.Frag} {i : Nat} {vs : List Nat} {d : D} {E : EnvT} (hi : i ∈ vs) (hE : i < E.length) : TgB K (gName i) vs d E (E.set i (some d)) := by
  intro Z H σ v F Q he r hq
  obtain ⟨F', h1, h2⟩ := he.asg (i := i) r he.nd (fun a h => nomatch h) hE
  exact hq _ F' h1 (fun a ha => (h2 a ha).elim (fun q => nomatch q) id) (wipe_set hi)
theorem tgb_pair {K : PySem.W.Frag} {i j : Nat} {vs : List Nat} {d1 d2 : D} {E : EnvT} (hi : i ∈ vs) (hj : j ∈ vs) (hE : i < E.length) (hE2 : j < E.length) : TgB K (gTup K 2 (gCons (gName i) (gCons (gName j) gNil))) vs (.tup [d1, d2]) E ((E.set i (some d1)).set j (some d2)) := by
  intro Z H σ v F Q he r hq
  generalize hG : ([] : List Addr) = G0 at r
  cases r with
  | tup hs rs =>
    cases rs with
    | cons r1 rs =>
      cases rs with
      | cons r2 rs =>
        cases rs
        rename_i v1 G1 v2 G2
        have e1 : G1 = [] := (List.append_eq_nil_iff.mp hG.symm).1
        have e2 : G2 = [] := (List.append_eq_nil_iff.mp (List.append_eq_nil_iff.mp hG.symm).2).1
        subst e1
        subst e2
        obtain ⟨F1, h1, m1⟩ := he.asg (i := i) r1 he.nd (fun a h => nomatch h) hE
        obtain ⟨F2, h2, m2⟩ := h1.asg (i := j) r2 h1.nd (fun a h => nomatch h) (by rw [List.length_set]; exact hE2)
        refine ⟨_, _, rfl, hs, rfl, v1, [v2], rfl, v2, [], rfl, rfl, hq _ F2 h2 (fun a ha => ?_) ?_⟩
        · exact (m2 a ha).elim (fun q => nomatch q) fun q => (m1 a q).elim (fun z => nomatch z) id
        · rw [wipe_set hj, wipe_set hi]

/-! ### tests of a comprehension -/
def wpTs (X : Cx) (ifs : List Expr) (σ : Sl) (H : Hp) (Q : Bool → Hp → Prop) : Prop := ∀ (pins : List (Addr × Obj)) (s : Shared), Inv X pins σ H s →
  wpAny (model X.prog X.w) X.A (forIn ifs true fun c r => if r = true then do let ok ← isTrue c X.env (eval c X.env); pure (ForInStep.yield ok) else pure (ForInStep.yield r)) (TP X pins σ Q) X.xe s
def WIf (X : Cx) (ifs : List Expr) (E : EnvT) (k : Bool → EnvT → Prop) : Prop := ∀ (Z : Addr → Prop) (H : Hp) (σ : Sl) (F : List Addr) (Q : Bool → Hp → Prop), EnvS X.K Z H E σ F →
  (∀ (b : Bool) (E' : EnvT) (Z' : Addr → Prop) (H' : Hp) (F' : List Addr), k b E' → Fin X.K Z H σ F E' Z' H' F' [] → Q b H') → wpTs X ifs σ H Q
section
variable {X : Cx} {E : EnvT} {c : Expr} {k : Bool → EnvT → Prop}
theorem wif_nil (h : k true E) : WIf X [] E k := fun Z H σ F Q he hk pins s I => pts_nil.run pins s σ H Q I (hk true E Z H F h (Fin.refl he))
theorem wif_one (h : WT X c E k) : WIf X [c] E k := fun Z H σ F Q he hk pins s I => (pts_one pt_w).run pins s σ H Q I (h Z H σ F Q he hk)
end

/-! ### [elt for tg in iter if ..] -/
section
variable {X : Cx} {elt tg iter : Expr} {ifs : List Expr} {scope : Scope} {own : List (Str × Nat)} {pos : Pos} {E : EnvT} {k : Opd → EnvT → Prop} {g : TG}
theorem WI.mono {X : Cx} {tg iter : Expr} {E : EnvT} {k k' : List (Nat × D) → Nat → (Nat → D) → EnvT → Prop} (h : WI X tg iter E k) (m : ∀ w mm src E', k w mm src E' → k' w mm src E') : WI X tg iter E k' := fun Z H σ F R he hk => h Z H σ F R he fun w mm src E' Z' H' F' J Gp G q => hk w mm src E' Z' H' F' J Gp G (m w mm src E' q)
abbrev lcT (X : Cx) (elt tg iter : Expr) (ifs : List Expr) (scope : Scope) (g : TG) (vs : List Nat) : TE := tLc (wpI X tg iter) g (fun σ' H' Q' => ∀ (s : Shared) (H0 : Hp) (C : Addr) (cl : List (Str × Addr)) (fp : List Addr), wpTs (X.blk s H0 scope (compEnvC scope cl C X.env) fp) ifs σ' H' Q')
  (fun σ' H' Q' => ∀ (s : Shared) (H0 : Hp) (C : Addr) (cl : List (Str × Addr)) (fp : List Addr), wpE (X.blk s H0 scope (compEnvC scope cl C X.env) fp) elt σ' H' Q') vs
theorem lc_tree
    (h : WI X tg iter E fun w m src E1 => ∃ I : Nat → List D → EnvT → Prop, I 0 [] (wipeE E1 (own.map (·.2))) ∧ (∀ j acc E', j ≤ m → I j acc E' → ∀ p ∈ w, E'[p.1]? = some (some p.2)) ∧
      (∀ j acc E', j < m → I j acc E' → ∃ E2, TgB X.K g (own.map (·.2)) (src j) E' E2 ∧ ∀ (s : Shared) (H : Hp) (C : Addr) (cl : List (Str × Addr)) (fp : List Addr),
        WIf (X.blk s H scope (compEnvC scope cl C X.env) fp) ifs E2 fun b E3 => (b = true → ∀ (s : Shared) (H : Hp) (C : Addr) (cl : List (Str × Addr)) (fp : List Addr), WE (X.blk s H scope (compEnvC scope cl C X.env) fp) elt E3 fun y E4 => acc.length < 100000 ∧ I (j + 1) (acc ++ [y]) (wipeE E4 (own.map (·.2)))) ∧ (b = false → I (j + 1) acc (wipeE E3 (own.map (·.2))))) ∧
      ∀ acc E', I m acc E' → k (.val (.lst acc)) E') : ∀ (Z : Addr → Prop) (H : Hp) (σ : Sl) (F : List Addr) (Q : VK), EnvS X.K Z H E σ F →
  (∀ (o : Opd) (E' : EnvT) (Z' : Addr → Prop) (H' : Hp) (F' G : List Addr) (v : V), k o E' → Fin X.K Z H σ F E' Z' H' F' G → OpdR X.K Z' H' σ o v G → Q v H') → lcT X elt tg iter ifs scope g (own.map (·.2)) σ H Q := by
  intro Z H σ F Q he hk
  generalize hvs : own.map (·.2) = vs at h ⊢
  refine h Z H σ F _ he fun w m src E1 Z1 H1 F1 J Gp G ⟨I, i0, iw, step, fin⟩ f1 sok g1 stay => ?_
  have f10 := f1.nil
  intro Dd hD
  obtain ⟨Fw, ew, subw⟩ := f10.env.wipe vs
  refine ⟨fun i l H' => l = m - i ∧ i ≤ m ∧ ∃ acc E0 Z' F' Ga ws, I i acc (wipeE E0 vs) ∧ EnvS X.K Z' H' (wipeE E0 vs) (wipe σ vs) F' ∧ H' Dd = some (.lst ws) ∧ Reps X.K Z' H' acc ws Ga ∧ ((Dd :: Ga) ++ F').Nodup ∧ (∀ a ∈ Dd :: Ga, ¬ Z' a) ∧ Stp Z1 H1 F1 Z' H' ((Dd :: Ga) ++ F'), ⟨m, by simp, Nat.zero_le _, ?_⟩, ?_⟩
  · have gr := Grow.new (H := H1) (p := Dd) (o := .lst []) hD
    have dF : Dd ∉ Fw := fun q => by
      obtain ⟨o, e⟩ := ew.r.mem Dd q
      rw [hD] at e
      cases e
    refine ⟨[], E1, Z1, Fw, [], [], i0, ⟨ew.r.kp gr.kp fun a _ o e => gr.gr a o e, ew.nd, ew.nz, fun a z => let ⟨o, e⟩ := ew.zt a z; ⟨o, gr.gr a o e⟩⟩, upd_same, .nil, List.nodup_cons.mpr ⟨by simpa using dF, by simpa using ew.nd⟩, fun a ha z => ?_, ?_⟩
    · rw [List.mem_singleton.mp ha] at z
      obtain ⟨o, e⟩ := f10.env.zt Dd z
      rw [hD] at e
      cases e
    · refine (gr.st (Z := Z1) (F := F1)).sub fun x hx => ?_
      rcases List.mem_cons.mp hx with q | q
      · rw [q]; exact List.mem_append_left _ (by simp)
      · exact List.mem_append_right _ (subw.subset (by simpa using q))
  · rintro i l H2 ⟨rfl, hi, acc, E0, Z2, F2, Ga, ws, i2, e2, hD2, ra, nd2, nz2, st2⟩
    have gp : Gp Z2 H2 := stay (wipeE E0 vs) Z2 H2 σ F2 (Dd :: Ga) ⟨e2.unwipe, nd2, nz2, st2, Pin.refl⟩ (iw i acc _ hi i2)
    by_cases hlt : i < m
    · refine .inr ⟨sok.goes Z2 i H2 hlt gp, fun H' => ∃ acc E0 Z' F' Ga ws, I (i + 1) acc (wipeE E0 vs) ∧ EnvS X.K Z' H' (wipeE E0 vs) (wipe σ vs) F' ∧ H' Dd = some (.lst ws) ∧ Reps X.K Z' H' acc ws Ga ∧ ((Dd :: Ga) ++ F').Nodup ∧ (∀ a ∈ Dd :: Ga, ¬ Z' a) ∧ Stp Z1 H1 F1 Z' H' ((Dd :: Ga) ++ F'), fun H' q => ⟨m - (i + 1), by omega, rfl, hlt, q⟩, fun x H3 y => ?_⟩
      obtain ⟨rx, gr⟩ := sok.gives Z2 i H2 x H3 hlt gp y
      have e3 : EnvS X.K Z2 H3 (wipeE E0 vs) (wipe σ vs) F2 := ⟨e2.r.kp gr.kp fun a _ o e => gr.gr a o e, e2.nd, e2.nz, fun a z => let ⟨o, e⟩ := e2.zt a z; ⟨o, gr.gr a o e⟩⟩
      have hD3 : H3 Dd = some (.lst ws) := gr.gr _ _ hD2
      have ra3 := ra.grow gr
      have st3 : Stp Z1 H1 F1 Z2 H3 ((Dd :: Ga) ++ F2) := st2.trans gr.st
      have memA : ∀ a ∈ Dd :: Ga, ∃ u, H3 a = some u := fun a ha => by
        rcases List.mem_cons.mp ha with q | q
        · exact ⟨_, by rw [q]; exact hD3⟩
        · exact ra3.mem a q
      obtain ⟨E4, tb, run⟩ := step i acc _ hlt i2
      refine tb Z2 H3 (wipe σ vs) x F2 _ e3 rx fun σ4 F4 e4 sub4 hw4 => ?_
      refine ⟨by rw [hw4, wipe_idem], ?_⟩
      have nd4 : ((Dd :: Ga) ++ F4).Nodup := List.nodup_append.mpr ⟨(List.nodup_append.mp nd2).1, e4.nd, fun a ha b hb q => (List.nodup_append.mp nd2).2.2 a ha b (sub4 b hb) q⟩
      have st4 : Stp Z1 H1 F1 Z2 H3 ((Dd :: Ga) ++ F4) := st3.sub fun a ha => by
        rcases List.mem_append.mp ha with q | q
        · exact List.mem_append_left _ q
        · exact List.mem_append_right _ (sub4 a q)
      intro s H0 C cl fp
      refine run s H0 C cl fp Z2 H3 σ4 F4 _ e4 fun b E5 Z5 H5 F5 q5 f5 => ?_
      have off5 := f5.st.apart (G := Dd :: Ga) (F1 := F4) (F2 := F5) memA nd4 f5.nd
      have nz5 := f5.st.nz memA off5.2 nz2
      have hD5 : H5 Dd = some (.lst ws) := f5.st.fr _ _ hD3 (off5.2 Dd List.mem_cons_self)
      have ra5 := ra3.step f5.st fun a ha => off5.2 a (List.mem_cons_of_mem _ ha)
      have st5 : Stp Z1 H1 F1 Z5 H5 ((Dd :: Ga) ++ F5) := st4.push f5.st
      cases b with
      | false =>
        rw [if_neg Bool.false_ne_true]
        obtain ⟨F6, e6, sub6⟩ := f5.env.wipe vs
        have ew : wipe σ4 vs = wipe σ vs := by rw [hw4, wipe_idem]
        rw [ew] at e6
        exact ⟨acc, E5, Z5, F6, Ga, ws, q5.2 rfl, e6, hD5, ra5, (List.Sublist.append_left sub6 _).nodup off5.1, nz5, st5.sub fun a ha => (List.Sublist.append_left sub6 _).subset ha⟩
      | true =>
        rw [if_pos rfl]
        intro s' H0' C' cl' fp'
        refine q5.1 rfl s' H0' C' cl' fp' Z5 H5 σ4 F5 _ f5.env fun o E6 Z6 H6 F6 Gy y6 ⟨dy, eo, hacc, iy⟩ f6 r6 => ?_
        subst eo
        have ry : Rep X.K Z6 H6 dy y6 Gy := r6
        have off6 := f6.st.apart (G := Dd :: Ga) (F1 := F5) (F2 := Gy ++ F6) (fun a ha => by
          rcases List.mem_cons.mp ha with q | q
          · exact ⟨_, by rw [q]; exact hD5⟩
          · exact ra5.mem a q) off5.1 f6.nd
        have nz6 := f6.st.nz (fun a ha => by
          rcases List.mem_cons.mp ha with q | q
          · exact ⟨_, by rw [q]; exact hD5⟩
          · exact ra5.mem a q) off6.2 nz5
        have hD6 : H6 Dd = some (.lst ws) := f6.st.fr _ _ hD5 (off6.2 Dd List.mem_cons_self)
        have ra6 := ra5.step f6.st fun a ha => off6.2 a (List.mem_cons_of_mem _ ha)
        have st6 : Stp Z1 H1 F1 Z6 H6 ((Dd :: Ga) ++ (Gy ++ F6)) := st5.push f6.st
        have hlen := ra6.len
        refine ⟨ws, hD6, Nat.lt_of_lt_of_le (by omega) (by decide : 100000 ≤ sizeLine), ?_⟩
        have su : Stp Z6 H6 [Dd] Z6 (upd H6 Dd (.lst (ws ++ [y6]))) [Dd] := Stp.upd (by simp) (nz6 Dd List.mem_cons_self) (lst_nt hD6)
        have ndall := off6.1
        have notD : ∀ a ∈ Ga ++ (Gy ++ F6), a ∉ [Dd] := fun a ha hm => by
          rw [List.mem_singleton.mp hm] at ha
          have q : (Dd :: (Ga ++ (Gy ++ F6))).Nodup := ndall
          exact (List.nodup_cons.mp q).1 ha
        obtain ⟨F7, e7, sub7⟩ := f6.env.wipe vs
        have ew : wipe σ4 vs = wipe σ vs := by rw [hw4, wipe_idem]
        rw [ew] at e7
        have nd7 : ((Dd :: (Ga ++ Gy)) ++ F7).Nodup := by
          have q : ((Dd :: Ga) ++ (Gy ++ F7)).Nodup := (List.Sublist.append_left (List.Sublist.append_left sub7 Gy) (Dd :: Ga)).nodup ndall
          rw [← List.append_assoc] at q
          exact q
        refine ⟨acc ++ [dy], E6, Z6, F7, Ga ++ Gy, ws ++ [y6], iy, ?_, upd_same, ?_, nd7, fun a ha => ?_, ?_⟩
        · refine ⟨e7.r.step su fun a ha => notD a (List.mem_append_right _ (List.mem_append_right _ (sub7.subset ha))), e7.nd, e7.nz, fun a z => ?_⟩
          obtain ⟨o, e⟩ := e7.zt a z
          exact su.th a o e
        · exact (ra6.step su fun a ha => notD a (List.mem_append_left _ ha)).app (Reps.one (ry.step su fun a ha => notD a (List.mem_append_right _ (List.mem_append_left _ ha))))
        · rcases List.mem_cons.mp ha with q | q
          · rw [q]; exact nz6 Dd List.mem_cons_self
          · rcases List.mem_append.mp q with z | z
            · exact nz6 a (List.mem_cons_of_mem _ z)
            · exact f6.nz a z
        · refine st6.trans (su.more (fun a ha => by rw [List.mem_singleton.mp ha]; exact List.mem_append_left _ List.mem_cons_self) fun a ha => ?_)
          rcases List.mem_append.mp ha with q | q
          · rcases List.mem_cons.mp q with z | z
            · exact .inl (by rw [z]; simp)
            · rcases List.mem_append.mp z with y | y
              · exact .inr (List.mem_append_left _ (List.mem_cons_of_mem _ y))
              · exact .inr (List.mem_append_right _ (List.mem_append_left _ y))
          · exact .inr (List.mem_append_right _ (List.mem_append_right _ (sub7.subset q)))
    · have e : i = m := by omega
      subst e
      refine .inl ⟨sok.stops Z2 H2 gp, ?_⟩
      refine hk _ _ Z2 H2 F2 (Dd :: Ga) _ (fin acc _ i2) ⟨e2.unwipe, nd2, nz2, f10.st.trans st2⟩ (.lst hD2 ra)

theorem wo_lc (hc : X.calm = true) (hN : X.N.Nodup) (ok : BlkOk X.N X.env.scope scope own)
    (hg : ∀ (s : Shared) (H : Hp) (C : Addr) (cl : List (Str × Addr)) (fp : List Addr), PG (X.blk s H scope (compEnvC scope cl C X.env) fp) tg g)
    (h : WI X tg iter E fun w m src E1 => ∃ I : Nat → List D → EnvT → Prop, I 0 [] (wipeE E1 (own.map (·.2))) ∧ (∀ j acc E', j ≤ m → I j acc E' → ∀ p ∈ w, E'[p.1]? = some (some p.2)) ∧
      (∀ j acc E', j < m → I j acc E' → ∃ E2, TgB X.K g (own.map (·.2)) (src j) E' E2 ∧ ∀ (s : Shared) (H : Hp) (C : Addr) (cl : List (Str × Addr)) (fp : List Addr),
        WIf (X.blk s H scope (compEnvC scope cl C X.env) fp) ifs E2 fun b E3 => (b = true → ∀ (s : Shared) (H : Hp) (C : Addr) (cl : List (Str × Addr)) (fp : List Addr), WE (X.blk s H scope (compEnvC scope cl C X.env) fp) elt E3 fun y E4 => acc.length < 100000 ∧ I (j + 1) (acc ++ [y]) (wipeE E4 (own.map (·.2)))) ∧ (b = false → I (j + 1) acc (wipeE E3 (own.map (·.2))))) ∧
      ∀ acc E', I m acc E' → k (.val (.lst acc)) E')
    (hs : ∀ x, foldedSetIterable iter X.env x = pure x := by intro _; rfl) : WO X (.ListComp elt [⟨tg, iter, ifs, 0⟩] scope pos) E k := by
  intro Z H σ F Q he hk
  exact wpE_by (pe_lc (pos := pos) (elt := elt) (ifs := ifs) hc hN (pi_w (iter := iter) (tg := tg)) ok hg (fun s H0 C cl fp => ⟨fun pins s' σ' H' Q' I' q => q s H0 C cl fp pins s' I'⟩) (fun s H0 C cl fp => ⟨fun pins s' σ' H' Q' I' q => q s H0 C cl fp pins s' I'⟩) hs) (lc_tree h Z H σ F Q he hk)

/-- y = [..] on one line -/
theorem ws_setLc {i : Nat} {y : Str} {py spos : Pos} {n : List Nat} {ks : KS} (hc : X.calm = true) (hN : X.N.Nodup) (hy : X.N[i]? = some y) (hyl : X.env.scope.names.lookup y = some .local) (hn : i ∉ n) (ok : BlkOk X.N X.env.scope scope own)
    (hg : ∀ (s : Shared) (H : Hp) (C : Addr) (cl : List (Str × Addr)) (fp : List Addr), PG (X.blk s H scope (compEnvC scope cl C X.env) fp) tg g)
    (h : WI X tg iter E fun w m src E1 => ∃ I : Nat → List D → EnvT → Prop, I 0 [] (wipeE E1 (own.map (·.2))) ∧ (∀ j acc E', j ≤ m → I j acc E' → ∀ p ∈ w, E'[p.1]? = some (some p.2)) ∧
      (∀ j acc E', j < m → I j acc E' → ∃ E2, TgB X.K g (own.map (·.2)) (src j) E' E2 ∧ ∀ (s : Shared) (H : Hp) (C : Addr) (cl : List (Str × Addr)) (fp : List Addr),
        WIf (X.blk s H scope (compEnvC scope cl C X.env) fp) ifs E2 fun b E3 => (b = true → ∀ (s : Shared) (H : Hp) (C : Addr) (cl : List (Str × Addr)) (fp : List Addr), WE (X.blk s H scope (compEnvC scope cl C X.env) fp) elt E3 fun y E4 => acc.length < 100000 ∧ I (j + 1) (acc ++ [y]) (wipeE E4 (own.map (·.2)))) ∧ (b = false → I (j + 1) acc (wipeE E3 (own.map (·.2))))) ∧
      ∀ acc E', I m acc E' → i < E'.length ∧ ks.nx (E'.set i (some (.lst acc))))
    (hsw : swapsWith (.ListComp elt [⟨tg, iter, ifs, 0⟩] scope pos) (some (.Name y py)) spos.line X.env = pure true)
    (hs : ∀ x, foldedSetIterable iter X.env x = pure x := by intro _; rfl) : WS X n (.Assign [.Name y py] (.ListComp elt [⟨tg, iter, ifs, 0⟩] scope pos) spos) E ks := by
  intro Z H σ F Dd he hk
  refine wpS_by (ps_setLc (pos := pos) (elt := elt) (ifs := ifs) (tt := (fun σ' H' Q' => ∀ (s : Shared) (H0 : Hp) (C : Addr) (cl : List (Str × Addr)) (fp : List Addr), wpTs (X.blk s H0 scope (compEnvC scope cl C X.env) fp) ifs σ' H' Q')) (te := (fun σ' H' Q' => ∀ (s : Shared) (H0 : Hp) (C : Addr) (cl : List (Str × Addr)) (fp : List Addr), wpE (X.blk s H0 scope (compEnvC scope cl C X.env) fp) elt σ' H' Q')) hc hN hy hyl hsw (pi_w (iter := iter) (tg := tg)) ok hg (fun s H0 C cl fp => ⟨fun pins s' σ' H' Q' I' q => q s H0 C cl fp pins s' I'⟩) (fun s H0 C cl fp => ⟨fun pins s' σ' H' Q' I' q => q s H0 C cl fp pins s' I'⟩) hs) ?_
  refine lc_tree (k := fun o E' => ∃ d, o = .val d ∧ i < E'.length ∧ ks.nx (E'.set i (some d))) (WI.mono h fun w m src E1 ⟨I, h1, h2, h3, h4⟩ => ⟨I, h1, h2, h3, fun acc E' q => ⟨_, rfl, h4 acc E' q⟩⟩) Z H σ F _ he fun o E1 Z1 H1 F1 G v ⟨d, eo, hE, q⟩ f r => ?_
  subst eo
  obtain ⟨F', e1, e2⟩ := f.env.asg r f.nd f.nz hE
  exact hk.nx _ Z1 H1 _ F' q ⟨e1, e1.nd, (fun a q => nomatch q), f.st.sub fun a ha => List.mem_append.mpr (e2 a ha), Pin.set hn⟩
end
end DL

namespace DL
open PySem PySem.Spec L2

/-! ### overloaded operators, by trees -/
inductive AddD : D → D → D → Prop
  | int {i j : Int} : AddD (.int i) (.int j) (.int (i + j))
  | lst {ds es : List D} : Imms ds → Imms es → ds.length + es.length ≤ 100000 → AddD (.lst ds) (.lst es) (.lst (ds ++ es))
  | tup {d e : D} {ds es : List D} : d.tseq = some ds → e.tseq = some es → Imms ds → Imms es → ds.length + es.length ≤ 100000 → AddD d e (.tup (ds ++ es))
  | str {x y : Str} : x.length + y.length ≤ 100000 → AddD (.str x) (.str y) (.str (x ++ y))
inductive MulD : D → D → D → Prop
  | int {i j : Int} : CMul i j → MulD (.int i) (.int j) (.int (i * j))
  | lst {ds : List D} {j : Int} : Imms ds → (-(2 ^ 63) ≤ j ∧ j < 2 ^ 63) → ds.length * j.toNat ≤ 100000 → MulD (.lst ds) (.int j) (.lst (List.replicate j.toNat ds).flatten)
section
variable {X : Cx} {a b : Expr} {E : EnvT} {k : Opd → EnvT → Prop} {pos p : Pos} {K : PySem.W.Frag}
theorem Op2.or1 {r r' : R2} {d1 d2 d : D} (h : Op2 K r d1 d2 d) : Op2 K (fun x y H Q => r x y H Q ∨ r' x y H Q) d1 d2 d := fun Z H v1 v2 G1 G2 r1 r2 Q q => .inl (h Z H v1 v2 G1 G2 r1 r2 Q q)
theorem Op2.or2 {r r' : R2} {d1 d2 d : D} (h : Op2 K r' d1 d2 d) : Op2 K (fun x y H Q => r x y H Q ∨ r' x y H Q) d1 d2 d := fun Z H v1 v2 G1 G2 r1 r2 Q q => .inr (h Z H v1 v2 G1 G2 r1 r2 Q q)
theorem op2_catL {ds es : List D} (i1 : Imms ds) (i2 : Imms es) (hl : ds.length + es.length ≤ 100000) : Op2 K rCat (.lst ds) (.lst es) (.lst (ds ++ es)) := fun Z H v1 v2 G1 G2 r1 r2 Q q => by
  cases r1 with
  | lst h1 s1 =>
    cases r2 with
    | lst h2 s2 =>
      have l1 := s1.len
      have l2 := s2.len
      exact ⟨_, _, _, _, rfl, rfl, h1, h2, Nat.le_trans (by omega) (by decide : 100000 ≤ sizeLine), fun p hp => q _ _ [p] (.lst upd_same (((s1.nils i1).app (s2.nils i2)).grow (Grow.new hp))) (Grow.new hp)⟩
theorem op2_catT {d1 d2 : D} {ds es : List D} (g1 : d1.tseq = some ds) (g2 : d2.tseq = some es) (i1 : Imms ds) (i2 : Imms es) (hl : ds.length + es.length ≤ 100000) : Op2 K (rCatA K) d1 d2 (.tup (ds ++ es)) := fun Z H v1 v2 G1 G2 r1 r2 Q q => by
  obtain ⟨p1, vs1, rfl, h1, s1⟩ := r1.tseq g1
  obtain ⟨p2, vs2, rfl, h2, s2⟩ := r2.tseq g2
  have l1 := s1.len
  have l2 := s2.len
  have r := (s1.nils i1).app (s2.nils i2)
  refine ⟨_, _, _, _, rfl, rfl, h1, h2, Nat.le_trans (by omega) (by decide : 100000 ≤ sizeLine), fun e0 => ?_, fun _ e0 => ?_, fun _ _ p hp => ?_⟩
  · refine q _ H [] (.tup h2 ?_) Grow.refl
    rw [e0] at r
    exact r
  · refine q _ H [] (.tup h1 ?_) Grow.refl
    rw [e0, List.append_nil] at r
    exact r
  · exact q _ _ [] (.tup (SqT.of upd_same) (r.grow (Grow.new0 hp))) (Grow.new0 hp)
theorem op2_addS {x y : Str} (hl : x.length + y.length ≤ 100000) : Op2 K (fun x y H Q => ∃ i j, x = .str i ∧ y = .str j ∧ i.length + j.length ≤ sizeLine ∧ Q (.str (i ++ j)) H) (.str x) (.str y) (.str (x ++ y)) := fun Z H v1 v2 G1 G2 r1 r2 Q q => by
  cases r1
  cases r2
  exact ⟨x, y, rfl, rfl, Nat.le_trans hl (by decide : 100000 ≤ sizeLine), q _ H [] (.str _) Grow.refl⟩
theorem op2_repL {ds : List D} {i : Int} (i1 : Imms ds) (hi : -(2 ^ 63) ≤ i ∧ i < 2 ^ 63) (hl : ds.length * i.toNat ≤ 100000) : Op2 K rRep (.lst ds) (.int i) (.lst (List.replicate i.toNat ds).flatten) := fun Z H v1 v2 G1 G2 r1 r2 Q q => by
  cases r2
  cases r1 with
  | lst h1 s1 =>
    have l1 := s1.len
    exact ⟨_, i, _, rfl, rfl, h1, hi.1, hi.2, Nat.le_trans (by rw [← l1]; exact hl) (by decide : 100000 ≤ sizeLine), fun p hp => q _ _ [p] (.lst upd_same (((s1.nils i1).rep i.toNat).grow (Grow.new hp))) (Grow.new hp)⟩
theorem wo_addD (h : WO X a E fun o1 E1 => WO X b E1 fun o2 E2 => ∃ d1 d2 d, o1.get E2 = some d1 ∧ o2.get E2 = some d2 ∧ AddD d1 d2 d ∧ k (.val d) E2) : WO X (.BinOp a .Add b pos) E k :=
  wo_bin (((op_add.or op_cat).or op_catA).or op_add_str) (WO.mono h fun o1 E1 q => WO.mono q fun o2 E2 ⟨d1, d2, d, g1, g2, ad, kk⟩ => ⟨d1, d2, d, g1, g2, by
    cases ad with
    | int => exact ((op2_I0 fun _ _ => .int _).or1.or1).or1
    | lst i1 i2 hl => exact ((op2_catL i1 i2 hl).or2.or1).or1
    | tup t1 t2 i1 i2 hl => exact (op2_catT t1 t2 i1 i2 hl).or2.or1
    | str hl => exact (op2_addS hl).or2, kk⟩)
theorem wo_mulD (h : WO X a E fun o1 E1 => WO X b E1 fun o2 E2 => ∃ d1 d2 d, o1.get E2 = some d1 ∧ o2.get E2 = some d2 ∧ MulD d1 d2 d ∧ k (.val d) E2) : WO X (.BinOp a .Mult b pos) E k :=
  wo_bin (op_mul.or op_rep) (WO.mono h fun o1 E1 q => WO.mono q fun o2 E2 ⟨d1, d2, d, g1, g2, ad, kk⟩ => ⟨d1, d2, d, g1, g2, by
    cases ad with
    | int hc => exact (op2_I hc fun _ _ => .int _).or1
    | lst i1 hj hl => exact (op2_repL i1 hj hl).or2, kk⟩)
end
/-! ### == by trees -/
theorem deq_int {i j : Int} : deq (.int i) (.int j) = decide (i = j) := by
  unfold deq
  simp only [toPy, PyData.eqv]
  exact Bool.beq_eq_decide_eq i j
theorem deq_non {d : D} : deq .non d = isNon d ∨ True := .inr trivial
theorem shp_int {i : Int} : Shp (.int i) := by
  unfold Shp SeqAt.shaped
  simp [toPy, PyData.canLay0, PyData.depth]
theorem shp_non : Shp .non := by
  unfold Shp SeqAt.shaped
  simp [toPy, PyData.canLay0, PyData.depth]
theorem shp_bl {b : Bool} : Shp (.bl b) := by
  unfold Shp SeqAt.shaped
  simp [toPy, PyData.canLay0, PyData.depth]
/-- a shape by its depth -/
def ShpN (n : Nat) (d : D) : Prop := (toPy d).canLay0 = true ∧ (toPy d).depth ≤ n
theorem ShpN.shp {n : Nat} {d : D} (h : ShpN n d) (hn : n ≤ 64) : Shp d := by
  unfold Shp SeqAt.shaped
  rw [Bool.and_eq_true]
  exact ⟨h.1, decide_eq_true (Nat.le_trans h.2 hn)⟩
theorem shpN_int {n : Nat} {i : Int} : ShpN n (.int i) := ⟨by simp [toPy, PyData.canLay0], by simp [toPy, PyData.depth]⟩
theorem shpN_non {n : Nat} : ShpN n .non := ⟨by simp [toPy, PyData.canLay0], by simp [toPy, PyData.depth]⟩
theorem shpN_bl {n : Nat} {b : Bool} : ShpN n (.bl b) := ⟨by simp [toPy, PyData.canLay0], by simp [toPy, PyData.depth]⟩
theorem shpN_all {n : Nat} : ∀ {ds : List D}, (∀ d ∈ ds, ShpN n d) → PyData.canLayAll0 (toPys ds) = true ∧ PyData.depthAll (toPys ds) ≤ n
  | [], _ => by simp [toPys, PyData.canLayAll0, PyData.depthAll]
  | d :: ds, h => by
    obtain ⟨h1, h2⟩ := shpN_all (n := n) (ds := ds) fun d hd => h d (List.mem_cons_of_mem _ hd)
    obtain ⟨h3, h4⟩ := h d List.mem_cons_self
    rw [toPys, PyData.canLayAll0, PyData.depthAll, h3, h1]
    exact ⟨rfl, Nat.max_le.mpr ⟨h4, h2⟩⟩
theorem shpN_tup {n : Nat} {ds : List D} (h : ∀ d ∈ ds, ShpN n d) : ShpN (n + 1) (.tup ds) := by
  obtain ⟨h1, h2⟩ := shpN_all h
  exact ⟨by rw [toPy, PyData.canLay0]; exact h1, by rw [toPy, PyData.depth]; omega⟩
theorem shpN_pt {n : Nat} {ds : List D} (h : ∀ d ∈ ds, ShpN n d) : ShpN (n + 1) (.pt ds) := by
  obtain ⟨h1, h2⟩ := shpN_all h
  exact ⟨by rw [toPy, PyData.canLay0]; exact h1, by rw [toPy, PyData.depth]; omega⟩
theorem shpN_lst {n : Nat} {ds : List D} (h : ∀ d ∈ ds, ShpN n d) : ShpN (n + 1) (.lst ds) := by
  obtain ⟨h1, h2⟩ := shpN_all h
  exact ⟨by rw [toPy, PyData.canLay0]; exact h1, by rw [toPy, PyData.depth]; omega⟩
def deqs (ds es : List D) : Bool := PyData.eqvAll (toPys ds) (toPys es)
theorem deqs_nil : deqs [] [] = true := by simp [deqs, toPys, PyData.eqvAll]
theorem deqs_cons {d e : D} {ds es : List D} : deqs (d :: ds) (e :: es) = (deq d e && deqs ds es) := by simp [deqs, deq, toPys, PyData.eqvAll]
theorem deqs_nc {d : D} {ds : List D} : deqs [] (d :: ds) = false := by simp [deqs, toPys, PyData.eqvAll]
theorem deqs_cn {d : D} {ds : List D} : deqs (d :: ds) [] = false := by simp [deqs, toPys, PyData.eqvAll]
theorem deq_tt {d e : D} {ds es : List D} (h1 : d.tseq = some ds) (h2 : e.tseq = some es) : deq d e = deqs ds es := by
  cases d <;> simp only [D.tseq, Option.some.injEq, reduceCtorEq] at h1 <;> cases e <;> simp only [D.tseq, Option.some.injEq, reduceCtorEq] at h2 <;> subst h1 <;> subst h2 <;> simp [deq, deqs, toPy, PyData.eqv]
theorem deq_ll {d e : D} {ds es : List D} (h1 : d.lseq = some ds) (h2 : e.lseq = some es) : deq d e = deqs ds es := by
  cases d <;> simp only [D.lseq, Option.some.injEq, reduceCtorEq] at h1 <;> cases e <;> simp only [D.lseq, Option.some.injEq, reduceCtorEq] at h2 <;> subst h1 <;> subst h2 <;> simp [deq, deqs, toPy, PyData.eqv]
theorem deqs_ints : ∀ {xs ys : List Int}, deqs (xs.map D.int) (ys.map D.int) = decide (xs = ys)
  | [], [] => by simp [deqs_nil]
  | [], y :: ys => by simp [deqs_nc]
  | x :: xs, [] => by simp [deqs_cn]
  | x :: xs, y :: ys => by
    rw [List.map_cons, List.map_cons, deqs_cons, deq_int, deqs_ints]
    by_cases h : x = y <;> by_cases h2 : xs = ys <;> simp [h, h2]
theorem deqs_len {ds es : List D} (h : ds.length ≠ es.length) : deqs ds es = false := by
  revert es
  induction ds with
  | nil =>
    intro es h
    cases es with
    | nil => exact absurd rfl h
    | cons e es => exact deqs_nc
  | cons d ds ih =>
    intro es h
    cases es with
    | nil => exact deqs_cn
    | cons e es =>
      rw [deqs_cons, ih (by simpa using h)]
      simp
end DL

namespace DL
open PySem PySem.Spec L2

/-! ### dicts whose keys and values stand in two lists -/
theorem valV_zip {k : Key} {v : V} : ∀ {ks : List Key} {vs : List V} {j : Nat}, ks.Nodup → ks[j]? = some k → vs[j]? = some v → valV (ks.zip vs) k = some v
  | [], _, j, _, h, _ => by simp at h
  | _ :: _, [], j, _, _, h => by simp at h
  | k0 :: ks, v0 :: vs, 0, _, h1, h2 => by
    have e1 : k0 = k := by simpa using h1
    have e2 : v0 = v := by simpa using h2
    rw [List.zip_cons_cons, valV_pos (p := (k0, v0)) e1, e2]
  | k0 :: ks, v0 :: vs, j + 1, nd, h1, h2 => by
    have h1' : ks[j]? = some k := by simpa using h1
    have ne : ¬ k0 = k := fun e => (List.nodup_cons.mp nd).1 (by rw [e]; exact List.mem_of_getElem? h1')
    rw [List.zip_cons_cons, valV_neg (p := (k0, v0)) ne]
    exact valV_zip (List.nodup_cons.mp nd).2 h1' (by simpa using h2)
theorem map_zip_put {k : Key} {v : V} : ∀ {ks : List Key} {vs : List V} {j : Nat}, ks.Nodup → ks[j]? = some k → (ks.zip vs).map (fun kv => if kv.1 = k then (kv.1, v) else kv) = ks.zip (vs.set j v)
  | [], _, j, _, h => by simp at h
  | _ :: _, [], j, _, _ => by simp
  | k0 :: ks, v0 :: vs, 0, nd, h1 => by
    have e1 : k0 = k := by simpa using h1
    have rest : (ks.zip vs).map (fun kv => if kv.1 = k then (kv.1, v) else kv) = ks.zip vs := by
      conv => rhs; rw [← List.map_id (ks.zip vs)]
      refine List.map_congr_left fun p hp => ?_
      have hm : p.1 ∈ ks := (List.of_mem_zip hp).1
      have ne : ¬ p.1 = k := fun e => (List.nodup_cons.mp nd).1 (by rw [e1, ← e]; exact hm)
      rw [if_neg ne]
      rfl
    rw [List.zip_cons_cons, List.map_cons, rest, List.set_cons_zero, List.zip_cons_cons, if_pos e1]
  | k0 :: ks, v0 :: vs, j + 1, nd, h1 => by
    have h1' : ks[j]? = some k := by simpa using h1
    have ne : ¬ k0 = k := fun e => (List.nodup_cons.mp nd).1 (by rw [e]; exact List.mem_of_getElem? h1')
    rw [List.zip_cons_cons, List.map_cons, map_zip_put (List.nodup_cons.mp nd).2 h1', List.set_cons_succ, List.zip_cons_cons, if_neg ne]
theorem putK_zip {k : Key} {v v0 : V} {ks : List Key} {vs : List V} {j : Nat} (nd : ks.Nodup) (h1 : ks[j]? = some k) (h2 : vs[j]? = some v0) : putK (ks.zip vs) k v = ks.zip (vs.set j v) := by
  unfold putK
  rw [if_pos, map_zip_put nd h1]
  rw [valV_any, valV_zip nd h1 h2]
  rfl
section
variable {K : PySem.W.Frag} {Z Z1 Z2 Z' : Addr → Prop} {H H1 H2 H' : Hp} {F F1 F2 F' G Gt G1 G2 G' R Fd Fd' : List Addr} {σ : Sl} {E E1 E2 E' : EnvT} {d d0 d1 d2 : D} {v v1 v2 : V} {ds ds' : List D} {vs vs' : List V} {a b : Addr} {i : Nat} {o' : HO}
theorem Reps.setI : ∀ {ds : List D} {vs : List V} {G : List Addr} {j : Nat}, Reps K Z H ds vs G → ds[j]? = some d0 → Imm d0 → Rep K Z H d v [] → Reps K Z H (ds.set j d) (vs.set j v) G
  | _, _, _, _, .nil, h, _, _ => by simp at h
  | _, _, _, 0, .cons r rs, h, hi, r' => by
    have e := Option.some.inj (by simpa using h)
    subst e
    have e2 := r.imm hi
    subst e2
    exact .cons r' rs
  | _, _, _, j + 1, .cons r rs, h, hi, r' => .cons r (Reps.setI rs (by simpa using h) hi r')
/-- a slot's tree changed in place, anywhere within -/
theorem EnvS.chgN (e : EnvS K Z H E σ F) (hE : E[i]? = some (some d)) (hv : σ[i]? = some (some v)) (hr : Rep K Z H d v G) (hR : EnvR K Z H (E.set i none) σ R) (hp : F.Perm (G ++ R)) (hb : b ∈ G) (hm : ∀ xs, ¬ Rd H b (.tup xs))
    (hs : ∀ x ∈ G1, x ∈ G) (hn : G1.Nodup) (rep : Rep K Z (L2.upd H b o') d1 v G1) :
    ∃ F', EnvS K Z (L2.upd H b o') (E.set i (some d1)) σ F' ∧ Stp Z H F Z (L2.upd H b o') F' := by
  have nF := List.nodup_append.mp (hp.nodup_iff.mp e.nd)
  have hbF : b ∈ F := hp.mem_iff.mpr (List.mem_append_left _ hb)
  have s0 : Stp Z H F Z (L2.upd H b o') F := Stp.upd hbF (e.nz b hbF) hm
  have s1 : Stp Z H [b] Z (L2.upd H b o') [b] := Stp.upd (by simp) (e.nz b hbF) hm
  have hR' := hR.step s1 (fun x hx q => by
    rw [List.mem_singleton.mp q] at hx
    exact nF.2.2 b hb b hx rfl)
  obtain ⟨F', h1, h2⟩ := hR'.put (i := i) (d := d1) (v := v) (G := G1) (by
    obtain ⟨hl, _⟩ := List.getElem?_eq_some_iff.mp hE
    simp [hl]) hv rep
  rw [List.set_set] at h1
  have inF : ∀ x ∈ F', x ∈ F := fun x hx => by
    rcases List.mem_append.mp (h2.mem_iff.mp hx) with q | q
    · exact hp.mem_iff.mpr (List.mem_append_left _ (hs x q))
    · exact hp.mem_iff.mpr (List.mem_append_right _ q)
  have nN : (G1 ++ R).Nodup := List.nodup_append.mpr ⟨hn, nF.2.1, fun x hx y hy q => nF.2.2 x (hs x hx) y hy q⟩
  refine ⟨F', ⟨h1, h2.nodup_iff.mpr nN, fun x hx => e.nz x (inF x hx), fun x z => ?_⟩, s0.sub inF⟩
  obtain ⟨o, q⟩ := e.zt x z
  exact s0.th x o q
theorem dic_nt {kvs : List (Key × V)} (h : H a = some (.dK kvs)) : ∀ xs, ¬ Rd H a (.tup xs) := fun xs q => by
  rcases q with q | ⟨o, q⟩ <;> rw [h] at q <;> cases q
theorem EnvS.dic {ks : List Key} (e : EnvS K Z H E σ F) (hE : E[i]? = some (some (.dic ks ds))) : ∃ a vs Fd R, σ[i]? = some (some (.ref a)) ∧ H a = some (.dK (ks.zip vs)) ∧ ks.length = vs.length ∧ Reps K Z H ds vs Fd ∧ EnvR K Z H (E.set i none) σ R ∧ F.Perm ((a :: Fd) ++ R) := by
  obtain ⟨v, G, R, h1, h2, h3, h4⟩ := e.r.get hE
  cases h2 with
  | dic hl hk rs => exact ⟨_, _, _, R, h1, hl, hk, rs, h3, h4⟩
/-- a list of ints that stands in an owned row -/
theorem Reps.within {g : Int} {gs : List Int} : ∀ {ds : List D} {vs : List V} {G : List Addr} {j : Nat}, Reps K Z H ds vs G → ds[j]? = some (.lst ((g :: gs).map D.int)) → G.Nodup →
    ∃ b ws, vs[j]? = some (.ref b) ∧ H b = some (.lst ws) ∧ ws = (g :: gs).map V.int ∧ b ∈ G ∧ (∀ H', (∀ y ∈ G, y ≠ b → ∀ o, H y = some o → H' y = some o) → Kp Z H Z H' → H' b = some (.lst (gs.map V.int)) → Reps K Z H' (ds.set j (.lst (gs.map D.int))) vs G)
  | _, _, _, _, .nil, h, _ => by simp at h
  | _, _, _, 0, .cons r1 rs1, h, nd => by
    have ndp := List.nodup_append.mp nd
    have e := Option.some.inj (by simpa using h)
    subst e
    cases r1 with
    | lst hb rr =>
      rename_i b ws Fb
      have ei := Reps.ints (ns := g :: gs) rr
      have ef := rr.imm (imms_ints (xs := g :: gs))
      subst ei
      subst ef
      refine ⟨b, _, rfl, hb, rfl, List.mem_append_left _ List.mem_cons_self, fun H' hk kp hb' => ?_⟩
      refine .cons (.lst hb' (Reps.ofInts gs)) (rs1.kp kp fun y hy o ho => hk y (List.mem_append_right _ hy) (fun q => ?_) o ho)
      subst q
      exact ndp.2.2 y List.mem_cons_self y hy rfl
  | _, _, _, j + 1, .cons r1 rs1, h, nd => by
    have ndp := List.nodup_append.mp nd
    obtain ⟨b, ws, h1, h2, h3, h4, h5⟩ := Reps.within rs1 (by simpa using h) ndp.2.1
    refine ⟨b, ws, by simpa using h1, h2, h3, List.mem_append_right _ h4, fun H' hk kp hb' => ?_⟩
    refine .cons (r1.kp kp fun y hy o ho => hk y (List.mem_append_left _ hy) (fun q => ?_) o ho) (h5 H' (fun y hy => hk y (List.mem_append_right _ hy)) kp hb')
    subst q
    exact ndp.2.2 y hy y h4 rfl
end
section
variable {X : Cx} {n : List Nat} {E : EnvT} {k : Opd → EnvT → Prop} {ks : KS} {pos pos' apos p p2 : Pos} {i j jj : Nat} {x z : Str} {e : Expr} {keys : List Key} {ds : List D} {d : D}
/-- x['z'] -/
theorem wo_dget (hu : X.A.units + 1 < cLine) (hN : X.N[i]? = some x) (hE : E[i]? = some (some (.dic keys ds))) (hk : keys.Nodup) (hj : keys[j]? = some (.inr z)) (hd : ds[j]? = some d) (hi : Imm d) (h : k (.val d) E)
    (hv : Vis X.env.scope x := by first | exact Or.inl rfl | exact Or.inr (Or.inl rfl) | exact Or.inr (Or.inr rfl)) (hdb : (x == ("__debug__" : Str)) = false := by decide) (hcd : (x == ("__classdict__" : Str)) = false := by decide) :
    WO X (.Subscript (.Name x p) (.Constant (.str z) jj p2) pos) E k := by
  intro Z H σ F Q he hk'
  obtain ⟨a, vs, Fd, R, hv1, hH, hl, rs, hR, hp⟩ := he.dic hE
  obtain ⟨v, G', hvj, rv, _⟩ := rs.get hd
  refine wpE_by (pe_dget hu (pe_var hN hv hdb hcd) pe_str (fun _ _ => rfl)) ⟨_, hv1, a, v, rfl, ?_, hk' _ E Z H F [] v h (Fin.refl he) (rv.nils hi)⟩
  have g := DGet.k (k := Sum.inr z) hH
  rw [valV_zip hk hj hvj] at g
  exact g
/-- x['z'] = e, of a thing that owns nothing -/
theorem ws_dput (hu : X.A.units + 1 < cLine) (hN : X.N[i]? = some x) (h : WE X e E fun d E1 => ∃ keys ds j d0, E1[i]? = some (some (.dic keys ds)) ∧ keys.Nodup ∧ keys[j]? = some (.inr z) ∧ ds[j]? = some d0 ∧ Imm d0 ∧ Imm d ∧ keys.length ≤ 100000 ∧ ks.nx (E1.set i (some (.dic keys (ds.set j d)))))
    (hs : swapsWith e (some (.Subscript (.Name x p) (.Constant (.str z) jj p2) pos')) pos.line X.env = pure false := by rfl)
    (hv : Vis X.env.scope x := by first | exact Or.inl rfl | exact Or.inr (Or.inl rfl) | exact Or.inr (Or.inr rfl)) (hdb : (x == ("__debug__" : Str)) = false := by decide) (hcd : (x == ("__classdict__" : Str)) = false := by decide) :
    WS X n (.Assign [.Subscript (.Name x p) (.Constant (.str z) jj p2) pos'] e pos) E ks := by
  intro Z H σ F D he hk'
  refine wpS_by (ps_dput hu (pe_var hN hv hdb hcd) pe_str pe_w hs) (h Z H σ F _ he fun o E1 Z1 H1 F1 G v ⟨d, eo, keys, ds, j, d0, hE, hk, hj, hd, hi0, hi, hlen, q⟩ f r => ?_)
  subst eo
  obtain ⟨a, vs, Fd, R, hv1, hH, hl, rs, hR, hp⟩ := f.env.dic hE
  have rv : Rep X.K Z1 H1 d v [] := Rep.nils r hi
  obtain ⟨v0, G0, hvj, _, _⟩ := rs.get hd
  have nG := (List.nodup_append.mp (hp.nodup_iff.mp f.env.nd)).1
  have haF : a ∈ F1 := hp.mem_iff.mpr (List.mem_append_left _ List.mem_cons_self)
  have s1 : Stp Z1 H1 [a] Z1 (upd H1 a (.dK (putK (keys.zip vs) (Sum.inr z) v))) [a] := Stp.upd (by simp) (f.env.nz a haF) (dic_nt hH)
  have rep : Rep X.K Z1 (upd H1 a (.dK (putK (keys.zip vs) (Sum.inr z) v))) (.dic keys (ds.set j d)) (.ref a) (a :: Fd) := by
    refine .dic (vs := vs.set j v) ?_ (by rw [List.length_set]; exact hl) ((rs.setI hd hi0 rv).step s1 fun y hy q => ?_)
    · rw [upd_same, putK_zip hk hj hvj]
    · rw [List.mem_singleton.mp q] at hy
      exact (List.nodup_cons.mp nG).1 hy
  obtain ⟨F', e2, s2⟩ := f.env.chgN hE hv1 (.dic hH hl rs) hR hp List.mem_cons_self (dic_nt hH) (fun y hy => hy) nG rep
  refine ⟨_, hv1, a, _, rfl, DPut.k (k := Sum.inr z) hH ?_, ?_⟩
  · rw [List.length_zip]
    exact Nat.lt_of_le_of_lt (Nat.le_trans (Nat.min_le_left _ _) hlen) (by decide)
  · exact hk'.nx _ Z1 _ σ F' q ⟨e2, e2.nd, (fun y hy => nomatch hy), f.nil.st.trans s2, Pin.refl⟩
/-- x['z'] != [], a list of ints -/
theorem wo_dne {gs : List Int} (hu : X.A.units + 64 < cLine) (hN : X.N[i]? = some x) (hE : E[i]? = some (some (.dic keys ds))) (hk : keys.Nodup) (hj : keys[j]? = some (.inr z)) (hd : ds[j]? = some (.lst (gs.map D.int))) (h : k (.val (.bl (!decide (gs = [])))) E)
    (hv : Vis X.env.scope x := by first | exact Or.inl rfl | exact Or.inr (Or.inl rfl) | exact Or.inr (Or.inr rfl)) (hdb : (x == ("__debug__" : Str)) = false := by decide) (hcd : (x == ("__classdict__" : Str)) = false := by decide) :
    WO X (.Compare (.Subscript (.Name x p) (.Constant (.str z) jj p2) pos') [.NotEq] [.List [] apos] pos) E k := by
  intro Z H σ F Q he hk'
  obtain ⟨a, vs, Fd, R, hv1, hH, hl, rs, hR, hp⟩ := he.dic hE
  obtain ⟨v, G', hvj, rv, _⟩ := rs.get hd
  refine wpE_by (pe_cmpR (op_neD hu) (pe_dget (by omega) (pe_var hN hv hdb hcd) pe_str (fun _ _ => rfl)) (pe_lst pa_nil) (nomark _)) ⟨_, hv1, a, v, rfl, ?_, Nat.zero_le _, fun q hq => ?_⟩
  · have g := DGet.k (k := Sum.inr z) hH
    rw [valV_zip hk hj hvj] at g
    exact g
  · have gr := Grow.new0 (H := H) (p := q) (o := .lst []) hq
    have s1 : ShpN 1 (.lst (gs.map D.int)) := shpN_lst fun d hd => by
      obtain ⟨y, _, rfl⟩ := List.mem_map.mp hd
      exact shpN_int
    have s2 : ShpN 1 (.lst []) := shpN_lst fun d hd => nomatch hd
    have rq : Rep X.K Z (upd H q (.lst [])) (.lst []) (.ref q) [q] := .lst upd_same .nil
    refine ⟨_, _, (rv.grow gr).dp s1.1, rq.dp s2.1, s1.shp (by decide), s2.shp (by decide), ?_⟩
    have e : (!PyData.eqv (toPy (.lst (gs.map D.int))) (toPy (.lst []))) = !decide (gs = []) := by
      have q2 : PyData.eqv (toPy (.lst (gs.map D.int))) (toPy (.lst ([].map D.int))) = decide (gs = []) := by
        have q3 := deqs_ints (xs := gs) (ys := [])
        have q4 : deq (.lst (gs.map D.int)) (.lst ([].map D.int)) = deqs (gs.map D.int) ([].map D.int) := deq_ll rfl rfl
        rw [q3] at q4
        exact q4
      exact congrArg (!·) q2
    rw [e]
    exact hk' _ E Z _ F [] _ h ((Fin.refl he).grow gr) (.bl _)
/-- x['z'].pop(0), a list of ints -/
theorem wo_dpop {g : Int} {gs : List Int} (hu : X.A.units + 1 < cLine) (hN : X.N[i]? = some x) (hE : E[i]? = some (some (.dic keys ds))) (hk : keys.Nodup) (hj : keys[j]? = some (.inr z)) (hd : ds[j]? = some (.lst ((g :: gs).map D.int))) (h : k (.val (.int g)) (E.set i (some (.dic keys (ds.set j (.lst (gs.map D.int)))))))
    (hb : ∀ t, PE X (.Subscript (.Name x p) (.Constant (.str z) jj p2) pos') t → PE X (.Call (.Attribute (.Subscript (.Name x p) (.Constant (.str z) jj p2) pos') "pop" apos) [e] [] pos) (tBM X.K "list" rPopAt t (tCons (tC (.int 0)) tNil)))
    (hv : Vis X.env.scope x := by first | exact Or.inl rfl | exact Or.inr (Or.inl rfl) | exact Or.inr (Or.inr rfl)) (hdb : (x == ("__debug__" : Str)) = false := by decide) (hcd : (x == ("__classdict__" : Str)) = false := by decide) :
    WO X (.Call (.Attribute (.Subscript (.Name x p) (.Constant (.str z) jj p2) pos') "pop" apos) [e] [] pos) E k := by
  intro Z H σ F Q he hk'
  obtain ⟨a, vs, Fd, R, hv1, hH, hl, rs, hR, hp⟩ := he.dic hE
  obtain ⟨v, G', hvj, rv, _⟩ := rs.get hd
  have nG := (List.nodup_append.mp (hp.nodup_iff.mp he.nd)).1
  obtain ⟨b, ws, hb1, hb2, hb3, hb4, hb5⟩ := Reps.within rs hd (List.nodup_cons.mp nG).2
  subst hb3
  have eb : v = .ref b := by rw [hvj] at hb1; exact Option.some.inj hb1
  subst eb
  have hbF : b ∈ F := hp.mem_iff.mpr (List.mem_append_left _ (List.mem_cons_of_mem _ hb4))
  have s1 : Stp Z H [b] Z (upd H b (.lst (gs.map V.int))) [b] := Stp.upd (by simp) (he.nz b hbF) (lst_nt hb2)
  have nab : a ≠ b := fun q => (List.nodup_cons.mp nG).1 (by rw [q]; exact hb4)
  have rep : Rep X.K Z (upd H b (.lst (gs.map V.int))) (.dic keys (ds.set j (.lst (gs.map D.int)))) (.ref a) (a :: Fd) :=
    .dic (vs := vs) (by rw [upd_ne nab]; exact hH) hl (hb5 _ (fun y hy hne o ho => by rw [upd_ne hne]; exact ho) s1.kp upd_same)
  obtain ⟨F', e2, s2⟩ := he.chgN hE hv1 (.dic hH hl rs) hR hp (List.mem_cons_of_mem _ hb4) (lst_nt hb2) (fun y hy => hy) nG rep
  refine wpE_by (hb _ (pe_dget hu (pe_var hN hv hdb hcd) pe_str (fun _ _ => rfl))) ⟨_, hv1, a, .ref b, rfl, ?_, .inl ⟨rfl, _, SqL.of hb2⟩, ?_⟩
  · have g := DGet.k (k := Sum.inr z) hH
    rw [valV_zip hk hj hvj] at g
    exact g
  · have hix : ixN ((g :: gs).map V.int).length 0 = some 0 := by
      unfold ixN
      rw [if_pos (by decide), if_pos (by simp)]
      rfl
    refine ⟨b, _, 0, 0, .int g, rfl, rfl, hb2, by decide, by decide, (ixN_seq hix).1, rfl, ?_⟩
    exact hk' _ _ Z _ F' [] _ h ⟨e2, e2.nd, (fun y hy => nomatch hy), s2⟩ (.int g)
end
end DL

namespace DL
open PySem PySem.Spec L2
section
variable {X : Cx} {n : List Nat} {E : EnvT} {k : Opd → EnvT → Prop} {pos : Pos} {e : Expr}
/-- a list that will not change any more -/
theorem wo_freeze (h : WO X e E fun o E1 => ∃ ds, o = .val (.lst ds) ∧ Imms ds ∧ k (.val (.fz ds)) E1) : WO X e E k := by
  intro Z H σ F Q he hk
  refine h Z H σ F Q he fun o E1 Z1 H1 F1 G v ⟨ds, eo, im, q⟩ f r => ?_
  subst eo
  have r' : Rep X.K Z1 H1 (.lst ds) v G := r
  cases r' with
  | lst hl rs =>
    rename_i a vs Fd
    have ed := rs.imm im
    subst ed
    have aG : a ∉ F1 := fun q => (List.nodup_append.mp f.nd).2.2 a (by simp) a q rfl
    refine hk _ E1 (fun b => Z1 b ∨ b = a) H1 F1 [] _ q ⟨⟨f.env.r.kp ⟨fun _ z => .inl z, fun _ _ z => z, fun _ _ _ z => z, fun _ _ _ z => z⟩ fun _ _ _ z => z, f.env.nd, fun x hx z => ?_, fun x z => ?_⟩, f.env.nd, (fun x hx => nomatch hx), ?_⟩ (.fz (.inl ⟨.inr rfl, .inl hl⟩) (rs.kp ⟨fun _ z => .inl z, fun _ _ z => z, fun _ _ _ z => z, fun _ _ _ z => z⟩ fun x hx => nomatch hx))
    · rcases z with z | z
      · exact f.env.nz x hx z
      · exact aG (by rw [← z]; exact hx)
    · rcases z with z | z
      · exact f.env.zt x z
      · exact ⟨_, by rw [z]; exact hl⟩
    · refine ⟨fun x z => .inl (f.st.z1 x z), fun x z => ?_, f.st.fr, f.st.th, fun x hx => f.st.f2 x (List.mem_append_right _ hx), f.st.tu, f.st.fl, f.st.ft⟩
      rcases z with z | z
      · exact f.st.z2 x z
      · rw [z]
        exact .inr (f.st.f2 a (List.mem_append_left _ (by simp)))
end
/-! ### {'z': e, ..} -/
def WVs (X : Cx) : List Expr → EnvT → (List D → EnvT → Prop) → Prop
  | [], E, k => k [] E
  | e :: es, E, k => WE X e E fun d E1 => WVs X es E1 fun ds E2 => k (d :: ds) E2
def pairT (X : Cx) : List Str → List Expr → List (TE × TE)
  | z :: zs, e :: es => (tC (.str z), wpE X e) :: pairT X zs es
  | _, _ => []
theorem pairs_run {X : Cx} : ∀ {zs : List Str} {es : List Expr} {E : EnvT} {k : List D → EnvT → Prop}, zs.length = es.length → WVs X es E k → ∀ (Z : Addr → Prop) (H : Hp) (σ : Sl) (F : List Addr) (Q : List (V × V) → Hp → Prop), EnvS X.K Z H E σ F →
    (∀ (ds : List D) (E' : EnvT) (Z' : Addr → Prop) (H' : Hp) (F' G : List Addr) (vs : List V), k ds E' → ds.length = es.length → Fin X.K Z H σ F E' Z' H' F' G → Reps X.K Z' H' ds vs G → Q ((zs.map V.str).zip vs) H') → tPairs (pairT X zs es) σ H Q
  | [], [], E, k, _, h, Z, H, σ, F, Q, he, hk => hk [] E Z H F [] [] h rfl (Fin.refl he) .nil
  | z :: zs, e :: es, E, k, hl, h, Z, H, σ, F, Q, he, hk => by
    show wpE X e σ H _
    refine h Z H σ F _ he fun o E1 Z1 H1 F1 G1 v ⟨d, eo, q⟩ f r => ?_
    subst eo
    have r1 : Rep X.K Z1 H1 d v G1 := r
    refine pairs_run (by simpa using hl) q Z1 H1 σ F1 _ f.env fun ds E2 Z2 H2 F2 G2 vs q2 l2 f2 rs => ?_
    exact hk (d :: ds) E2 Z2 H2 F2 (G1 ++ G2) (v :: vs) q2 (by rw [List.length_cons, List.length_cons, l2]) (f.join r1.mem f2) (.cons (r1.step f2.st (f.off r1.mem f2)) rs)
  | [], _ :: _, _, _, hl, _, _, _, _, _, _, _, _ => by simp at hl
  | _ :: _, [], _, _, hl, _, _, _, _, _, _, _, _ => by simp at hl
theorem mergeK_new : ∀ {more kvs : List (Key × V)}, (∀ p ∈ more, valV kvs p.1 = none) → (more.map (·.1)).Nodup → mergeK kvs more = kvs ++ more
  | [], kvs, _, _ => by rw [List.append_nil]; rfl
  | p :: more, kvs, h, nd => by
    have h0 := h p List.mem_cons_self
    show mergeK (putK kvs p.1 p.2) more = _
    have ndc : (p.1 :: more.map (·.1)).Nodup := nd
    rw [putK_new p.2 h0, mergeK_new (fun q hq => ?_) (List.nodup_cons.mp ndc).2, List.append_assoc]
    · rfl
    · rw [valV_snoc p.1 q.1 p.2 kvs h0, if_neg, h q (List.mem_cons_of_mem _ hq)]
      intro e
      exact (List.nodup_cons.mp ndc).1 (by rw [← e]; exact List.mem_map_of_mem hq)
section
variable {X : Cx} {n : List Nat} {E : EnvT} {k : Opd → EnvT → Prop} {pos : Pos}
theorem wo_disp {keys : List (Option Expr)} {es : List Expr} {zs : List Str} (hp : PE X (.Dict keys es pos) (tDisp (pairT X zs es))) (hl : zs.length = es.length) (hl15 : zs.length ≤ 15) (nd : zs.Nodup) (h : WVs X es E fun ds E1 => k (.val (.dic (zs.map Sum.inr) ds)) E1) : WO X (.Dict keys es pos) E k := by
  intro Z H σ F Q he hk
  refine wpE_by hp fun p hp0 => ?_
  have g0 := Grow.new (H := H) (p := p) (o := .dK []) hp0
  have e0 : EnvS X.K Z (upd H p (.dK [])) E σ F := ⟨he.r.kp g0.kp fun a _ o e => g0.gr a o e, he.nd, he.nz, fun a z => let ⟨o, e⟩ := he.zt a z; ⟨o, g0.gr a o e⟩⟩
  have pF : p ∉ F := fun q => by
    obtain ⟨o, e⟩ := he.r.mem p q
    rw [hp0] at e
    cases e
  have pZ : ¬ Z p := fun q => by
    obtain ⟨o, e⟩ := he.zt p q
    rw [hp0] at e
    cases e
  refine pairs_run hl h Z _ σ F _ e0 fun ds E2 Z2 H2 F2 G vs q ld f rs => ?_
  have f0 : Stp Z H F Z (upd H p (.dK [])) ([p] ++ F) := g0.st
  have mem0 : ∀ a ∈ [p], ∃ u, upd H p (.dK []) a = some u := fun a ha => ⟨.dK [], by rw [List.mem_singleton.mp ha]; exact upd_same⟩
  have ap := f.st.apart (G := [p]) (F1 := F) (F2 := G ++ F2) mem0 (List.nodup_cons.mpr ⟨pF, he.nd⟩) f.nd
  have hH2 : H2 p = some (.dK []) := f.st.fr p _ upd_same (ap.2 p (by simp))
  have nz2 := f.st.nz (G := [p]) mem0 ap.2 (fun a ha => by rw [List.mem_singleton.mp ha]; exact pZ)
  have stA : Stp Z H F Z2 H2 ([p] ++ (G ++ F2)) := f0.push f.st
  have hv := rs.len
  have hkl : (zs.map (Sum.inr : Str → Key)).length = vs.length := by rw [List.length_map]; omega
  have ndk : (zs.map (Sum.inr : Str → Key)).Nodup := List.Pairwise.map _ (fun a b hab e => hab (Sum.inr.inj e)) nd
  refine ⟨hH2, (zs.map Sum.inr).zip vs, ?_, ?_, ?_⟩
  · rw [List.zip_map_left, List.zip_map_left, List.map_map]
    rfl
  · rw [List.length_zip, List.length_map]
    omega
  · rw [mergeK_new (kvs := []) (fun _ _ => rfl) (by rw [List.map_fst_zip (by omega)]; exact ndk), List.nil_append]
    have ndall : (p :: (G ++ F2)).Nodup := ap.1
    have su : Stp Z2 H2 [p] Z2 (upd H2 p (.dK ((zs.map Sum.inr).zip vs))) [p] := Stp.upd (by simp) (nz2 p (by simp)) (dic_nt hH2)
    have notP : ∀ a ∈ G ++ F2, a ∉ [p] := fun a ha hm => by
      rw [List.mem_singleton.mp hm] at ha
      exact (List.nodup_cons.mp ndall).1 ha
    refine hk _ E2 Z2 _ F2 (p :: G) (.ref p) q ⟨⟨f.env.r.step su fun a ha => notP a (List.mem_append_right _ ha), f.env.nd, f.env.nz, fun x z => ?_⟩, ndall, fun x hx => ?_, ?_⟩ (.dic upd_same hkl (rs.step su fun a ha => notP a (List.mem_append_left _ ha)))
    · obtain ⟨o, e⟩ := f.env.zt x z
      exact su.th x o e
    · rcases List.mem_cons.mp hx with z | z
      · rw [z]; exact nz2 p (by simp)
      · exact f.nz x z
    · refine stA.trans (su.more (fun a ha => by rw [List.mem_singleton.mp ha]; simp) fun a ha => ?_)
      rcases List.mem_cons.mp ha with z | z
      · exact .inl (by rw [z]; simp)
      · exact .inr (List.mem_append_right _ z)
end
end DL

namespace DL
open PySem PySem.Spec L2

/-! ### comparisons, by trees -/
def rD (X : Cx) (op : CmpOp) : R2 := fun x y H Q => ∃ r : R2, OpR X (compareOp op) r ∧ r x y H Q
theorem opr_D {X : Cx} {op : CmpOp} : OpR X (compareOp op) (rD X op) := fun pins s σ H x y v u Q I rx ry ⟨r, ho, q⟩ => ho pins s σ H x y v u Q I rx ry q
def CmpD (X : Cx) (op : CmpOp) (d1 d2 : D) (t : Bool) : Prop := Op2 X.K (rD X op) d1 d2 (.bl t)
theorem shp_lay {d : D} (h : Shp d) : (toPy d).canLay0 = true := by
  unfold Shp SeqAt.shaped at h
  rw [Bool.and_eq_true] at h
  exact h.1
section
variable {X : Cx} {n : List Nat} {e a b c l f : Expr} {es rs : List Expr} {E : EnvT} {k : Opd → EnvT → Prop} {kb : Bool → EnvT → Prop} {ks : KS} {pos p : Pos} {op op' op1 op2 : CmpOp} {ops : List CmpOp} {r r' r1 r2 : Expr}
theorem CmpD.mk {op : CmpOp} {r : R2} {d1 d2 : D} {t : Bool} (ho : OpR X (compareOp op) r) (h : Op2 X.K r d1 d2 (.bl t)) : CmpD X op d1 d2 t := fun Z H v1 v2 G1 G2 r1 r2 Q q => ⟨r, ho, h Z H v1 v2 G1 G2 r1 r2 Q q⟩
theorem cmp_lt {i j : Int} : CmpD X .Lt (.int i) (.int j) (decide (i < j)) := .mk op_lt (op2_I0 fun _ _ => .bl _)
theorem cmp_le {i j : Int} : CmpD X .LtE (.int i) (.int j) (decide (i ≤ j)) := .mk op_le (op2_I0 fun _ _ => .bl _)
theorem cmp_gt {i j : Int} : CmpD X .Gt (.int i) (.int j) (decide (j < i)) := .mk op_gt (op2_I0 fun _ _ => .bl _)
theorem cmp_ge {i j : Int} : CmpD X .GtE (.int i) (.int j) (decide (j ≤ i)) := .mk op_ge (op2_I0 fun _ _ => .bl _)
theorem cmp_eqI {i j : Int} : CmpD X .Eq (.int i) (.int j) (decide (i = j)) := .mk op_eq fun Z H v1 v2 G1 G2 r1 r2 Q q => by
  cases r1
  cases r2
  refine ⟨rfl, q _ H [] ?_ Grow.refl⟩
  have e1 : decide (V.int i = V.int j) = decide (i = j) := by by_cases h : i = j <;> simp [h]
  rw [e1]
  exact .bl _
theorem cmp_neI {i j : Int} : CmpD X .NotEq (.int i) (.int j) (!decide (i = j)) := .mk op_ne fun Z H v1 v2 G1 G2 r1 r2 Q q => by
  cases r1
  cases r2
  refine ⟨rfl, q _ H [] ?_ Grow.refl⟩
  have e1 : decide (V.int i = V.int j) = decide (i = j) := by by_cases h : i = j <;> simp [h]
  rw [e1]
  exact .bl _
theorem cmp_eqS {i j : Str} : CmpD X .Eq (.str i) (.str j) (decide (i = j)) := .mk op_eq fun Z H v1 v2 G1 G2 r1 r2 Q q => by
  cases r1
  cases r2
  refine ⟨rfl, q _ H [] ?_ Grow.refl⟩
  have e1 : decide (V.str i = V.str j) = decide (i = j) := by by_cases h : i = j <;> simp [h]
  rw [e1]
  exact .bl _
theorem cmp_isN {d : D} : CmpD X .Is d .non (isNon d) := .mk op_isN fun Z H v1 v2 G1 G2 r1 r2 Q q => by
  cases r2
  refine ⟨rfl, q _ H [] ?_ Grow.refl⟩
  rw [r1.isNon]
  exact .bl _
theorem cmp_notN {d : D} : CmpD X .IsNot d .non (!isNon d) := .mk op_notN fun Z H v1 v2 G1 G2 r1 r2 Q q => by
  cases r2
  refine ⟨rfl, q _ H [] ?_ Grow.refl⟩
  rw [r1.isNon]
  exact .bl _
theorem cmp_eq {d1 d2 : D} (hu : X.A.units + 64 < cLine) (s1 : Shp d1) (s2 : Shp d2) : CmpD X .Eq d1 d2 (deq d1 d2) := .mk (op_eqD hu) fun Z H v1 v2 G1 G2 r1 r2 Q q =>
  ⟨_, _, r1.dp (shp_lay s1), r2.dp (shp_lay s2), s1, s2, q _ H [] (.bl _) Grow.refl⟩
theorem cmp_ne {d1 d2 : D} (hu : X.A.units + 64 < cLine) (s1 : Shp d1) (s2 : Shp d2) : CmpD X .NotEq d1 d2 (!deq d1 d2) := .mk (op_neD hu) fun Z H v1 v2 G1 G2 r1 r2 Q q =>
  ⟨_, _, r1.dp (shp_lay s1), r2.dp (shp_lay s2), s1, s2, q _ H [] (.bl _) Grow.refl⟩
theorem wo_cmpD (hm : behindInMarks op b = false) (h : WO X a E fun o1 E1 => WO X b E1 fun o2 E2 => ∃ d1 d2 t, o1.get E2 = some d1 ∧ o2.get E2 = some d2 ∧ CmpD X op d1 d2 t ∧ k (.val (.bl t)) E2) : WO X (.Compare a [op] [b] pos) E k :=
  wo_cmp opr_D hm (WO.mono h fun o1 E1 q => WO.mono q fun o2 E2 ⟨d1, d2, t, g1, g2, c, kk⟩ => ⟨d1, d2, _, g1, g2, c, kk⟩)
theorem wt_cmpD (hm : behindInMarks op b = false) (h : WO X a E fun o1 E1 => WO X b E1 fun o2 E2 => ∃ d1 d2 t, o1.get E2 = some d1 ∧ o2.get E2 = some d2 ∧ CmpD X op d1 d2 t ∧ kb t E2) : WT X (.Compare a [op] [b] pos) E kb := by
  intro Z H σ F Q he hk
  refine wpT_by (pt_cmpR opr_D pe_w pe_w hm) (h Z H σ F _ he fun o1 E1 Z1 H1 F1 G1 v1 k1 f1 r1 => ?_)
  refine k1 Z1 H1 σ F1 _ f1.env fun o2 E2 Z2 H2 F2 G2 v2 ⟨d1, d2, t, g1, g2, op, k2⟩ f2 r2 => ?_
  have r1' := r1.step f2.st (f1.off r1.mem f2)
  obtain ⟨G3, q1, _⟩ := r1'.use f2.env g1
  obtain ⟨G4, q2, _⟩ := r2.use f2.env g2
  refine op Z2 H2 v1 v2 G3 G4 q1 q2 _ fun v H' G rv gr => ?_
  cases rv
  exact ⟨t, rfl, hk t E2 Z2 H' F2 k2 ((f1.then f2).nil.grow gr).nil⟩

/-! ### chains of comparisons of ints -/
def CmpI (X : Cx) (op : CmpOp) (f : Int → Int → Bool) : Prop := OpR X (compareOp op) (rI0 fun i j => .bl (f i j))
def wpTC (X : Cx) (i : Int) (ops : List CmpOp) (es : List Expr) (σ : Sl) (H : Hp) (Q : Bool → Hp → Prop) : Prop := ∀ (pins : List (Addr × Obj)) (s : Shared) (pos : Pos) (u : Value), Inv X pins σ H s → RelV (.int i) u →
  wpAny (model X.prog X.w) X.A (testChain pos u ops (evalEach es X.env)) (TP X pins σ Q) X.xe s
def WTC (X : Cx) (i : Int) (ops : List CmpOp) (es : List Expr) (E : EnvT) (k : Bool → EnvT → Prop) : Prop := ∀ (Z : Addr → Prop) (H : Hp) (σ : Sl) (F : List Addr) (Q : Bool → Hp → Prop), EnvS X.K Z H E σ F →
  (∀ (b : Bool) (E' : EnvT) (Z' : Addr → Prop) (H' : Hp) (F' : List Addr), k b E' → Fin X.K Z H σ F E' Z' H' F' [] → Q b H') → wpTC X i ops es σ H Q
theorem wtc_last {i : Int} {f : Int → Int → Bool} (hf : CmpI X op f) (h : WO X r E fun o E1 => ∃ j, o.get E1 = some (.int j) ∧ kb (f i j) E1) : WTC X i [op] [r] E kb := by
  intro Z H σ F Q he hk pins s pos u I ru
  refine PyProof.Rows.test_last (thn (h Z H σ F (fun v H1 => ∃ j, v = .int j ∧ Q (f i j) H1) he (fun o E1 Z1 H1 F1 G v ⟨j, g, q⟩ f1 rv => ?_) pins s I) fun v s1 ⟨x, H1, I1, r1, q1⟩ => ?_)
  · obtain ⟨G', r', _⟩ := rv.use f1.env g
    cases r'
    exact ⟨j, rfl, hk _ E1 Z1 H1 F1 q f1.nil⟩
  · obtain ⟨j, rfl, q⟩ := q1
    refine thn (hf pins s1 σ H1 (.int i) (.int j) u v (fun z H2 => z = .bl (f i j) ∧ Q (f i j) H2) I1 ru r1 ⟨i, j, rfl, rfl, rfl, q⟩) fun c s2 ⟨z, H2, I2, r2, ez, q2⟩ => ?_
    subst ez
    cases r2
    exact wpAny_truthy_bool ⟨H2, I2, q2⟩
theorem wtc_link {i : Int} {f : Int → Int → Bool} (hf : CmpI X op f) (h : WO X r E fun o E1 => ∃ j, o.get E1 = some (.int j) ∧ (f i j = true → WTC X j (op' :: ops) (r' :: rs) E1 kb) ∧ (f i j = false → kb false E1)) : WTC X i (op :: op' :: ops) (r :: r' :: rs) E kb := by
  intro Z H σ F Q he hk pins s pos u I ru
  show wpAny (model X.prog X.w) X.A (testChain pos u (op :: op' :: ops) (eval r X.env :: eval r' X.env :: evalEach rs X.env)) (TP X pins σ Q) X.xe s
  refine PyProof.Rows.test_link (thn (h Z H σ F (fun v H1 => ∃ j, v = .int j ∧ (f i j = true → wpTC X j (op' :: ops) (r' :: rs) σ H1 Q) ∧ (f i j = false → Q false H1)) he (fun o E1 Z1 H1 F1 G v ⟨j, g, q1, q2⟩ f1 rv => ?_) pins s I) fun v s1 ⟨x, H1, I1, r1, q1⟩ => ?_)
  · obtain ⟨G', r', _⟩ := rv.use f1.env g
    cases r'
    exact ⟨j, rfl, fun ht => q1 ht Z1 H1 σ F1 Q f1.env fun b E2 Z2 H2 F2 k2 f2 => hk b E2 Z2 H2 F2 k2 (f1.then f2), fun ht => hk _ E1 Z1 H1 F1 (q2 ht) f1.nil⟩
  · obtain ⟨j, rfl, qt, qf⟩ := q1
    refine thn (hf pins s1 σ H1 (.int i) (.int j) u v (fun z H2 => z = .bl (f i j) ∧ H2 = H1) I1 ru r1 ⟨i, j, rfl, rfl, rfl, rfl⟩) fun c s2 ⟨z, H2, I2, r2, ez, e2⟩ => ?_
    subst ez
    subst e2
    cases r2
    refine wpAny_truthy_bool ?_
    cases hb : f i j with
    | true => rw [if_pos rfl]; exact qt hb pins s2 pos v I2 r1
    | false => rw [if_neg Bool.false_ne_true]; exact ⟨H2, I2, qf hb⟩
theorem wt_chain {rs : List Expr} (h : WO X l E fun o E1 => ∃ i, o.get E1 = some (.int i) ∧ WTC X i (op1 :: op2 :: ops) (r1 :: r2 :: rs) E1 kb)
    (hm : lastMarks (op1 :: op2 :: ops) (r1 :: r2 :: rs) = false := by with_unfolding_all rfl) : WT X (.Compare l (op1 :: op2 :: ops) (r1 :: r2 :: rs) pos) E kb := by
  intro Z H σ F Q he hk pins s I
  refine PyProof.Rows.isTrue_chain (thn (h Z H σ F (fun v H1 => ∃ i, v = .int i ∧ wpTC X i (op1 :: op2 :: ops) (r1 :: r2 :: rs) σ H1 Q) he (fun o E1 Z1 H1 F1 G v ⟨i, g, q⟩ f1 rv => ?_) pins s I) fun v s1 ⟨x, H1, I1, rx, q1⟩ => ?_) hm
  · obtain ⟨G', r', _⟩ := rv.use f1.env g
    cases r'
    exact ⟨i, rfl, q Z1 H1 σ F1 Q f1.env fun b E2 Z2 H2 F2 k2 f2 => hk b E2 Z2 H2 F2 k2 (f1.then f2)⟩
  · obtain ⟨i, rfl, q⟩ := q1
    exact q pins s1 pos v I1 rx
/-! as values -/
def wpVC (X : Cx) (i : Int) (ops : List CmpOp) (es : List Expr) (σ : Sl) (H : Hp) (Q : VK) : Prop := ∀ (pins : List (Addr × Obj)) (s : Shared) (pos : Pos) (u : Value), Inv X pins σ H s → RelV (.int i) u →
  wpAny (model X.prog X.w) X.A (compareChain pos u ops (evalEach es X.env)) (EP X pins σ Q) X.xe s
def WVC (X : Cx) (i : Int) (ops : List CmpOp) (es : List Expr) (E : EnvT) (k : Bool → EnvT → Prop) : Prop := ∀ (Z : Addr → Prop) (H : Hp) (σ : Sl) (F : List Addr) (Q : VK), EnvS X.K Z H E σ F →
  (∀ (b : Bool) (E' : EnvT) (Z' : Addr → Prop) (H' : Hp) (F' : List Addr), k b E' → Fin X.K Z H σ F E' Z' H' F' [] → Q (.bl b) H') → wpVC X i ops es σ H Q
theorem wvc_last {i : Int} {f : Int → Int → Bool} (hf : CmpI X op f) (h : WO X r E fun o E1 => ∃ j, o.get E1 = some (.int j) ∧ kb (f i j) E1) : WVC X i [op] [r] E kb := by
  intro Z H σ F Q he hk pins s pos u I ru
  refine PyProof.Rows.chain_last (thn (h Z H σ F (fun v H1 => ∃ j, v = .int j ∧ Q (.bl (f i j)) H1) he (fun o E1 Z1 H1 F1 G v ⟨j, g, q⟩ f1 rv => ?_) pins s I) fun v s1 ⟨x, H1, I1, r1, q1⟩ => ?_)
  · obtain ⟨G', r', _⟩ := rv.use f1.env g
    cases r'
    exact ⟨j, rfl, hk _ E1 Z1 H1 F1 q f1.nil⟩
  · obtain ⟨j, rfl, q⟩ := q1
    exact hf pins s1 σ H1 (.int i) (.int j) u v Q I1 ru r1 ⟨i, j, rfl, rfl, q⟩
theorem wvc_link {i : Int} {f : Int → Int → Bool} (hf : CmpI X op f) (h : WO X r E fun o E1 => ∃ j, o.get E1 = some (.int j) ∧ (f i j = true → WVC X j (op' :: ops) (r' :: rs) E1 kb) ∧ (f i j = false → kb false E1)) : WVC X i (op :: op' :: ops) (r :: r' :: rs) E kb := by
  intro Z H σ F Q he hk pins s pos u I ru
  show wpAny (model X.prog X.w) X.A (compareChain pos u (op :: op' :: ops) (eval r X.env :: eval r' X.env :: evalEach rs X.env)) (EP X pins σ Q) X.xe s
  refine PyProof.Rows.chain_link (thn (h Z H σ F (fun v H1 => ∃ j, v = .int j ∧ (f i j = true → wpVC X j (op' :: ops) (r' :: rs) σ H1 Q) ∧ (f i j = false → Q (.bl false) H1)) he (fun o E1 Z1 H1 F1 G v ⟨j, g, q1, q2⟩ f1 rv => ?_) pins s I) fun v s1 ⟨x, H1, I1, r1, q1⟩ => ?_)
  · obtain ⟨G', r', _⟩ := rv.use f1.env g
    cases r'
    exact ⟨j, rfl, fun ht => q1 ht Z1 H1 σ F1 Q f1.env fun b E2 Z2 H2 F2 k2 f2 => hk b E2 Z2 H2 F2 k2 (f1.then f2), fun ht => hk _ E1 Z1 H1 F1 (q2 ht) f1.nil⟩
  · obtain ⟨j, rfl, qt, qf⟩ := q1
    refine thn (hf pins s1 σ H1 (.int i) (.int j) u v (fun z H2 => z = .bl (f i j) ∧ H2 = H1) I1 ru r1 ⟨i, j, rfl, rfl, rfl, rfl⟩) fun c s2 ⟨z, H2, I2, r2, ez, e2⟩ => ?_
    subst ez
    subst e2
    cases r2
    refine wpAny_truthy_bool ?_
    cases hb : f i j with
    | true => rw [if_pos rfl]; exact qt hb pins s2 pos v I2 r1
    | false => rw [if_neg Bool.false_ne_true]; exact ⟨.bl false, H2, I2, rfl, qf hb⟩
theorem wo_chain {rs : List Expr} (h : WO X l E fun o E1 => ∃ i, o.get E1 = some (.int i) ∧ WVC X i (op1 :: op2 :: ops) (r1 :: r2 :: rs) E1 fun t E2 => k (.val (.bl t)) E2)
    (hm : lastMarks (op1 :: op2 :: ops) (r1 :: r2 :: rs) = false := by with_unfolding_all rfl) : WO X (.Compare l (op1 :: op2 :: ops) (r1 :: r2 :: rs) pos) E k := by
  intro Z H σ F Q he hk pins s I
  refine PyProof.Rows.Compare_chain (thn (h Z H σ F (fun v H1 => ∃ i, v = .int i ∧ wpVC X i (op1 :: op2 :: ops) (r1 :: r2 :: rs) σ H1 Q) he (fun o E1 Z1 H1 F1 G v ⟨i, g, q⟩ f1 rv => ?_) pins s I) fun v s1 ⟨x, H1, I1, rx, q1⟩ => ?_) hm
  · obtain ⟨G', r', _⟩ := rv.use f1.env g
    cases r'
    exact ⟨i, rfl, q Z1 H1 σ F1 Q f1.env fun b E2 Z2 H2 F2 k2 f2 => hk _ E2 Z2 H2 F2 [] _ k2 (f1.then f2) (.bl b)⟩
  · obtain ⟨i, rfl, q⟩ := q1
    exact q pins s1 pos v I1 rx
end

/-! ### more stores -/
section
variable {X : Cx} {n : List Nat} {e a b c : Expr} {E : EnvT} {ks : KS} {pos p pos' : Pos} {i j : Nat} {x y : Str}
/-- x += e, ints -/
theorem ws_augI {m : Int} (hN : X.N.Nodup) (hi : X.N[i]? = some x) (hE : E[i]? = some (some (.int m))) (hx : Loc X.env.scope x) (hn : i ∉ n) (h : WO X e E fun o E1 => ∃ m2, o.get E1 = some (.int m2) ∧ i < E1.length ∧ ks.nx (E1.set i (some (.int (m + m2)))))
    (hf : X.fn x = true ∨ X.env.scope.names.lookup x = some .local := by first | exact .inl rfl | exact .inr rfl | assumption) : WS X n (.AugAssign (.Name x pos') .Add e pos) E ks := by
  intro Z H σ F Dd he hk
  obtain ⟨v, G, R, hv, rv, _, _⟩ := he.r.get hE
  cases rv
  refine wpS_by (ps_aug hN hi hx pe_w ip_add hf) ⟨_, hv, h Z H σ F _ he fun o E1 Z1 H1 F1 G1 v1 ⟨m2, g, hl, q⟩ f r => ?_⟩
  obtain ⟨G', r', _⟩ := r.use f.env g
  cases r'
  obtain ⟨F', h1, h2⟩ := f.env.asg (i := i) (.int (m + m2)) f.env.nd (fun a h => nomatch h) hl
  exact ⟨m, m2, rfl, rfl, hk.nx _ Z1 H1 _ F' q ⟨h1, h1.nd, (fun a q => nomatch q), f.nil.st.sub fun a ha => (h2 a ha).elim (fun z => nomatch z) id, Pin.set hn⟩⟩
theorem ws_subI {m : Int} (hN : X.N.Nodup) (hi : X.N[i]? = some x) (hE : E[i]? = some (some (.int m))) (hx : Loc X.env.scope x) (hn : i ∉ n) (h : WO X e E fun o E1 => ∃ m2, o.get E1 = some (.int m2) ∧ i < E1.length ∧ ks.nx (E1.set i (some (.int (m - m2)))))
    (hf : X.fn x = true ∨ X.env.scope.names.lookup x = some .local := by first | exact .inl rfl | exact .inr rfl | assumption) : WS X n (.AugAssign (.Name x pos') .Sub e pos) E ks := by
  intro Z H σ F Dd he hk
  obtain ⟨v, G, R, hv, rv, _, _⟩ := he.r.get hE
  cases rv
  refine wpS_by (ps_aug hN hi hx pe_w ip_sub hf) ⟨_, hv, h Z H σ F _ he fun o E1 Z1 H1 F1 G1 v1 ⟨m2, g, hl, q⟩ f r => ?_⟩
  obtain ⟨G', r', _⟩ := r.use f.env g
  cases r'
  obtain ⟨F', h1, h2⟩ := f.env.asg (i := i) (.int (m - m2)) f.env.nd (fun a h => nomatch h) hl
  exact ⟨m, m2, rfl, rfl, hk.nx _ Z1 H1 _ F' q ⟨h1, h1.nd, (fun a q => nomatch q), f.nil.st.sub fun a ha => (h2 a ha).elim (fun z => nomatch z) id, Pin.set hn⟩⟩
/-- x = y = e, of a thing that owns nothing -/
theorem ws_asg2 {px py : Pos} (hN : X.N.Nodup) (hi : X.N[i]? = some x) (hj : X.N[j]? = some y) (hx : Loc X.env.scope x) (hy : Loc X.env.scope y) (hni : i ∉ n) (hnj : j ∉ n)
    (h : WE X e E fun d E1 => Imm d ∧ i < E1.length ∧ j < E1.length ∧ ks.nx ((E1.set i (some d)).set j (some d)))
    (hf : X.fn x = true ∨ X.env.scope.names.lookup x = some .local := by first | exact .inl rfl | exact .inr rfl | assumption) (hf2 : X.fn y = true ∨ X.env.scope.names.lookup y = some .local := by first | exact .inl rfl | exact .inr rfl | assumption)
    (ha : (assignEach [.Name x px, .Name y py] X.env).map (·.2) = [assign (.Name x px) X.env, assign (.Name y py) X.env] := by rfl) (hw : swappedStores [.Name x px, .Name y py] e X.env = pure none := by rfl) :
    WS X n (.Assign [.Name x px, .Name y py] e pos) E ks := by
  intro Z H σ F Dd he hk
  refine wpS_by (ps_asg2 pe_w (pg_name hN hi hx hf) (pg_name hN hj hy hf2) ha hw) (h Z H σ F _ he fun o E1 Z1 H1 F1 G v ⟨d, eo, im, li, lj, q⟩ f r => ?_)
  subst eo
  have r0 : Rep X.K Z1 H1 d v [] := Rep.nils r im
  obtain ⟨F2, h1, m1⟩ := f.env.asg (i := i) r0 f.env.nd (fun a h => nomatch h) li
  obtain ⟨F3, h2, m2⟩ := h1.asg (i := j) r0 h1.nd (fun a h => nomatch h) (by rw [List.length_set]; exact lj)
  exact hk.nx _ Z1 H1 _ F3 q ⟨h2, h2.nd, (fun a q => nomatch q), f.nil.st.sub fun a ha => (m2 a ha).elim (fun z => nomatch z) fun z => (m1 a z).elim (fun z => nomatch z) id, (Pin.set hni).trans (Pin.set hnj)⟩
/-- x, y = a, b -/
theorem ws_par {px py pt pt2 : Pos} {kt k2 : Nat} (hc : X.calm = true) (hN : X.N.Nodup) (hi : X.N[i]? = some x) (hj : X.N[j]? = some y) (hij : i ≠ j) (hni : i ∉ n) (hnj : j ∉ n)
    (hx : X.env.scope.names.lookup x = some .local) (hy : X.env.scope.names.lookup y = some .local)
    (h : WA X [a, b] E fun os E1 => ∃ d1 d2, os = [.val d1, .val d2] ∧ i < E1.length ∧ j < E1.length ∧ ks.nx ((E1.set i (some d1)).set j (some d2)))
    (hw : swappedStores [.Tuple [.Name x px, .Name y py] kt pt] (.Tuple [a, b] k2 pt2) X.env = pure (some [x, y]))
    (hs : swapsWithSole [.Tuple [.Name x px, .Name y py] kt pt] (.Tuple [a, b] k2 pt2) pos.line X.env = pure false := by rfl) :
    WS X n (.Assign [.Tuple [.Name x px, .Name y py] kt pt] (.Tuple [a, b] k2 pt2) pos) E ks := by
  intro Z H σ F Dd he hk
  refine wpS_by (ps_par hc hN hi hj hij hx hy pa_w hw hs) (h Z H σ F _ he fun os E1 Z1 H1 F1 G vs ⟨d1, d2, eo, li, lj, q⟩ f rs => ?_)
  subst eo
  cases rs with
  | cons r1 rs =>
    cases rs with
    | cons r2 rs =>
      cases rs
      rename_i v1 G1 v2 G2
      have f' := f
      rw [List.append_nil] at f'
      have rr1 : Rep X.K Z1 H1 d1 v1 G1 := r1
      have rr2 : Rep X.K Z1 H1 d2 v2 G2 := r2
      have nd := f'.nd
      have ndr : (G2 ++ F1).Nodup := (List.Sublist.append_right (List.sublist_append_right G1 G2) F1).nodup nd
      have ndl : (G1 ++ F1).Nodup := (List.Sublist.append_right (List.sublist_append_left G1 G2) F1).nodup nd
      obtain ⟨F2, h1, m1⟩ := f'.env.asg (i := i) rr1 ndl (fun a ha => f'.nz a (List.mem_append_left _ ha)) li
      have n12 : ∀ a ∈ G2, a ∉ G1 := fun a ha hb => (List.nodup_append.mp (List.nodup_append.mp nd).1).2.2 a hb a ha rfl
      have ndr2 : (G2 ++ F2).Nodup := List.nodup_append.mpr ⟨(List.nodup_append.mp ndr).1, h1.nd, fun a ha b hb e => by
        subst e
        rcases m1 a hb with q | q
        · exact n12 a ha q
        · exact (List.nodup_append.mp ndr).2.2 a ha a q rfl⟩
      obtain ⟨F3, h2, m2⟩ := h1.asg (i := j) rr2 ndr2 (fun a ha => f'.nz a (List.mem_append_right _ ha)) (by rw [List.length_set]; exact lj)
      refine ⟨v1, v2, rfl, hk.nx _ Z1 H1 _ F3 q ⟨h2, h2.nd, (fun a q => nomatch q), f'.st.sub fun a ha => ?_, (Pin.set hni).trans (Pin.set hnj)⟩⟩
      rcases m2 a ha with z | z
      · exact List.mem_append_left _ (List.mem_append_right _ z)
      · exact (m1 a z).elim (fun w => List.mem_append_left _ (List.mem_append_left _ w)) (List.mem_append_right _)
end

/-! ### calls of the module's defs -/
/-- at x stands a def that keeps sp -/
structure Cal (P : Program) (w : World) (K : PySem.W.Frag) (mg : Str → Option Value) (base : Heap) (k : Nat) (x : Str) (sp : Sp) : Prop where
  ex : ∃ (f : Addr) (fd : FuncData) (ps : List Str), FnOk P w K mg base CX0 k f fd ps sp ∧ mg x = some (.ref f) ∧ PySem.W.keepIn K (.ref f) = true ∧ Binds K fd ps []
section
variable {X : Cx} {E : EnvT} {kk : Opd → EnvT → Prop} {e : Expr} {es : List Expr} {S : Ct} {x : Str} {k j : Nat} {p pos : Pos}
theorem wo_c0 (c : Cal X.prog X.w X.K X.mg X.base k x (toSp X.K 0 S)) (hr : Room j X.A) (hk : k ≤ j) (hg : Gl X x)
    (h : WA X (e :: es) E fun os E1 => ∃ ds, valsOf os = some ds ∧ ∃ a, S.pre a ds ∧ ∀ d, S.post a d [] → kk (.val d) E1)
    (hdb : (x == ("__debug__" : Str)) = false := by decide) (he : starEach (e :: es) X.env = (false, eval e X.env) :: starEach es X.env := by rfl) (hpl : (backTo pos (starEach es X.env)).any (·.1) = false := by rfl) :
    WO X (.Call (.Name x p) (e :: es) [] pos) E kk := by
  obtain ⟨f, fd, ps, F, hm, kp, b⟩ := c.ex
  exact wo_call0 (pe_call F (hr.mono hk) hg hm kp b .nil pass0 pa_w hdb he hpl) h
theorem wo_c1 (c : Cal X.prog X.w X.K X.mg X.base k x (toSp X.K 1 S)) (hr : Room j X.A) (hk : k ≤ j) (hg : Gl X x)
    (h : WA X (e :: es) E fun os E1 => ∃ i os' d0 ds, os = .bor i :: os' ∧ E1[i]? = some (some d0) ∧ valsOf os' = some ds ∧ ∃ a, S.pre a (d0 :: ds) ∧ ∀ d d0', S.post a d [d0'] → kk (.val d) (E1.set i (some d0')))
    (hdb : (x == ("__debug__" : Str)) = false := by decide) (he : starEach (e :: es) X.env = (false, eval e X.env) :: starEach es X.env := by rfl) (hpl : (backTo pos (starEach es X.env)).any (·.1) = false := by rfl) :
    WO X (.Call (.Name x p) (e :: es) [] pos) E kk := by
  obtain ⟨f, fd, ps, F, hm, kp, b⟩ := c.ex
  exact wo_call1 (pe_call F (hr.mono hk) hg hm kp b .nil pass0 pa_w hdb he hpl) h
end
/-- a def of the module -/
structure Has (K : PySem.W.Frag) (mg : Str → Option Value) (x : Str) (st : Stmt) (ps : List Str) : Prop where
  ex : ∃ (f : Addr) (fd : FuncData), FunD K x x (defArgs st) (defBody st) (defScope st) [] [] f fd ∧ mg x = some (.ref f) ∧ Binds K fd ps []
open PyProof.Rows (envOfC) in
theorem cal_of {P : Program} {w : World} {K : PySem.W.Frag} {mg : Str → Option Value} {base : Heap} {x : Str} {st : Stmt} {N ps : List Str} {k pin : Nat} {S : Ct} (h : Has K mg x st ps) (sc : FnScope N ps (defScope st))
    (hlen : ∀ a ds, S.pre a ds → ds.length = ps.length) (hpin : pin ≤ ps.length)
    (body : ∀ (f : Addr) (cdv : Value) (A : Around) (outer : List Env) (s : Shared) (H : Hp) (E : XK), Room k (A.deeper (envOfC x (defScope st) s.heap.objs.size f cdv)) → ∀ (a : S.α) (ds : List D), S.pre a ds →
      (let X : Cx := (cxOf CX0 P w K mg base N x (defScope st) f cdv A outer s H E).nox
      WSs X (List.range pin) (defBody st) (ds.map some ++ List.replicate (N.length - ps.length) none)
        { nx := fun E' => ∃ ds', E'.take pin = ds'.map some ∧ S.post a .non ds', rt := fun d E' => ∃ ds', E'.take pin = ds'.map some ∧ S.post a d ds' })) : Cal P w K mg base (k + 1) x (toSp K pin S) := by
  obtain ⟨f, fd, F, hm, b⟩ := h.ex
  exact ⟨f, fd, ps, fn_ok F sc hlen hpin (body f), hm, F.kp, b⟩
end DL

/-! a tuple sorted -/
namespace SrtO
open PySem PyProof.Rows Srt
section
variable {prog : Program} {w : World} {A : Around} {E : Value → Shared → Prop} {s : Shared}
/-- sorted of a tuple: collected by the rule for both sequences, then sorted as a list -/
theorem sorted_tupS {l : Addr} {vs : List Value} {ltv : Value → Value → Bool} {Q : Value → Shared → Prop} (O : Swo ltv) (hl : IsTup s.heap l vs.toArray) (small : vs.length ≤ sizeLine)
    (able : 2 ≤ vs.length → ∀ (s1 : Shared) (a : Addr), SortableO prog w A.in1.in1 s1 a vs ltv)
    (fin : ∀ (g h' : Heap) (out : List Value) (c : Nat), (∀ b o, s.heap.get? b = some o → g.get? b = some o) → (∀ b o, g.get? b = some o → h'.get? b = some o) → h'.get? g.objs.size = some (seqObj "list" out.toArray c) → Srtd ltv out → Stb ltv out vs → Q (.ref g.objs.size) { s with heap := h' }) :
    wpAny (model prog w) A (call (.builtin "sorted") [.ref l]) Q E s := by
  obtain ⟨ob, there, kind, _, cells⟩ := hl
  refine Calls.call_function_entry kind_sorted plain_sorted entry_sorted (args_sorted1 _) (show wpAny _ _ (Builtin.«sorted» _) _ _ _ from ?_)
  unfold Builtin.«sorted»
  refine wpAny_bind (m := checkCount "sorted" 1 1 _) (wpAny_pure (wpAny_bind (wpAny_collect_seq l (.inr rfl) there kind cells (fun g keep => ?_) (by simpa using small))))
  have back : vs.toArray.toList = vs := by simp
  rw [back]
  have made : (g.push (seqObj "list" vs.toArray 0)).get? g.objs.size = some (seqObj "list" vs.toArray 0) := Heap.get?_push_size _ rfl
  refine wpAny_bind (wpAny_newList (wpAny_bind (wpAny_holding (wpAny_call_entry slot_list_sort ⟨_, made, rfl⟩ entry_list_sort (list_sort_ord O made small (fun h2 => able h2 _ _) fun out s1 s2 => ⟨_, rfl, ?_⟩) (args_list_sort _)))) small)
  obtain ⟨c, told⟩ := sortedHeap_at (vs := vs) (out := out.toArray) made
  refine wpAny_pure ⟨_, rfl, fin g _ out c keep (fun b o e => ?_) told s1 s2⟩
  have lt := Heap.lt_size e
  show (sortedHeap (g.push (seqObj "list" vs.toArray 0)) g.objs.size vs out.toArray).get? b = some o
  rw [sortedHeap_old (Nat.ne_of_lt lt) (by rw [size_push']; exact Nat.lt_succ_of_lt lt), Heap.get?_push_of_some _ e]
end
end SrtO
namespace DL
open PySem PySem.Spec L2
section
variable {X : Cx}
/-- sorted(tuple of ints) -/
def rSortT (K : PySem.W.Frag) : List V → Hp → VK → Prop := fun vs H Q => ∃ (a : Addr) (ns : List Int), vs = [V.ref a] ∧ SqT K H a (ns.map V.int) ∧
  ∀ (ns' : List Int) (p : Addr), ns'.Perm ns → ns'.Pairwise (· ≤ ·) → H p = none → Q (.ref p) (upd H p (.lst (ns'.map V.int)))
theorem cr_sortT : CallR X (.builtin "sorted") (rSortT X.K) := by
  intro pins s σ H vs us Q I r h
  obtain ⟨a, ns, rfl, hs, q⟩ := h
  obtain ⟨its, rv, hl, hz⟩ := I.tuple hs
  rw [Vals.ref1 r]
  have hi := rv.ints
  refine SrtO.sorted_tupS SrtO.swo_int hl (by rw [← rv.length]; exact hz) (fun h2 s1 a' => SrtO.ints_sortable hi h2) fun g h' out c k1 k2 told h1 h2 => ?_
  obtain ⟨q1, q2, q3⟩ := SrtO.ints_out hi h1 h2
  have lz : ((out.map SrtO.iv).map V.int).length ≤ sizeLine := by
    rw [List.length_map] at hz ⊢
    rw [q2.length_eq]
    exact hz
  have I1 : Inv X pins σ H { s with heap := g } := I.kept (t' := s.toks) k1
  exact ⟨.ref _, upd H g.objs.size (.lst ((out.map SrtO.iv).map V.int)), I1.laid (t' := s.toks) k2 (Nat.le_refl _) ⟨lz, out, c, vals_of_ints q1, told⟩, rfl, q _ _ q2 q3 (I1.hok.fresh (Nat.le_refl _))⟩
/-- tuple(list), the new object known whole -/
def rTupF (K : PySem.W.Frag) : List V → Hp → VK → Prop := fun vs H Q => ∃ (p : Addr) (xs : List V), vs = [V.ref p] ∧ SqL K H p xs ∧ ∀ q ob, H q = none → ob.dict = none → Q (.ref q) (upd H q (.frz ob (.tup xs)))
theorem cr_tupF : CallR X (.type "tuple") (rTupF X.K) := by
  intro pins s σ H vs us Q I r h
  obtain ⟨p, xs, rfl, hs, q⟩ := h
  obtain ⟨its, rv, pl, hz⟩ := I.list hs
  rw [Vals.ref1 r]
  refine call_tuple_list pl.isList (fun h' hk => ?_) (by rw [List.size_toArray, ← rv.length]; exact hz)
  have I1 : Inv X pins σ H { s with heap := h' } := I.kept (t' := s.toks) hk
  have I2 : Inv X pins σ (upd H h'.objs.size (.frz { cls := .type "tuple", data := .seq its.toArray } (.tup xs))) { s with heap := h'.push { cls := .type "tuple", data := .seq its.toArray } } :=
    I1.laid (t' := s.toks) (fun b o e => Heap.get?_push_of_some _ e) (Nat.le_refl _) ⟨Heap.get?_push_size _ rfl, (show ObjOk X.prog X.w _ _ _ (.tup xs) from ⟨hz, its, rv, PyProof.Rows.IsTup.new _ _⟩)⟩
  exact ⟨.ref h'.objs.size, _, I2, rfl, q _ _ (I1.hok.fresh (Nat.le_refl _)) rfl⟩
end
section
variable {X : Cx} {a e o : Expr} {E : EnvT} {k : Opd → EnvT → Prop} {pos apos p p2 p3 : Pos}
theorem wo_sortedT (hg : Gl X "sorted") (hm : X.mg "sorted" = none) (h : WO X a E fun o E1 => ∃ ns : List Int, (o.get E1).bind D.tseq = some (ns.map D.int) ∧ ∀ ns' : List Int, ns'.Perm ns → ns'.Pairwise (· ≤ ·) → k (.val (.lst (ns'.map D.int))) E1)
    (hs : starEach [a] X.env = (false, eval a X.env) :: starEach [] X.env := by rfl) : WO X (.Call (.Name "sorted" p) [a] [] pos) E k :=
  wo_b1 (pe_callB cr_sortT hg hm (by decide +kernel) pa_w (he := hs)) (WO.mono h fun o E1 ⟨ns, g1, kk⟩ => by
    cases g : o.get E1 with
    | none => rw [g] at g1; simp at g1
    | some d1 =>
      rw [g] at g1
      refine ⟨d1, rfl, fun d => ∃ ns' : List Int, ns'.Perm ns ∧ ns'.Pairwise (· ≤ ·) ∧ d = .lst (ns'.map D.int), fun Z H v G rv Q q => ?_, fun d ⟨ns', h1, h2, e⟩ => by rw [e]; exact kk ns' h1 h2⟩
      obtain ⟨x, vs, rfl, hs, rs⟩ := rv.tseq (by simpa using g1)
      have ev := rs.ints
      subst ev
      exact ⟨x, ns, rfl, hs, fun ns' l h1 h2 hl => q _ _ _ [l] ⟨ns', h1, h2, rfl⟩ (.lst upd_same (Reps.ofInts ns')) (Grow.new hl)⟩) hs
theorem wo_tupleF (hg : Gl X "tuple") (hm : X.mg "tuple" = none) (h : WO X a E fun o E1 => ∃ ds, (o.get E1).bind D.lseq = some ds ∧ Imms ds ∧ k (.val (.pt ds)) E1) (hs : starEach [a] X.env = (false, eval a X.env) :: starEach [] X.env := by rfl) : WO X (.Call (.Name "tuple" p) [a] [] pos) E k :=
  wo_b1 (pe_callTy cr_tupF hg hm (by decide +kernel) pa_w (he := hs)) (WO.mono h fun o E1 ⟨ds, g1, im, kk⟩ => by
    cases g : o.get E1 with
    | none => rw [g] at g1; simp at g1
    | some d1 =>
      rw [g] at g1
      refine ⟨d1, rfl, _, fun Z H v G rv => GivesP.one fun Q q => ?_, fun d e => by rw [e]; exact kk⟩
      obtain ⟨x, vs, G', rfl, hs, rs⟩ := rv.lseq (by simpa using g1)
      exact ⟨x, vs, rfl, hs, fun l ob hl hd => q _ _ [] (.pt upd_same hd ((rs.nils im).grow (Grow.new0 hl))) (Grow.new0 hl)⟩) hs
/-- t.index(i), a tuple known whole -/
def tTIx (to : TE) (t : TA) : TE := fun σ H Q => to σ H fun x H1 => ∃ (a : Addr) (ob : Obj) (ns : List Int), x = .ref a ∧ H1 a = some (.frz ob (.tup (ns.map V.int))) ∧ ob.dict = none ∧ t σ H1 fun xs H2 => ∃ i : Int, xs = [.int i] ∧ i ∈ ns ∧ H2 a = some (.frz ob (.tup (ns.map V.int))) ∧ Q (.int (ns.idxOf i : Nat)) H2
theorem pe_tix {to : TE} {t : TA} (ho : PE X o to) (ha : PA X [e] t)
    (hbase : attributeBase o "index" X.env (eval o X.env) = eval o X.env := by rfl)
    (hfew : ((backTo pos (starEach [e] X.env)).all (fun x => !x.1) && (backToKw pos (keywordEach [] X.env)).all (fun x => x.1.isSome)
      && decide ([e].length + ([] : List Keyword).length + (if ([] : List Keyword).isEmpty then 0 else 1) < 30)) = true := by rfl)
    (hline : (apos.endLine == pos.line) = true := by rfl) (hs : starEach [e] X.env = (false, eval e X.env) :: starEach [] X.env := by rfl) :
    PE X (.Call (.Attribute o "index" apos) [e] [] pos) (tTIx to t) := by
  refine ⟨fun pins s σ H Q I h => ?_⟩
  refine wpAny_Call_method_late hbase hfew hline rfl (thn (ho.run pins s σ H _ I h) fun v s1 ⟨x, H1, I1, r1, a, ob, ns, ex, hH, hd, q1⟩ => ?_)
  subst ex
  cases r1
  obtain ⟨hob, hz, its, rv, tp⟩ := (show ObjOk X.prog X.w H1 s1.heap a (.frz ob (.tup (ns.map V.int))) from I1.hok a _ hH)
  refine ⟨"tuple", "tuple.index", PySem.F.plainAttrs_tuple, PySem.F.slot_tuple_index, PySem.F.type_tuple_index, tp.typeIs, fun b eb => by cases eb; exact ⟨ob, hob, hd⟩, ?_⟩
  have hA := ha.run pos pins s1 σ H1 _ I1 q1
  rw [hs] at hA ⊢
  refine Calls.callWith_builtin (by rfl) (Calls.evalArgs_plain ?_)
  refine thn hA fun us s2 ⟨vs, H2, I2, r2, i, ev, hi, hH2, q2⟩ => ?_
  subst ev
  obtain ⟨u, eu, ru⟩ := Vals.one r2
  subst eu
  obtain ⟨t', rfl⟩ := ru
  obtain ⟨_, _, its2, rv2, tp2⟩ := (show ObjOk X.prog X.w H2 s2.heap a (.frz ob (.tup (ns.map V.int))) from I2.hok a _ hH2)
  exact PySem.SeqAt.tuple_index_ints tp2 rv2.ints hi ⟨.int _, H2, I2.tok _, ⟨_, rfl⟩, q2⟩
theorem wo_tix (h : WO X o E fun o1 E1 => ∃ ns : List Int, o1.get E1 = some (.pt (ns.map D.int)) ∧ WO X e E1 fun o2 E2 => ∃ i, o2.get E2 = some (.int i) ∧ i ∈ ns ∧ k (.val (.int (ns.idxOf i : Nat))) E2)
    (hbase : attributeBase o "index" X.env (eval o X.env) = eval o X.env := by rfl)
    (hfew : ((backTo pos (starEach [e] X.env)).all (fun x => !x.1) && (backToKw pos (keywordEach [] X.env)).all (fun x => x.1.isSome)
      && decide ([e].length + ([] : List Keyword).length + (if ([] : List Keyword).isEmpty then 0 else 1) < 30)) = true := by rfl)
    (hline : (apos.endLine == pos.line) = true := by rfl) (hs : starEach [e] X.env = (false, eval e X.env) :: starEach [] X.env := by rfl) :
    WO X (.Call (.Attribute o "index" apos) [e] [] pos) E k := by
  intro Z H σ F Q he hk
  refine wpE_by (pe_tix pe_w pa_w hbase hfew hline hs) (h Z H σ F _ he fun o1 E1 Z1 H1 F1 G1 v1 ⟨ns, g0, q⟩ f1 r1 => ?_)
  obtain ⟨G0, rr0, _⟩ := r1.use f1.env g0
  cases rr0 with
  | pt hH hd rs =>
    rename_i a ob vs
    have ev := rs.ints
    subst ev
    refine ⟨a, ob, ns, rfl, hH, hd, ?_⟩
    have hA : WA X [e] E1 fun os E2 => ∃ o2, os = [o2] ∧ ∃ i, o2.get E2 = some (.int i) ∧ i ∈ ns ∧ k (.val (.int (ns.idxOf i : Nat))) E2 := wa_cons (WO.mono q fun o E2 q => wa_nil ⟨o, rfl, q⟩) hs
    refine hA Z1 H1 σ F1 _ f1.env fun os E2 Z2 H2 F2 G2 ws ⟨o2, eo, i, g2, hi, kk⟩ f2 rs2 => ?_
    subst eo
    cases rs2 with
    | cons r2 rn =>
      cases rn
      obtain ⟨G5, rr2, _⟩ := r2.use f2.env g2
      cases rr2
      exact ⟨i, rfl, hi, f2.st.ft _ _ _ hH, hk _ E2 Z2 H2 F2 [] _ kk (f1.then f2).nil (.int _)⟩
/-- xs.index(i), a list of ints -/
theorem idxOf_first {ns : List Int} {i : Int} (h : i ∈ ns) : ns[ns.idxOf i]? = some i ∧ ∀ m, m < ns.idxOf i → ns[m]? ≠ some i := by
  induction ns with
  | nil => cases h
  | cons a ns ih =>
    rw [List.idxOf_cons]
    by_cases e : a = i
    · subst e
      simp
    · have e' : (a == i) = false := beq_eq_false_iff_ne.mpr e
      rw [e', cond_false]
      have hm : i ∈ ns := by
        rcases List.mem_cons.mp h with q | q
        · exact absurd q.symm e
        · exact q
      obtain ⟨h1, h2⟩ := ih hm
      refine ⟨by simpa using h1, fun m hm => ?_⟩
      cases m with
      | zero => simpa using e
      | succ m => simpa using h2 m (by omega)
theorem wo_indexI (h : WO X o E fun o1 E1 => ∃ ds0, (o1.get E1).bind D.lseq = some ds0 ∧ WO X e E1 fun o2 E2 => ∃ (ns : List Int) (i : Int), (o1.get E2).bind D.lseq = some (ns.map D.int) ∧ o2.get E2 = some (.int i) ∧ i ∈ ns ∧ k (.val (.int (ns.idxOf i : Nat))) E2)
    (hb : PE X (.Call (.Attribute o "index" apos) [e] [] pos) (tBM X.K "list" (rIndex X.K) (wpE X o) (wpA X [e]))) (hs : starEach [e] X.env = (false, eval e X.env) :: starEach [] X.env := by rfl) :
    WO X (.Call (.Attribute o "index" apos) [e] [] pos) E k :=
  wo_index (WO.mono h fun o1 E1 ⟨ds0, g0, q⟩ => ⟨ds0, g0, WO.mono q fun o2 E2 ⟨ns, i, g1, g2, hi, kk⟩ => by
    obtain ⟨h1, h2⟩ := idxOf_first hi
    refine ⟨ns.map D.int, .int i, ns.idxOf i, .int i, g1, g2, rfl, ?_, by rw [List.getElem?_map, h1]; rfl, by rw [deq_int]; exact decide_eq_true rfl, fun m z' hm hz => ?_, kk⟩
    · rw [List.all_map]
      exact List.all_eq_true.mpr fun _ _ => rfl
    · rw [List.getElem?_map] at hz
      cases hn : ns[m]? with
      | none => rw [hn] at hz; cases hz
      | some y =>
        rw [hn] at hz
        cases hz
        rw [deq_int]
        exact decide_eq_false fun ey => h2 m hm (by rw [hn, ey])⟩) hb hs
/-- xs[::-1] -/
theorem wo_revL {kx : Nat} (h : WO X e E fun o E1 => ∃ ds, (o.get E1).bind D.lseq = some ds ∧ Imms ds ∧ k (.val (.lst ds.reverse)) E1) : WO X (.Subscript e (.Slice none none (some (.UnaryOp .USub (.Constant (.int 1) kx p) p2)) p3) pos) E k := by
  intro Z H σ F Q he hk
  refine wpE_by (pe_revL pe_w) (h Z H σ F _ he fun o E1 Z1 H1 F1 G v ⟨ds, g1, im, kk⟩ f1 r1 => ?_)
  obtain ⟨d1, gd, gs⟩ := seq_of g1
  obtain ⟨G', r', _⟩ := r1.use f1.env gd
  obtain ⟨a, vs, G3, rfl, hs, rs⟩ := r'.lseq gs
  refine ⟨a, vs, rfl, hs, fun p hp => ?_⟩
  have rs0 := rs.nils im
  have rv : Reps X.K Z1 H1 ds.reverse vs.reverse [] := by
    clear hk kk g1 gs hs r' gd
    generalize hG : ([] : List Addr) = G0 at rs0
    have : ∀ {ds : List D} {vs : List V}, Reps X.K Z1 H1 ds vs [] → Imms ds → Reps X.K Z1 H1 ds.reverse vs.reverse [] := by
      intro ds
      induction ds with
      | nil => intro vs r _; cases r; exact .nil
      | cons d ds ih =>
        intro vs r im
        generalize hG : ([] : List Addr) = G0 at r
        cases r with
        | cons r1 rs =>
          have e := List.append_eq_nil_iff.mp hG.symm
          rename_i v F1 vs G1
          obtain ⟨e1, e2⟩ := e
          subst e1
          subst e2
          rw [List.reverse_cons, List.reverse_cons]
          exact (ih rs im.2).app (Reps.one r1)
    subst hG
    exact this rs0 im
  exact hk _ E1 Z1 _ F1 [p] _ kk (f1.nil.grow (Grow.new hp)) (.lst upd_same (rv.grow (Grow.new hp)))
end
end DL

namespace DL
open PySem PySem.Spec L2
section
variable {X : Cx} {a b e o : Expr} {E : EnvT} {k : Opd → EnvT → Prop} {pos apos p p2 p3 : Pos}
theorem wo_isi2 (hg : Gl X "isinstance") (hm : X.mg "isinstance" = none) (h : WO X a E fun o1 E1 => WO X b E1 fun o2 E2 => ∃ d t T r, o1.get E2 = some d ∧ d.ty = some t ∧ o2 = .val (.op (.ty T)) ∧ kitB t T = some r ∧ k (.val (.bl r)) E2)
    (hs : starEach [a, b] X.env = (false, eval a X.env) :: starEach [b] X.env := by rfl) (hs2 : starEach [b] X.env = (false, eval b X.env) :: starEach [] X.env := by rfl) : WO X (.Call (.Name "isinstance" p) [a, b] [] pos) E k :=
  wo_b2 (pe_callB call_isi hg hm (by decide +kernel) pa_w (he := hs) (hpl := by rw [hs2]; rfl)) (WO.mono h fun o1 E1 q => WO.mono q fun o2 E2 ⟨d, t, T, r, g1, ht, g2, hb, kk⟩ => by
    subst g2
    exact ⟨d, .op (.ty T), g1, rfl, _, fun Z H v1 v2 G1 G2 r1 r2 => GivesP.one fun Q q => by
      cases r2
      exact ⟨v1, _, _, _, r, rfl, .ty T, r1.ty ht, kit_ty hb, q _ H [] (.bl _) Grow.refl⟩, fun d e => by rw [e]; exact kk⟩) hs hs2
theorem kit_ii : kitB "int" "int" = some true := by decide +kernel
theorem kit_ib : kitB "int" "bool" = some false := by decide +kernel
theorem kit_it : kitB "int" "tuple" = some false := by decide +kernel
theorem kit_tt : kitB "tuple" "tuple" = some true := by decide +kernel
theorem kit_ti : kitB "tuple" "int" = some false := by decide +kernel
theorem kit_bb : kitB "bool" "bool" = some true := by decide +kernel
theorem kit_bi : kitB "bool" "int" = some true := by decide +kernel
theorem kit_ll : kitB "list" "list" = some true := by decide +kernel
theorem kit_dd : kitB "dict" "dict" = some true := by decide +kernel
theorem kit_ss : kitB "str" "str" = some true := by decide +kernel
theorem wo_tyn {x : Str} {T : String} (hg : Gl X x) (hm : X.mg x = none) (hv : bootBuiltins x = some (.type T)) (h : k (.val (.op (.ty T))) E) (hn : x ≠ "__name__" := by decide) (hd : (x == ("__debug__" : Str)) = false := by decide) : WO X (.Name x pos) E k := wo_bltn (v := .ty T) hg hm hv rfl h hn hd
/-- a module's int -/
theorem wo_gint {x : Str} {i : Int} {t : Tok} (hg : Gl X x) (hm : X.mg x = some (.int i t)) (h : k (.val (.int i)) E) (hd : (x == ("__debug__" : Str)) = false := by decide) : WO X (.Name x pos) E k :=
  wo_glob (v := .int i) hg hm ⟨t, rfl⟩ (fun _ _ => .int i) h hd
end
/-! ### lists that stay while they are walked -/
section
variable {K : PySem.W.Frag} {Z1 : Addr → Prop} {H1 : Hp} {σ : Sl} {F1 G : List Addr} {E1 : EnvT} {o : Opd} {d1 : D} {ds : List D} {a : Addr} {w : List (Nat × D)}
theorem OpdR.stay (he : EnvS K Z1 H1 E1 σ F1) (r1 : OpdR K Z1 H1 σ o (.ref a) G) (gd : o.get E1 = some d1) (gs : d1.lseq = some ds) (im : Imms ds) (off : ∀ x ∈ G, x ∉ F1) (sub : ∀ p ∈ watch E1 o, p ∈ w) :
    ∀ (E' : EnvT) (Z' : Addr → Prop) (H' : Hp) (σ' : Sl) (F' G4 : List Addr), FinS K (w.map (·.1)) Z1 H1 σ F1 E' Z' H' σ' F' G4 → (∀ p ∈ w, E'[p.1]? = some (some p.2)) → ∃ vs, SqL K H' a vs ∧ Reps K Z' H' ds vs [] := by
  intro E' Z' H' σ' F' G4 fs hE
  cases o with
  | val d2 =>
    cases gd
    have hr : Rep K Z' H' d1 (.ref a) G := Rep.step fs.st r1 off
    obtain ⟨a2, vs2, G5, e2, hs2, rs2⟩ := hr.lseq gs
    cases e2
    exact ⟨vs2, hs2, rs2.nils im⟩
  | bor i =>
    have hg : E1[i]?.join = some d1 := gd
    have hv : σ[i]? = some (some (.ref a)) := r1.1
    have hi0 := sub (i, (E1[i]?.join).getD .non) (by simp [watch])
    have hi' := hE _ hi0
    rw [hg] at hi'
    obtain ⟨v2, G5, R5, h1, h2, _⟩ := fs.env.r.get (i := i) (d := d1) hi'
    have hp : σ'[i]? = σ[i]? := fs.pin i (List.mem_map.mpr ⟨_, hi0, rfl⟩)
    rw [hp, hv] at h1
    cases h1
    obtain ⟨a2, vs2, G6, e2, hs2, rs2⟩ := h2.lseq gs
    cases e2
    exact ⟨vs2, hs2, rs2.nils im⟩
end
section
variable {X : Cx} {a b : Expr} {E : EnvT} {pos p : Pos}
/-- two lists of things that own nothing, side by side -/
theorem wi_zipL {k : List (Nat × D) → Nat → (Nat → D) → EnvT → Prop} {elts : List Expr} {kk : Nat} {tpos : Pos} (hg : Gl X "zip") (hm : X.mg "zip" = none) (h : WO X a E fun o1 E1 => WO X b E1 fun o2 E2 => ∃ ds es, (o1.get E2).bind D.lseq = some ds ∧ (o2.get E2).bind D.lseq = some es ∧ Imms ds ∧ Imms es ∧
      k (watch E2 o1 ++ watch E2 o2) (min ds.length es.length) (fun i => .tup [ds.getD i .non, es.getD i .non]) E2)
    (hs2 : starEach [a, b] X.env = (false, eval a X.env) :: starEach [b] X.env := by rfl) (hs4 : starEach [b] X.env = (false, eval b X.env) :: starEach [] X.env := by rfl) :
    WI X (.Tuple elts kk tpos) (.Call (.Name "zip" p) [a, b] [] pos) E k := by
  intro Z H σ F R he hk
  have hA : WA X [a, b] E fun os E2 => ∃ o1 o2, os = [o1, o2] ∧ ∃ ds es, (o1.get E2).bind D.lseq = some ds ∧ (o2.get E2).bind D.lseq = some es ∧ Imms ds ∧ Imms es ∧ k (watch E2 o1 ++ watch E2 o2) (min ds.length es.length) (fun i => .tup [ds.getD i .non, es.getD i .non]) E2 :=
    wa_cons (WO.mono h fun o1 E1 q => wa_cons (WO.mono q fun o2 E2 q => wa_nil ⟨o1, o2, rfl, q⟩) hs4) hs2
  refine wpI_by (RZ.pi_zipA hg hm pa_w hs2 (by rw [hs4]; rfl)) (hA Z H σ F _ he fun os E1 Z1 H1 F1 G vs ⟨o1, o2, eo, ds, es, g1, g2, i1, i2, kk⟩ f1 rs => ?_)
  subst eo
  cases rs with
  | cons r1 rn =>
    cases rn with
    | cons r2 rn =>
      cases rn
      rename_i v1 Ga v2 Gb
      obtain ⟨d1, gd1, gs1⟩ := seq_of g1
      obtain ⟨d2, gd2, gs2⟩ := seq_of g2
      obtain ⟨G1, r1', _⟩ := r1.use f1.env gd1
      obtain ⟨G2, r2', _⟩ := r2.use f1.env gd2
      obtain ⟨x, xs, _, rfl, hx, rx⟩ := r1'.lseq gs1
      obtain ⟨y, ys, _, rfl, hy, ry⟩ := r2'.lseq gs2
      have rx0 := rx.nils i1
      have ry0 := ry.nils i2
      have dis := (List.nodup_append.mp f1.nd).2.2
      have st1 := OpdR.stay (w := watch E1 o1 ++ watch E1 o2) f1.env r1 gd1 gs1 i1 (fun x hx hf => dis x (List.mem_append_left _ hx) x hf rfl) (fun p hp => List.mem_append_left _ hp)
      have st2 := OpdR.stay (w := watch E1 o1 ++ watch E1 o2) f1.env r2 gd2 gs2 i2 (fun x hx hf => dis x (List.mem_append_right _ (List.mem_append_left _ hx)) x hf rfl) (fun p hp => List.mem_append_right _ hp)
      refine ⟨x, y, xs, ys, rfl, .inl ⟨hx, hy, hk _ _ _ E1 Z1 H1 F1 _ (fun Z' H' => (∃ xs, SqL X.K H' x xs ∧ Reps X.K Z' H' ds xs []) ∧ ∃ ys, SqL X.K H' y ys ∧ Reps X.K Z' H' es ys []) [] kk f1.nil ⟨fun Z' i H' hi ⟨⟨xs, q1, q2⟩, ys, q3, q4⟩ => ?_, fun Z' H' ⟨⟨xs, q1, q2⟩, ys, q3, q4⟩ => ⟨xs, ys, q1, q3, by have := q2.len; have := q4.len; omega⟩, fun Z' i H' v H'' hi ⟨⟨xs, q1, q2⟩, ys, q3, q4⟩ yv => ?_⟩ ⟨⟨xs, hx, rx0⟩, ys, hy, ry0⟩ fun E' Z' H' σ' F' G fs hE => ⟨st1 E' Z' H' σ' F' G fs hE, st2 E' Z' H' σ' F' G fs hE⟩⟩⟩
      · have := q2.len
        have := q4.len
        exact ⟨xs, ys, xs[i]'(by omega), ys[i]'(by omega), q1, q3, List.getElem?_eq_getElem _, List.getElem?_eq_getElem _⟩
      · obtain ⟨T, u, w, rfl, hT, rfl, hu, hw⟩ := yv
        have ld : i < ds.length := by omega
        have le : i < es.length := by omega
        obtain ⟨u', G3, hu', ru, _⟩ := q2.get (i := i) (d := ds[i]) (List.getElem?_eq_getElem ld)
        obtain ⟨w', G4, hw', rw', _⟩ := q4.get (i := i) (d := es[i]) (List.getElem?_eq_getElem le)
        rw [hu xs q1] at hu'
        rw [hw ys q3] at hw'
        cases hu'
        cases hw'
        rw [getD_some (List.getElem?_eq_getElem ld), getD_some (List.getElem?_eq_getElem le)]
        have gr := Grow.new0 (H := H') (p := T) (o := .tup [u, w]) hT
        exact ⟨.tup (SqT.of upd_same) (.cons ((ru.nils (imms_get i1 (List.getElem?_eq_getElem ld))).grow gr) (.cons ((rw'.nils (imms_get i2 (List.getElem?_eq_getElem le))).grow gr) .nil)), gr⟩
end
end DL

namespace Ln
def insA (l : List Int) (p v : Int) : List Int := l.take (l.idxOf p + 1) ++ [v] ++ l.drop (l.idxOf p + 1)
def par (qs : List Int) (x : Int) : Int := qs.getD (x - 1).toNat 0
def lineN (qs : List Int) : Nat → List Int
  | 0 => [0]
  | n + 1 => insA (lineN qs n) (qs.getD n 0) ((n : Int) + 1)
/-- a tree of versions -/
def Good (qs : List Int) : Prop := qs.length ≤ 1000 ∧ ∀ (j : Nat) (q : Int), qs[j]? = some q → 0 ≤ q ∧ q ≤ (j : Int)
theorem idx_split {A C : List Int} {p : Int} (h : p ∉ A) : (A ++ p :: C).idxOf p = A.length := by
  rw [List.idxOf_append, if_neg h, List.idxOf_cons_self]
  omega
theorem insA_split {A C : List Int} {p v : Int} (h : p ∉ A) : insA (A ++ p :: C) p v = A ++ p :: v :: C := by
  unfold insA
  rw [idx_split h]
  have e : A ++ p :: C = (A ++ [p]) ++ C := by simp
  have l : (A ++ [p]).length = A.length + 1 := by simp
  rw [e, ← l, List.take_left, List.drop_left]
  simp
theorem split_of {l : List Int} {p : Int} (h : p ∈ l) : ∃ A C, l = A ++ p :: C ∧ p ∉ A := List.eq_append_cons_of_mem h
theorem good_get {qs : List Int} (g : Good qs) {n : Nat} (h : n < qs.length) : 0 ≤ qs.getD n 0 ∧ qs.getD n 0 ≤ (n : Int) := by
  have e : qs[n]? = some (qs.getD n 0) := by rw [List.getD_eq_getElem?_getD, List.getElem?_eq_getElem h]; rfl
  exact g.2 n _ e
structure Whole (n : Nat) (l : List Int) : Prop where
  mem : ∀ x, x ∈ l ↔ 0 ≤ x ∧ x ≤ (n : Int)
  nd : l.Nodup
  len : l.length = n + 1
theorem whole {qs : List Int} (g : Good qs) : ∀ {n : Nat}, n ≤ qs.length → Whole n (lineN qs n)
  | 0, _ => ⟨fun x => by
      show x ∈ [(0 : Int)] ↔ _
      rw [List.mem_singleton]
      omega, by simp [lineN], rfl⟩
  | n + 1, h => by
    have ih := whole g (n := n) (by omega)
    obtain ⟨h0, h1⟩ := good_get g (n := n) (by omega)
    obtain ⟨A, C, e, na⟩ := split_of ((ih.mem (qs.getD n 0)).mpr ⟨h0, h1⟩)
    show Whole (n + 1) (insA (lineN qs n) (qs.getD n 0) ((n : Int) + 1))
    have pm : (A ++ qs.getD n 0 :: ((n : Int) + 1) :: C).Perm (((n : Int) + 1) :: (A ++ qs.getD n 0 :: C)) := by
      have q := List.perm_middle (l₁ := A ++ [qs.getD n 0]) (a := (n : Int) + 1) (l₂ := C)
      simpa using q
    have m := ih.mem
    have nd := ih.nd
    have ln := ih.len
    rw [e] at m nd ln
    rw [e, insA_split na]
    refine ⟨fun x => ?_, ?_, ?_⟩
    · rw [pm.mem_iff, List.mem_cons, m x]
      push_cast
      omega
    · rw [pm.nodup_iff, List.nodup_cons]
      refine ⟨fun q => ?_, nd⟩
      have := (m _).mp q
      omega
    · rw [pm.length_eq, List.length_cons, ln]
theorem lineN_take {qs : List Int} {m : Nat} : ∀ {n : Nat}, n ≤ m → m ≤ qs.length → lineN (qs.take m) n = lineN qs n
  | 0, _, _ => rfl
  | n + 1, h, h2 => by
    show insA _ _ _ = insA _ _ _
    rw [lineN_take (n := n) (by omega) h2]
    congr 1
    rw [List.getD_eq_getElem?_getD, List.getD_eq_getElem?_getD, List.getElem?_take, if_pos (by omega)]
/-! ### the way up -/
def wayF (qs : List Int) : Nat → Int → List Int
  | 0, x => [x]
  | f + 1, x => if x = 0 then [x] else x :: wayF qs f (par qs x)
def way (qs : List Int) (x : Int) : List Int := wayF qs x.toNat x
theorem par_lt {qs : List Int} (g : Good qs) {x : Int} (h : 0 < x) (h2 : x ≤ qs.length) : 0 ≤ par qs x ∧ par qs x < x := by
  have q := good_get g (n := (x - 1).toNat) (by omega)
  unfold par
  omega
theorem way_fuel {qs : List Int} (g : Good qs) : ∀ (f : Nat) (x : Int), 0 ≤ x → x ≤ qs.length → x.toNat ≤ f → wayF qs f x = way qs x := by
  have key : ∀ (n : Nat) (x : Int) (f f' : Nat), x.toNat ≤ n → 0 ≤ x → x ≤ qs.length → x.toNat ≤ f → x.toNat ≤ f' → wayF qs f x = wayF qs f' x := by
    intro n
    induction n with
    | zero =>
      intro x f f' h h0 h1 h2 h3
      have e : x = 0 := by omega
      subst e
      cases f <;> cases f' <;> simp [wayF]
    | succ n ih =>
      intro x f f' h h0 h1 h2 h3
      by_cases e : x = 0
      · subst e
        cases f <;> cases f' <;> simp [wayF]
      · obtain ⟨p0, p1⟩ := par_lt g (x := x) (by omega) h1
        cases f with
        | zero => omega
        | succ f =>
          cases f' with
          | zero => omega
          | succ f' =>
            rw [wayF, wayF, if_neg e, if_neg e, ih (par qs x) f f' (by omega) p0 (by omega) (by omega) (by omega)]
  intro f x h0 h1 h2
  exact key _ x f x.toNat (Nat.le_refl _) h0 h1 h2 (Nat.le_refl _)
theorem way_zero {qs : List Int} : way qs 0 = [0] := rfl
theorem way_pos {qs : List Int} (g : Good qs) {x : Int} (h : 0 < x) (h2 : x ≤ qs.length) : way qs x = x :: way qs (par qs x) := by
  obtain ⟨p0, p1⟩ := par_lt g h h2
  obtain ⟨n, e⟩ : ∃ n, x.toNat = n + 1 := ⟨x.toNat - 1, by omega⟩
  unfold way
  rw [e, wayF, if_neg (by omega), way_fuel g n _ p0 (by omega) (by omega)]
  rfl
/-! ### the blocks of a line -/
structure Blk (qs : List Int) (n : Nat) (l : List Int) (v : Int) (A D B : List Int) : Prop where
  eq : l = A ++ v :: (D ++ B)
  gt : ∀ x ∈ D, v < x
  lt : ∀ b, B.head? = some b → b < v
  ds : ∀ x, 0 ≤ x → x ≤ (n : Int) → (x ∈ v :: D ↔ v ∈ way qs x)
  ch : ∀ c, 0 < c → c ≤ (n : Int) → par qs c = v → (∀ c', c < c' → c' ≤ (n : Int) → par qs c' ≠ v) → D.head? = some c
  sb : ∀ c, 0 < c → c < v → par qs c = par qs v → (∀ c', c < c' → c' < v → par qs c' ≠ par qs v) → B.head? = some c
theorem head_app {A C : List Int} {p v : Int} : (A ++ p :: v :: C).head? = (A ++ p :: C).head? := by
  cases A <;> rfl
theorem par_succ {qs : List Int} {n : Nat} : par qs ((n : Int) + 1) = qs.getD n 0 := by
  unfold par
  have e : ((n : Int) + 1 - 1).toNat = n := by omega
  rw [e]
theorem blocks {qs : List Int} (g : Good qs) : ∀ {n : Nat}, n ≤ qs.length → ∀ v : Int, 0 ≤ v → v ≤ n → ∃ A D B, Blk qs n (lineN qs n) v A D B
  | 0, _, v, h0, h1 => by
    have e : v = 0 := by omega
    subst e
    refine ⟨[], [], [], rfl, (fun x h => nomatch h), (fun b h => nomatch h), fun x hx hx2 => ?_, fun c h2 h3 => by omega, fun c h2 h3 => by omega⟩
    have e : x = 0 := by omega
    subst e
    rw [way_zero]
  | n + 1, h, v, h0, h1 => by
    have W := whole g (n := n) (by omega)
    obtain ⟨p0, p1⟩ := good_get g (n := n) (by omega)
    have hp : qs.getD n 0 = par qs ((n : Int) + 1) := par_succ.symm
    have wn : way qs ((n : Int) + 1) = ((n : Int) + 1) :: way qs (qs.getD n 0) := by rw [way_pos g (by omega) (by omega), ← hp]
    show ∃ A D B, Blk qs (n + 1) (insA (lineN qs n) (qs.getD n 0) ((n : Int) + 1)) v A D B
    generalize hpp : qs.getD n 0 = p at *
    have pm : p ∈ lineN qs n := (W.mem p).mpr ⟨p0, p1⟩
    by_cases hv : v = (n : Int) + 1
    · subst hv
      obtain ⟨A, D, B, b⟩ := blocks g (n := n) (by omega) p p0 (by omega)
      have nd := W.nd
      rw [b.eq] at nd
      have na : p ∉ A := fun q => (List.nodup_append.mp nd).2.2 p q p List.mem_cons_self rfl
      have mm : ∀ x ∈ D ++ B, x ≤ (n : Int) := fun x hx => ((W.mem x).mp (by rw [b.eq]; exact List.mem_append_right _ (List.mem_cons_of_mem _ hx))).2
      refine ⟨A ++ [p], [], D ++ B, by rw [b.eq, insA_split na]; simp, (fun x h => nomatch h), fun x hx => ?_, fun x hx hx2 => ?_, fun c c0 c1 c2 c3 => ?_, fun c c0 c1 c2 c3 => ?_⟩
      · have := mm x (List.mem_of_head? hx)
        omega
      · rw [List.mem_singleton]
        constructor
        · intro e
          subst e
          rw [wn]
          exact List.mem_cons_self
        · intro e
          by_cases q : x = (n : Int) + 1
          · exact q
          · exfalso
            have key : ∀ (k : Nat) (y : Int), y.toNat ≤ k → 0 ≤ y → y ≤ (n : Int) → ∀ z ∈ way qs y, z ≤ y := by
              intro k
              induction k with
              | zero =>
                intro y hy y0 y1 z hz
                have e : y = 0 := by omega
                subst e
                rw [way_zero, List.mem_singleton] at hz
                omega
              | succ k ih =>
                intro y hy y0 y1 z hz
                by_cases e : y = 0
                · subst e
                  rw [way_zero, List.mem_singleton] at hz
                  omega
                · rw [way_pos g (by omega) (by omega), List.mem_cons] at hz
                  obtain ⟨q0, q1⟩ := par_lt g (x := y) (by omega) (by omega)
                  rcases hz with z1 | z1
                  · omega
                  · have := ih (par qs y) (by omega) q0 (by omega) z z1
                    omega
            have := key x.toNat x (Nat.le_refl _) hx (by push_cast at hx2; omega) _ e
            push_cast at hx2
            omega
      · exfalso
        push_cast at c1
        obtain ⟨q0, q1⟩ := par_lt g c0 (by omega)
        omega
      · rw [← hp] at c2 c3
        have := b.ch c c0 (by omega) c2 fun c' h1 h2 => c3 c' h1 (by omega)
        cases D with
        | nil => cases this
        | cons d D => exact this
    · have hv' : v ≤ (n : Int) := by push_cast at h1; omega
      obtain ⟨A, D, B, b⟩ := blocks g (n := n) (by omega) v h0 hv'
      have nd := W.nd
      have pm' := pm
      rw [b.eq] at nd pm'
      have ndA := (List.nodup_append.mp nd).2.2
      have ndR := (List.nodup_append.mp nd).2.1
      have ndv := List.nodup_cons.mp ndR
      have ndDB := List.nodup_append.mp ndv.2
      have descN : ((n : Int) + 1 ∈ way qs ((n : Int) + 1)) := by rw [wn]; exact List.mem_cons_self
      have dsp : v ∈ way qs ((n : Int) + 1) ↔ p ∈ v :: D := by
        rw [wn, List.mem_cons, b.ds p p0 p1]
        constructor
        · rintro (q | q)
          · exact absurd q hv
          · exact q
        · exact .inr
      have chs : ∀ {D' : List Int}, p ≠ v → D'.head? = D.head? → ∀ c, 0 < c → c ≤ ((n + 1 : Nat) : Int) → par qs c = v → (∀ c', c < c' → c' ≤ ((n + 1 : Nat) : Int) → par qs c' ≠ v) → D'.head? = some c := by
        intro D' hne hh c c0 c1 c2 c3
        rw [hh]
        have cn : c ≠ (n : Int) + 1 := fun e => by
          rw [e, ← hp] at c2
          exact hne c2
        exact b.ch c c0 (by push_cast at c1; omega) c2 fun c' h1 h2 => c3 c' h1 (by push_cast; omega)
      rcases List.mem_append.mp pm' with q | q
      · obtain ⟨A1, A2, e, na⟩ := split_of q
        subst e
        have hpD : p ∉ v :: D := fun z => ndA p q p (by rcases List.mem_cons.mp z with y | y; exact List.mem_cons.mpr (.inl y); exact List.mem_cons_of_mem _ (List.mem_append_left _ y)) rfl
        refine ⟨A1 ++ p :: ((n : Int) + 1) :: A2, D, B, ?_, b.gt, b.lt, fun x hx hx2 => ?_, chs (fun e => hpD (by rw [e]; exact List.mem_cons_self)) rfl, b.sb⟩
        · rw [b.eq]
          have e2 : A1 ++ p :: A2 ++ v :: (D ++ B) = A1 ++ p :: (A2 ++ v :: (D ++ B)) := by simp
          rw [e2, insA_split na]
          simp
        · by_cases e : x = (n : Int) + 1
          · subst e
            rw [dsp]
            refine ⟨fun z => ?_, fun z => absurd z hpD⟩
            exfalso
            have := ((W.mem _).mp (show (n : Int) + 1 ∈ lineN qs n from by
              rw [b.eq]
              refine List.mem_append_right _ ?_
              rcases List.mem_cons.mp z with y | y
              · exact List.mem_cons.mpr (.inl y)
              · exact List.mem_cons_of_mem _ (List.mem_append_left _ y))).2
            omega
          · exact b.ds x hx (by push_cast at hx2; omega)
      · rcases List.mem_cons.mp q with q | q
        · subst q
          have na : p ∉ A := fun z => ndA p z p List.mem_cons_self rfl
          refine ⟨A, ((n : Int) + 1) :: D, B, by rw [b.eq, insA_split na]; rfl, fun x hx => ?_, b.lt, fun x hx hx2 => ?_, fun c c0 c1 c2 c3 => ?_, b.sb⟩
          · rcases List.mem_cons.mp hx with z | z
            · omega
            · exact b.gt x z
          · by_cases e : x = (n : Int) + 1
            · subst e
              rw [dsp]
              simp
            · rw [← b.ds x hx (by push_cast at hx2; omega)]
              simp [e]
          · by_cases e : c = (n : Int) + 1
            · rw [e]
              rfl
            · exact absurd hp.symm (c3 _ (by push_cast at c1; omega) (by push_cast; omega))
        · have npv : p ≠ v := fun z => ndv.1 (by rw [← z]; exact q)
          have na : p ∉ A := fun z => ndA p z p (List.mem_cons_of_mem _ q) rfl
          rcases List.mem_append.mp q with q | q
          · obtain ⟨D1, D2, e, nd1⟩ := split_of q
            subst e
            refine ⟨A, D1 ++ p :: ((n : Int) + 1) :: D2, B, ?_, fun x hx => ?_, b.lt, fun x hx hx2 => ?_, chs npv head_app, b.sb⟩
            · rw [b.eq]
              have e2 : A ++ v :: (D1 ++ p :: D2 ++ B) = (A ++ v :: D1) ++ p :: (D2 ++ B) := by simp
              rw [e2, insA_split]
              · simp
              · intro z
                rcases List.mem_append.mp z with y | y
                · exact na y
                · rcases List.mem_cons.mp y with y | y
                  · exact npv y
                  · exact nd1 y
            · have : x ∈ D1 ++ p :: D2 ∨ x = (n : Int) + 1 := by
                simp only [List.mem_append, List.mem_cons] at hx ⊢
                rcases hx with z | z | z | z
                · exact .inl (.inl z)
                · exact .inl (.inr (.inl z))
                · exact .inr z
                · exact .inl (.inr (.inr z))
              rcases this with z | z
              · exact b.gt x z
              · omega
            · by_cases e : x = (n : Int) + 1
              · subst e
                rw [dsp]
                simp
              · rw [← b.ds x hx (by push_cast at hx2; omega)]
                simp [e]
          · obtain ⟨B1, B2, e, nb1⟩ := split_of q
            subst e
            have hpD : p ∉ D := fun z => ndDB.2.2 p z p q rfl
            refine ⟨A, D, B1 ++ p :: ((n : Int) + 1) :: B2, ?_, b.gt, fun x hx => b.lt x (by rw [← hx, head_app]), fun x hx hx2 => ?_, chs npv rfl, fun c c0 c1 c2 c3 => by rw [head_app]; exact b.sb c c0 c1 c2 c3⟩
            · rw [b.eq]
              have e2 : A ++ v :: (D ++ (B1 ++ p :: B2)) = (A ++ v :: (D ++ B1)) ++ p :: B2 := by simp
              rw [e2, insA_split]
              · simp
              · intro z
                rcases List.mem_append.mp z with y | y
                · exact na y
                · rcases List.mem_cons.mp y with y | y
                  · exact npv y
                  · rcases List.mem_append.mp y with y | y
                    · exact hpD y
                    · exact nb1 y
            · by_cases e : x = (n : Int) + 1
              · subst e
                rw [dsp]
                refine ⟨fun z => ?_, fun z => ?_⟩
                · exfalso
                  have := ((W.mem _).mp (show (n : Int) + 1 ∈ lineN qs n from by
                    rw [b.eq]
                    refine List.mem_append_right _ ?_
                    rcases List.mem_cons.mp z with y | y
                    · exact List.mem_cons.mpr (.inl y)
                    · exact List.mem_cons_of_mem _ (List.mem_append_left _ y))).2
                  omega
                · rcases List.mem_cons.mp z with y | y
                  · exact absurd y npv
                  · exact absurd y hpD
              · exact b.ds x hx (by push_cast at hx2; omega)
/-! ### what follows a version -/
def ixD (l : List Int) (v : Int) : Int := (l.idxOf v : Nat)
def kidsD (l : List Int) (v : Int) : List Int := (l.drop (l.idxOf v + 1)).takeWhile fun x => decide (v < x)
theorem tw_lt {α : Type} {p : α → Bool} : ∀ {r : List α} {j : Nat}, j < (r.takeWhile p).length → ∃ x, r[j]? = some x ∧ p x = true
  | [], j, h => by simp at h
  | a :: r, j, h => by
    rw [List.takeWhile_cons] at h
    cases hp : p a with
    | false => rw [hp] at h; simp at h
    | true =>
      rw [hp] at h
      cases j with
      | zero => exact ⟨a, rfl, hp⟩
      | succ j => exact tw_lt (r := r) (j := j) (by simpa using h)
theorem tw_end {α : Type} {p : α → Bool} : ∀ {r : List α} {x : α}, r[(r.takeWhile p).length]? = some x → p x = false
  | [], x, h => by simp at h
  | a :: r, x, h => by
    rw [List.takeWhile_cons] at h
    cases hp : p a with
    | false =>
      rw [hp] at h
      have e : a = x := by simpa using h
      rw [← e]
      exact hp
    | true =>
      rw [hp] at h
      exact tw_end (r := r) (by simpa using h)
theorem tw_le {α : Type} {p : α → Bool} {r : List α} : (r.takeWhile p).length ≤ r.length := (List.takeWhile_prefix p).length_le
theorem kids_lt {l : List Int} {v : Int} {j : Nat} (h : j < (kidsD l v).length) : ∃ x, l[l.idxOf v + 1 + j]? = some x ∧ v < x := by
  obtain ⟨x, h1, h2⟩ := tw_lt h
  rw [List.getElem?_drop] at h1
  exact ⟨x, h1, of_decide_eq_true h2⟩
theorem kids_end {l : List Int} {v x : Int} (h : l[l.idxOf v + 1 + (kidsD l v).length]? = some x) : ¬ v < x := by
  have q : (l.drop (l.idxOf v + 1))[(kidsD l v).length]? = some x := by rw [List.getElem?_drop]; exact h
  exact of_decide_eq_false (tw_end (p := fun y => decide (v < y)) q)
end Ln

namespace DL
open PySem PySem.Spec L2
theorem ix_nat {α : Type} {xs : List α} {i : Int} (h : 0 ≤ i) : atI xs i = xs[i.toNat]? := by
  unfold atI ixN
  rw [if_pos h]
  by_cases h1 : i < (xs.length : Int)
  · rw [if_pos h1]
    rfl
  · rw [if_neg h1]
    exact (List.getElem?_eq_none_iff.mpr (by omega)).symm
theorem atI_neg1 {α : Type} {xs : List α} {x : α} : atI (xs ++ [x]) (-1) = some x := by
  unfold atI ixN
  rw [if_neg (by omega), if_pos (by simp; omega)]
  have e : (-1 + ((xs ++ [x]).length : Int)).toNat = xs.length := by simp; omega
  show ((some (-1 + ((xs ++ [x]).length : Int)).toNat).bind fun j => (xs ++ [x])[j]?) = some x
  rw [e]
  simp
theorem sIx_some {n d : Nat} {i : Int} (h : 0 ≤ i) : HT.sIx n d (some i) = min i.toNat n := by
  show (if i < 0 then (i + (n : Int)).toNat else min i.toNat n) = min i.toNat n
  rw [if_neg (by omega)]
theorem cutD_from {ds : List D} {i : Int} (h : 0 ≤ i) : cutD ds (some i) none = ds.drop i.toNat := by
  unfold cutD
  rw [sIx_some h]
  show (ds.drop (min i.toNat ds.length)).take (ds.length - min i.toNat ds.length) = _
  by_cases q : i.toNat ≤ ds.length
  · rw [Nat.min_eq_left q]
    exact List.take_of_length_le (by rw [List.length_drop]; omega)
  · rw [Nat.min_eq_right (by omega), List.drop_of_length_le (Nat.le_refl _), List.drop_of_length_le (by omega)]
    simp
theorem cutD_to {ds : List D} {i : Int} (h : 0 ≤ i) : cutD ds none (some i) = ds.take i.toNat := by
  unfold cutD
  rw [sIx_some h]
  show (ds.drop 0).take (min i.toNat ds.length - 0) = _
  rw [List.drop_zero, Nat.sub_zero]
  by_cases q : i.toNat ≤ ds.length
  · rw [Nat.min_eq_left q]
  · rw [Nat.min_eq_right (by omega), List.take_of_length_le (Nat.le_refl _), List.take_of_length_le (by omega)]
theorem cutD_mid {ds : List D} {i j : Int} (h : 0 ≤ i) (h2 : 0 ≤ j) : cutD ds (some i) (some j) = (ds.drop i.toNat).take (j.toNat - i.toNat) := by
  unfold cutD
  rw [sIx_some h, sIx_some h2]
  by_cases q : i.toNat ≤ ds.length
  · rw [Nat.min_eq_left q]
    by_cases q2 : j.toNat ≤ ds.length
    · rw [Nat.min_eq_left q2]
    · rw [Nat.min_eq_right (by omega), List.take_of_length_le (by rw [List.length_drop]; omega), List.take_of_length_le (by rw [List.length_drop]; omega)]
  · rw [Nat.min_eq_right (by omega : ds.length ≤ i.toNat), List.drop_of_length_le (Nat.le_refl _), List.drop_of_length_le (by omega)]
    simp
theorem imms_drop {ds : List D} {i : Nat} (h : Imms ds) : Imms (ds.drop i) := imms_iff.mpr fun d hd => imms_iff.mp h d (List.drop_subset _ _ hd)
theorem imms_take {ds : List D} {i : Nat} (h : Imms ds) : Imms (ds.take i) := imms_iff.mpr fun d hd => imms_iff.mp h d (List.take_subset _ _ hd)
theorem getD_ints {xs : List Int} {i : Nat} (h : i < xs.length) : (xs.map D.int).getD i .non = .int (xs.getD i 0) := by
  rw [List.getD_eq_getElem?_getD, List.getD_eq_getElem?_getD, List.getElem?_map, List.getElem?_eq_getElem h]
  rfl
/-- a mark for the driver: tuples are known whole -/
inductive PtMode : Prop where
  | on
section
variable {X : Cx} {scope : Scope} {i j kk : Nat} {x y : Str} {px py pt : Pos}
theorem blk_name (hN : X.N.Nodup) (hi : X.N[i]? = some x) (hx : scope.names.lookup x = some .local) (s : Shared) (H : Hp) (C : Addr) (cl : List (Str × Addr)) (fp : List Addr) :
    PG (X.blk s H scope (compEnvC scope cl C X.env) fp) (.Name x px) (gName i) := pg_name (X := X.blk s H scope (compEnvC scope cl C X.env) fp) hN hi (.inl (lookup_relabel_local hx)) (.inr (lookup_relabel_local hx))
theorem blk_pair (hc : X.calm = true) (hN : X.N.Nodup) (hi : X.N[i]? = some x) (hj : X.N[j]? = some y) (hx : scope.names.lookup x = some .local) (hy : scope.names.lookup y = some .local) (s : Shared) (H : Hp) (C : Addr) (cl : List (Str × Addr)) (fp : List Addr) :
    PG (X.blk s H scope (compEnvC scope cl C X.env) fp) (.Tuple [.Name x px, .Name y py] kk pt) (gTup X.K 2 (gCons (gName i) (gCons (gName j) gNil))) :=
  pg_tup (X := X.blk s H scope (compEnvC scope cl C X.env) fp) hc (pgs_cons (blk_name hN hi hx s H C cl fp) (pgs_cons (blk_name hN hj hy s H C cl fp) pgs_nil))
end
theorem cdivw {i j : Int} (h : 0 < j) (h2 : j < 4611686018427387904) : CDivW i j := by
  refine ⟨h, ?_⟩
  have e : j.natAbs < 2 ^ 62 := by omega
  have := (Nat.log2_lt (by omega : j.natAbs ≠ 0)).mpr e
  omega
theorem cpow {i j : Int} (h : 0 ≤ j) (h1 : j ≤ 1000) (h2 : 0 ≤ i) (h3 : i < 18446744073709551616) : CPow i j := ⟨h, by omega, by omega⟩
theorem cmul1 {i j : Int} (h : 0 ≤ i) (h2 : i < 18446744073709551616) : CMul i j := .inl ⟨by omega, by omega⟩
theorem cmul2 {i j : Int} (h : 0 ≤ j) (h2 : j < 18446744073709551616) : CMul i j := .inr ⟨by omega, by omega⟩
/-- what a block of one's own needs of a list of facts -/
theorem two_true {p : Prop} {b : Bool} (h : b = true) (q : p) : (b = true → p) ∧ (b = false → False) := ⟨fun _ => q, fun e => by rw [h] at e; cases e⟩
end DL

namespace DL
open PySem PySem.Spec L2
section
variable {X : Cx} {n : List Nat} {E : EnvT} {kb : Bool → EnvT → Prop} {pos pos' apos p p2 : Pos} {i j jj : Nat} {x z : Str} {e : Expr} {es : List Expr} {keys : List Key} {ds : List D} {d : D}
theorem wvs_nil {k : List D → EnvT → Prop} (h : k [] E) : WVs X [] E k := h
theorem wvs_cons {k : List D → EnvT → Prop} (h : WE X e E fun d E1 => WVs X es E1 fun ds E2 => k (d :: ds) E2) : WVs X (e :: es) E k := h
/-- x['z'] != [], a list of ints, as a test -/
theorem wt_dne {gs : List Int} (hu : X.A.units + 64 < cLine) (hN : X.N[i]? = some x) (hE : E[i]? = some (some (.dic keys ds))) (hk : keys.Nodup) (hj : keys[j]? = some (.inr z)) (hd : ds[j]? = some (.lst (gs.map D.int))) (h : kb (!decide (gs = [])) E)
    (hv : Vis X.env.scope x := by first | exact Or.inl rfl | exact Or.inr (Or.inl rfl) | exact Or.inr (Or.inr rfl)) (hdb : (x == ("__debug__" : Str)) = false := by decide) (hcd : (x == ("__classdict__" : Str)) = false := by decide) :
    WT X (.Compare (.Subscript (.Name x p) (.Constant (.str z) jj p2) pos') [.NotEq] [.List [] apos] pos) E kb := by
  intro Z H σ F Q he hk'
  obtain ⟨a, vs, Fd, R, hv1, hH, hl, rs, hR, hp⟩ := he.dic hE
  obtain ⟨v, G', hvj, rv, _⟩ := rs.get hd
  refine wpT_by (pt_cmpR (op_neD hu) (pe_dget (by omega) (pe_var hN hv hdb hcd) pe_str (fun _ _ => rfl)) (pe_lst pa_nil) (nomark _)) ⟨_, hv1, a, v, rfl, ?_, Nat.zero_le _, fun q hq => ?_⟩
  · have g := DGet.k (k := Sum.inr z) hH
    rw [valV_zip hk hj hvj] at g
    exact g
  · have gr := Grow.new0 (H := H) (p := q) (o := .lst []) hq
    have s1 : ShpN 1 (.lst (gs.map D.int)) := shpN_lst fun d hd => by
      obtain ⟨y, _, rfl⟩ := List.mem_map.mp hd
      exact shpN_int
    have s2 : ShpN 1 (.lst []) := shpN_lst fun d hd => nomatch hd
    have rq : Rep X.K Z (upd H q (.lst [])) (.lst []) (.ref q) [q] := .lst upd_same .nil
    refine ⟨_, _, (rv.grow gr).dp s1.1, rq.dp s2.1, s1.shp (by decide), s2.shp (by decide), ?_⟩
    have e : (!PyData.eqv (toPy (.lst (gs.map D.int))) (toPy (.lst []))) = !decide (gs = []) := by
      have q2 : PyData.eqv (toPy (.lst (gs.map D.int))) (toPy (.lst ([].map D.int))) = decide (gs = []) := by
        have q3 := deqs_ints (xs := gs) (ys := [])
        have q4 : deq (.lst (gs.map D.int)) (.lst ([].map D.int)) = deqs (gs.map D.int) ([].map D.int) := deq_ll rfl rfl
        rw [q3] at q4
        exact q4
      exact congrArg (!·) q2
    rw [e]
    exact ⟨_, rfl, hk' _ E Z _ F h ((Fin.refl he).grow gr).nil⟩
end
/-! ### the state of the draws -/
def kS : List Key := [.inr "great", .inr "cells", .inr "left", .inr "turn"]
theorem kN : kS.Nodup := by decide
theorem key0 : kS[0]? = some (.inr "great") := rfl
theorem key1 : kS[1]? = some (.inr "cells") := rfl
theorem key2 : kS[2]? = some (.inr "left") := rfl
theorem key3 : kS[3]? = some (.inr "turn") := rfl
def stD (g c : List Int) (l t : Int) : D := .dic kS [.lst (g.map D.int), .fz (c.map D.int), .int l, .int t]
end DL

namespace DL
open PySem PySem.Spec L2
section
variable {X : Cx} {n : List Nat} {e a b c : Expr} {E : EnvT} {ks : KS} {pos p pos' : Pos} {i j l : Nat} {x y z : Str}
theorem WT.mono {k k' : Bool → EnvT → Prop} (h : WT X e E k) (m : ∀ t E', k t E' → k' t E') : WT X e E k' := fun Z H σ F Q he hk => h Z H σ F Q he fun t E' Z' H' F' q => hk t E' Z' H' F' (m t E' q)
theorem ws_ifc {sa sb : List Stmt} (M : EnvT → Prop) (h : WT X c E fun _ E1 => M E1) (ha : ∀ E1, M E1 → WSs X n sa E1 ks) (hb : ∀ E1, M E1 → WSs X n sb E1 ks) : WS X n (.If c sa sb pos) E ks :=
  ws_if (WT.mono h fun t E' q => ⟨fun _ => ha E' q, fun _ => hb E' q⟩)
/-- x, y, z = a, b, c -/
theorem ws_par3 {px py pz pt pt2 : Pos} {kt k2 : Nat} (hc : X.calm = true) (hN : X.N.Nodup) (hi : X.N[i]? = some x) (hj : X.N[j]? = some y) (hl : X.N[l]? = some z) (hij : i ≠ j) (hil : i ≠ l) (hjl : j ≠ l) (hni : i ∉ n) (hnj : j ∉ n) (hnl : l ∉ n)
    (hx : X.env.scope.names.lookup x = some .local) (hy : X.env.scope.names.lookup y = some .local) (hz : X.env.scope.names.lookup z = some .local)
    (h : WA X [a, b, c] E fun os E1 => ∃ d1 d2 d3, os = [.val d1, .val d2, .val d3] ∧ i < E1.length ∧ j < E1.length ∧ l < E1.length ∧ ks.nx (((E1.set i (some d1)).set j (some d2)).set l (some d3)))
    (hw : swappedStores [.Tuple [.Name x px, .Name y py, .Name z pz] kt pt] (.Tuple [a, b, c] k2 pt2) X.env = pure (some [x, y, z]))
    (hs : swapsWithSole [.Tuple [.Name x px, .Name y py, .Name z pz] kt pt] (.Tuple [a, b, c] k2 pt2) pos.line X.env = pure false := by rfl) :
    WS X n (.Assign [.Tuple [.Name x px, .Name y py, .Name z pz] kt pt] (.Tuple [a, b, c] k2 pt2) pos) E ks := by
  intro Z H σ F Dd he hk
  refine wpS_by (L2.ps_par3 hc hN hi hj hl hij hil hjl hx hy hz pa_w hw hs) (h Z H σ F _ he fun os E1 Z1 H1 F1 G vs ⟨d1, d2, d3, eo, li, lj, ll, q⟩ f rs => ?_)
  subst eo
  cases rs with
  | cons r1 rs =>
    cases rs with
    | cons r2 rs =>
      cases rs with
      | cons r3 rs =>
        cases rs
        rename_i v1 G1 v2 G2 v3 G3
        have f' := f
        rw [List.append_nil] at f'
        have rr1 : Rep X.K Z1 H1 d1 v1 G1 := r1
        have rr2 : Rep X.K Z1 H1 d2 v2 G2 := r2
        have rr3 : Rep X.K Z1 H1 d3 v3 G3 := r3
        have nd := f'.nd
        have nda := List.nodup_append.mp nd
        have ndg := List.nodup_append.mp nda.1
        have ndg2 := List.nodup_append.mp ndg.2.1
        have d1 : ∀ a ∈ G1, a ∉ F1 := fun a ha hf => nda.2.2 a (List.mem_append_left _ ha) a hf rfl
        have d2 : ∀ a ∈ G2, a ∉ F1 := fun a ha hf => nda.2.2 a (List.mem_append_right _ (List.mem_append_left _ ha)) a hf rfl
        have d3 : ∀ a ∈ G3, a ∉ F1 := fun a ha hf => nda.2.2 a (List.mem_append_right _ (List.mem_append_right _ ha)) a hf rfl
        have d21 : ∀ a ∈ G2, a ∉ G1 := fun a ha hf => ndg.2.2 a hf a (List.mem_append_left _ ha) rfl
        have d31 : ∀ a ∈ G3, a ∉ G1 := fun a ha hf => ndg.2.2 a hf a (List.mem_append_right _ ha) rfl
        have d32 : ∀ a ∈ G3, a ∉ G2 := fun a ha hf => ndg2.2.2 a hf a ha rfl
        obtain ⟨F2, h1, m1⟩ := f'.env.asg (i := i) rr1 (List.nodup_append.mpr ⟨ndg.1, f'.env.nd, fun a ha b hb e => d1 a ha (e ▸ hb)⟩) (fun a ha => f'.nz a (List.mem_append_left _ ha)) li
        obtain ⟨F3, h2, m2⟩ := h1.asg (i := j) rr2 (List.nodup_append.mpr ⟨ndg2.1, h1.nd, fun a ha b hb e => (m1 b hb).elim (fun q => d21 a ha (e ▸ q)) fun q => d2 a ha (e ▸ q)⟩) (fun a ha => f'.nz a (List.mem_append_right _ (List.mem_append_left _ ha))) (by rw [List.length_set]; exact lj)
        obtain ⟨F4, h3, m3⟩ := h2.asg (i := l) rr3 (List.nodup_append.mpr ⟨ndg2.2.1, h2.nd, fun a ha b hb e => (m2 b hb).elim (fun q => d32 a ha (e ▸ q)) fun q => (m1 b q).elim (fun q => d31 a ha (e ▸ q)) fun q => d3 a ha (e ▸ q)⟩) (fun a ha => f'.nz a (List.mem_append_right _ (List.mem_append_right _ ha))) (by rw [List.length_set, List.length_set]; exact ll)
        refine ⟨v1, v2, v3, rfl, hk.nx _ Z1 H1 _ F4 q ⟨h3, h3.nd, (fun a q => nomatch q), f'.st.sub fun a ha => ?_, ((Pin.set hni).trans (Pin.set hnj)).trans (Pin.set hnl)⟩⟩
        simp only [List.mem_append]
        rcases m3 a ha with q | q
        · exact .inl (.inr (.inr q))
        · rcases m2 a q with q | q
          · exact .inl (.inr (.inl q))
          · rcases m1 a q with q | q
            · exact .inl (.inl q)
            · exact .inr q
end
end DL

namespace DL
open PySem PySem.Spec L2
section
variable {X : Cx}
theorem any_ints {ns : List Int} {i : Int} : ((ns.map D.int).any fun x => deq x (.int i)) = decide (i ∈ ns) := by
  induction ns with
  | nil => simp
  | cons a ns ih =>
    rw [List.map_cons, List.any_cons, ih, deq_int]
    by_cases h : a = i
    · simp [h]
    · have h' : ¬ i = a := fun e => h e.symm
      simp [h, h']
theorem cmp_inS {d2 : D} {ds : List D} {ns : List Int} {i : Int} (h2 : d2.seq = some ds) (h3 : ds = ns.map D.int) : CmpD X .In (.int i) d2 (decide (i ∈ ns)) := .mk op_in_seq fun Z H v1 v2 G1 G2 r1 r2 Q q => by
  obtain ⟨p, vs, G', rfl, hs, rs⟩ := r2.seq h2
  subst h3
  obtain ⟨q1, q2⟩ := Reps.flat r1 rfl rs (by rw [List.all_map]; exact List.all_eq_true.mpr fun _ _ => rfl)
  refine ⟨p, vs, rfl, hs, (r1.flat rfl).1, q1, ?_⟩
  rw [q2, any_ints]
  exact q _ H [] (.bl _) Grow.refl
theorem cmp_notinS {d2 : D} {ds : List D} {ns : List Int} {i : Int} (h2 : d2.seq = some ds) (h3 : ds = ns.map D.int) : CmpD X .NotIn (.int i) d2 (!decide (i ∈ ns)) := .mk op_notIn_seq fun Z H v1 v2 G1 G2 r1 r2 Q q => by
  obtain ⟨p, vs, G', rfl, hs, rs⟩ := r2.seq h2
  subst h3
  obtain ⟨q1, q2⟩ := Reps.flat r1 rfl rs (by rw [List.all_map]; exact List.all_eq_true.mpr fun _ _ => rfl)
  refine ⟨p, vs, rfl, hs, (r1.flat rfl).1, q1, ?_⟩
  rw [q2, any_ints]
  exact q _ H [] (.bl _) Grow.refl
theorem cmp_inL {ns : List Int} {i : Int} : CmpD X .In (.int i) (.lst (ns.map D.int)) (decide (i ∈ ns)) := cmp_inS rfl rfl
theorem cmp_niL {ns : List Int} {i : Int} : CmpD X .NotIn (.int i) (.lst (ns.map D.int)) (!decide (i ∈ ns)) := cmp_notinS rfl rfl
theorem cmp_inF {ns : List Int} {i : Int} : CmpD X .In (.int i) (.fz (ns.map D.int)) (decide (i ∈ ns)) := cmp_inS rfl rfl
theorem cmp_niF {ns : List Int} {i : Int} : CmpD X .NotIn (.int i) (.fz (ns.map D.int)) (!decide (i ∈ ns)) := cmp_notinS rfl rfl
theorem cmp_inT {ns : List Int} {i : Int} : CmpD X .In (.int i) (.tup (ns.map D.int)) (decide (i ∈ ns)) := cmp_inS rfl rfl
theorem cmp_niT {ns : List Int} {i : Int} : CmpD X .NotIn (.int i) (.tup (ns.map D.int)) (!decide (i ∈ ns)) := cmp_notinS rfl rfl
theorem cmp_inP {ns : List Int} {i : Int} : CmpD X .In (.int i) (.pt (ns.map D.int)) (decide (i ∈ ns)) := cmp_inS rfl rfl
theorem cmp_niP {ns : List Int} {i : Int} : CmpD X .NotIn (.int i) (.pt (ns.map D.int)) (!decide (i ∈ ns)) := cmp_notinS rfl rfl
end
end DL

namespace DL
open PySem PySem.Spec L2
section
variable {X : Cx}
theorem shp_lstI {l : List Int} : Shp (.lst (l.map D.int)) := ShpN.shp (n := 1) (shpN_lst fun d hd => by
  obtain ⟨x, _, e⟩ := List.mem_map.mp hd
  rw [← e]; exact shpN_int) (by decide)
theorem shp_tupI {l : List Int} : Shp (.tup (l.map D.int)) := ShpN.shp (n := 1) (shpN_tup fun d hd => by
  obtain ⟨x, _, e⟩ := List.mem_map.mp hd
  rw [← e]; exact shpN_int) (by decide)
theorem shp_ptI {l : List Int} : Shp (.pt (l.map D.int)) := ShpN.shp (n := 1) (shpN_pt fun d hd => by
  obtain ⟨x, _, e⟩ := List.mem_map.mp hd
  rw [← e]; exact shpN_int) (by decide)
theorem cmp_neLL {xs ys : List Int} (hu : X.A.units + 64 < cLine) : CmpD X .NotEq (.lst (xs.map D.int)) (.lst (ys.map D.int)) (!decide (xs = ys)) := by
  have q := cmp_ne (X := X) (d1 := .lst (xs.map D.int)) (d2 := .lst (ys.map D.int)) hu shp_lstI shp_lstI
  rw [deq_ll rfl rfl, deqs_ints] at q
  exact q
theorem cmp_neTT {xs ys : List Int} (hu : X.A.units + 64 < cLine) : CmpD X .NotEq (.tup (xs.map D.int)) (.tup (ys.map D.int)) (!decide (xs = ys)) := by
  have q := cmp_ne (X := X) (d1 := .tup (xs.map D.int)) (d2 := .tup (ys.map D.int)) hu shp_tupI shp_tupI
  rw [deq_tt rfl rfl, deqs_ints] at q
  exact q
theorem cmp_nePT {xs ys : List Int} (hu : X.A.units + 64 < cLine) : CmpD X .NotEq (.pt (xs.map D.int)) (.tup (ys.map D.int)) (!decide (xs = ys)) := by
  have q := cmp_ne (X := X) (d1 := .pt (xs.map D.int)) (d2 := .tup (ys.map D.int)) hu shp_ptI shp_tupI
  rw [deq_tt rfl rfl, deqs_ints] at q
  exact q
theorem cmp_eqLL {xs ys : List Int} (hu : X.A.units + 64 < cLine) : CmpD X .Eq (.lst (xs.map D.int)) (.lst (ys.map D.int)) (decide (xs = ys)) := by
  have q := cmp_eq (X := X) (d1 := .lst (xs.map D.int)) (d2 := .lst (ys.map D.int)) hu shp_lstI shp_lstI
  rw [deq_ll rfl rfl, deqs_ints] at q
  exact q
/-- [] == [] and the like -/
theorem cmp_eqLN {xs : List Int} (hu : X.A.units + 64 < cLine) : CmpD X .Eq (.lst (xs.map D.int)) (.lst []) (decide (xs = [])) := cmp_eqLL (ys := []) hu
theorem cmp_neLN {xs : List Int} (hu : X.A.units + 64 < cLine) : CmpD X .NotEq (.lst (xs.map D.int)) (.lst []) (!decide (xs = [])) := cmp_neLL (ys := []) hu
theorem cmpi_lt : CmpI X .Lt fun i j => decide (i < j) := op_lt
theorem cmpi_le : CmpI X .LtE fun i j => decide (i ≤ j) := op_le
theorem cmpi_gt : CmpI X .Gt fun i j => decide (j < i) := op_gt
theorem cmpi_ge : CmpI X .GtE fun i j => decide (j ≤ i) := op_ge
/-- slices, by trees -/
def rSlD (X : Cx) : V → Option Int → Option Int → Hp → VK → Prop := fun v l u H Q => ∃ r, SlR X r ∧ r v l u H Q
def SlD (X : Cx) (d1 : D) (l u : Option Int) (d : D) : Prop := ∀ Z H v G, Rep X.K Z H d1 v G → Gives X.K Z H d (rSlD X v l u H)
theorem slr_D : SlR X (rSlD X) := fun pins s σ H x v vl vu lo hi sl Q I rx hs pl pu ⟨r, hr, q⟩ => hr pins s σ H x v vl vu lo hi sl Q I rx hs pl pu q
theorem sl_T {d1 : D} {ds : List D} {l u : Option Int} (h : d1.tseq = some ds) (im : Imms ds) : SlD X d1 l u (.tup (cutD ds l u)) := fun Z H v G r Q q => by
  obtain ⟨a, vs, rfl, hs, rs⟩ := r.tseq h
  have rs0 := rs.nils im
  obtain ⟨G', rc⟩ := rs0.cut l u
  have rc0 := rc.nils (imms_cut im)
  refine ⟨_, sl_tupA, a, vs, rfl, hs, fun hw => ?_, fun hw p hp => ?_⟩
  · refine q _ H [] (.tup hs ?_) Grow.refl
    have e : cutV vs l u = vs := by unfold cutV; rw [hw.1, hw.2]; simp
    rw [e] at rc0
    exact rc0
  · exact q _ _ [] (.tup (SqT.of upd_same) (rc0.grow (Grow.new0 hp))) (Grow.new0 hp)
theorem sl_L {d1 : D} {ds : List D} {l u : Option Int} (h : d1.lseq = some ds) (im : Imms ds) : SlD X d1 l u (.lst (cutD ds l u)) := fun Z H v G r Q q => by
  obtain ⟨a, vs, G1, rfl, hs, rs⟩ := r.lseq h
  have rs0 := rs.nils im
  obtain ⟨G', rc⟩ := rs0.cut l u
  have rc0 := rc.nils (imms_cut im)
  exact ⟨_, sl_list, a, vs, rfl, hs, fun p hp => q _ _ [p] (.lst upd_same (rc0.grow (Grow.new hp))) (Grow.new hp)⟩
theorem sl_t {ds : List D} {l u : Option Int} (im : Imms ds) : SlD X (.tup ds) l u (.tup (cutD ds l u)) := sl_T rfl im
theorem sl_p {ds : List D} {l u : Option Int} (im : Imms ds) : SlD X (.pt ds) l u (.tup (cutD ds l u)) := sl_T rfl im
theorem sl_l {ds : List D} {l u : Option Int} (im : Imms ds) : SlD X (.lst ds) l u (.lst (cutD ds l u)) := sl_L rfl im
theorem sl_f {ds : List D} {l u : Option Int} (im : Imms ds) : SlD X (.fz ds) l u (.lst (cutD ds l u)) := sl_L rfl im
theorem wo_slD {e : Expr} {E : EnvT} {k : Opd → EnvT → Prop} {lo hi : Option Expr} {pos p2 : Pos} (h : WO X e E fun o E1 => WPt X lo E1 fun l E2 => WPt X hi E2 fun u E3 => ∃ d1 d, o.get E3 = some d1 ∧ SlD X d1 l u d ∧ k (.val d) E3) :
    WO X (.Subscript e (.Slice lo hi none p2) pos) E k := wo_sl slr_D h
end
end DL

namespace DL
open PySem PySem.Spec L2
theorem at2_0 {a b : D} : atI [a, b] 0 = some a := (ix_nat (by decide)).trans rfl
theorem at2_1 {a b : D} : atI [a, b] 1 = some b := (ix_nat (by decide)).trans rfl
theorem at3_0 {a b c : D} : atI [a, b, c] 0 = some a := (ix_nat (by decide)).trans rfl
theorem at3_1 {a b c : D} : atI [a, b, c] 1 = some b := (ix_nat (by decide)).trans rfl
theorem at3_2 {a b c : D} : atI [a, b, c] 2 = some c := (ix_nat (by decide)).trans rfl
def pairD (p : Int × Int) : D := .tup [.int p.1, .int p.2]
theorem imms_pairs : ∀ {ps : List (Int × Int)}, Imms (ps.map pairD)
  | [] => trivial
  | _ :: _ => ⟨⟨trivial, trivial, trivial⟩, imms_pairs⟩
theorem shp_pairs {ps : List (Int × Int)} : Shp (.lst (ps.map pairD)) := ShpN.shp (n := 2) (shpN_lst fun d hd => by
  obtain ⟨x, _, e⟩ := List.mem_map.mp hd
  rw [← e]
  exact shpN_tup fun d hd => by
    rcases List.mem_cons.mp hd with q | q
    · rw [q]; exact shpN_int
    · rw [List.mem_singleton.mp q]; exact shpN_int) (by decide)
section
variable {X : Cx}
theorem cmp_neE {ds : List D} (hu : X.A.units + 64 < cLine) (h : Shp (.lst ds)) : CmpD X .NotEq (.lst ds) (.lst []) (!ds.isEmpty) := by
  have q := cmp_ne (X := X) (d1 := .lst ds) (d2 := .lst []) hu h (shp_lstI (l := []))
  rw [deq_ll rfl rfl] at q
  have e : deqs ds [] = ds.isEmpty := by
    cases ds with
    | nil => exact deqs_nil
    | cons d ds => exact deqs_cn
  rw [e] at q
  exact q
theorem cmp_neP {ps : List (Int × Int)} (hu : X.A.units + 64 < cLine) : CmpD X .NotEq (.lst (ps.map pairD)) (.lst []) (!(ps.map pairD).isEmpty) := cmp_neE hu shp_pairs
theorem cmp_eqE {ds : List D} (hu : X.A.units + 64 < cLine) (h : Shp (.lst ds)) : CmpD X .Eq (.lst ds) (.lst []) ds.isEmpty := by
  have q := cmp_eq (X := X) (d1 := .lst ds) (d2 := .lst []) hu h (shp_lstI (l := []))
  rw [deq_ll rfl rfl] at q
  have e : deqs ds [] = ds.isEmpty := by
    cases ds with
    | nil => exact deqs_nil
    | cons d ds => exact deqs_cn
  rw [e] at q
  exact q
theorem cmp_eqN {i : Int} (hu : X.A.units + 64 < cLine) : CmpD X .Eq .non (.int i) false := by
  have q := cmp_eq (X := X) (d1 := .non) (d2 := .int i) hu shp_non shp_int
  have e : deq .non (.int i) = false := by simp [deq, toPy, PyData.eqv]
  rw [e] at q
  exact q
end
end DL

namespace DL
open PySem PySem.Spec L2
section
variable {X : Cx}
theorem cmp_notB {a b : Bool} : CmpD X .IsNot (.bl a) (.bl b) (!decide (a = b)) := .mk op_notBl fun Z H v1 v2 G1 G2 r1 r2 Q q => by
  cases r1
  cases r2
  exact ⟨_, _, rfl, rfl, q _ H [] (.bl _) Grow.refl⟩
end
end DL

namespace DL
open PySem PySem.Spec L2
theorem OpdRs.ofReps {K : PySem.W.Frag} {Z : Addr → Prop} {H : Hp} {σ : Sl} : ∀ {ds : List D} {vs : List V} {G : List Addr}, Reps K Z H ds vs G → OpdRs K Z H σ (ds.map Opd.val) vs G
  | _, _, _, .nil => .nil
  | _, _, _, .cons r rs => .cons r (OpdRs.ofReps rs)
theorem OpdRs.app {K : PySem.W.Frag} {Z : Addr → Prop} {H : Hp} {σ : Sl} : ∀ {os os' : List Opd} {vs ws : List V} {G G' : List Addr}, OpdRs K Z H σ os vs G → OpdRs K Z H σ os' ws G' → OpdRs K Z H σ (os ++ os') (vs ++ ws) (G ++ G')
  | _, _, _, _, _, _, .nil, q => q
  | _, _, _, _, _, _, .cons r rs, q => by
    rw [List.cons_append, List.cons_append, List.append_assoc]
    exact .cons r (OpdRs.app rs q)
theorem valsOf_app : ∀ {ds : List D} {os : List Opd}, valsOf (ds.map Opd.val ++ os) = (valsOf os).map (ds ++ ·)
  | [], os => by
    cases h : valsOf os <;> simp [h]
  | d :: ds, os => by
    rw [List.map_cons, List.cons_append, valsOf, valsOf_app]
    cases h : valsOf os <;> simp
section
variable {X : Cx} {e : Expr} {es : List Expr} {E : EnvT} {p : Pos} {k : List Opd → EnvT → Prop}
/-- *e within arguments or a display, items that own nothing -/
theorem wa_star (h : WO X e E fun o E1 => ∃ ds, (o.get E1).bind D.seq = some ds ∧ Imms ds ∧ WA X es E1 fun os E2 => k (ds.map Opd.val ++ os) E2) (hs : starEach (.Starred e p :: es) X.env = (true, eval e X.env) :: starEach es X.env := by rfl) : WA X (.Starred e p :: es) E k := by
  intro Z H σ F Q he hk
  refine wpA_by (StX.pa_star pe_w pa_w hs) (h Z H σ F _ he fun o E1 Z1 H1 F1 G v ⟨ds, g, im, q⟩ f r => ?_)
  obtain ⟨d1, gd, gs⟩ := seq_of g
  obtain ⟨G', r', _⟩ := r.use f.env gd
  obtain ⟨a, vs, G3, rfl, hq, rs⟩ := r'.seq gs
  have rs0 := rs.nils im
  refine ⟨a, vs, rfl, hq.symm, q Z1 H1 σ F1 _ f.env fun os E2 Z2 H2 F2 G2 ys kk f2 r2 => ?_⟩
  exact hk _ E2 Z2 H2 F2 G2 (vs ++ ys) kk (f.then f2) (OpdRs.app (OpdRs.ofReps (rs0.step f2.st fun a h => nomatch h)) r2)
end
end DL

namespace DL
open PySem PySem.Spec L2
theorem Reps.erase {K : PySem.W.Frag} {Z : Addr → Prop} {H : Hp} : ∀ {ds : List D} {vs : List V} {j : Nat}, Reps K Z H ds vs [] → Reps K Z H (ds.eraseIdx j) (vs.eraseIdx j) [] := by
  intro ds vs j r
  have im : ∀ {ds : List D} {vs : List V} {G : List Addr}, Reps K Z H ds vs G → G = [] → ∀ j, Reps K Z H (ds.eraseIdx j) (vs.eraseIdx j) [] := by
    intro ds
    induction ds with
    | nil => intro vs G r e j; cases r; exact .nil
    | cons d ds ih =>
      intro vs G r e j
      cases r with
      | cons r1 rs =>
        rename_i v F vs G
        have e1 : F = [] := (List.append_eq_nil_iff.mp e).1
        have e2 : G = [] := (List.append_eq_nil_iff.mp e).2
        subst e1
        subst e2
        cases j with
        | zero => exact rs
        | succ j => exact .cons r1 (ih rs rfl j)
  exact im r rfl j
section
variable {X : Cx} {e : Expr} {E : EnvT} {k : Opd → EnvT → Prop} {pos apos p : Pos} {i : Nat} {x : Str}
/-- x.pop(e), things that own nothing -/
theorem wo_popAt (hE : ∃ ds0, E[i]? = some (some (.lst ds0)))
    (h : WO X e E fun o1 E1 => ∃ (j : Nat) (d : D) (ds : List D), o1.get E1 = some (.int (j : Int)) ∧ E1[i]? = some (some (.lst ds)) ∧ Imms ds ∧ ds[j]? = some d ∧ ds.length ≤ 100000 ∧ k (.val d) (E1.set i (some (.lst (ds.eraseIdx j)))))
    (hb : PE X (.Call (.Attribute (.Name x p) "pop" apos) [e] [] pos) (tBM X.K "list" rPopAt (tVar i) (wpA X [e]))) (hs : starEach [e] X.env = (false, eval e X.env) :: starEach [] X.env := by rfl) :
    WO X (.Call (.Attribute (.Name x p) "pop" apos) [e] [] pos) E k := by
  intro Z H σ F Q he hk
  obtain ⟨ds0, hE⟩ := hE
  obtain ⟨a0, vs0, Fd0, R0, hv, hl0, _⟩ := he.lst hE
  refine wpE_by hb ⟨_, hv, .inl ⟨rfl, vs0, SqL.of hl0⟩, ?_⟩
  have hA : WA X [e] E fun os E1 => ∃ o1, os = [o1] ∧ ∃ (j : Nat) (d : D) (ds : List D), o1.get E1 = some (.int (j : Int)) ∧ E1[i]? = some (some (.lst ds)) ∧ Imms ds ∧ ds[j]? = some d ∧ ds.length ≤ 100000 ∧ k (.val d) (E1.set i (some (.lst (ds.eraseIdx j)))) :=
    wa_cons (WO.mono h fun o1 E1 q => wa_nil ⟨o1, rfl, q⟩) hs
  refine hA Z H σ F _ he fun os E1 Z1 H1 F1 G vs ⟨o1, eo, j, d, ds, g1, hE1, im, hd, hlen, kk⟩ f1 rs => ?_
  subst eo
  cases rs with
  | cons r1 rn =>
    cases rn
    rename_i w1 G1
    obtain ⟨Gj, rj, _⟩ := r1.use f1.env g1
    cases rj
    obtain ⟨a1, vs1, Fd, R, hv1, hl1, rd, hR, hp1⟩ := f1.env.lst hE1
    rw [hv] at hv1
    cases hv1
    have hl := rd.len
    have rd0 := rd.nils im
    obtain ⟨v, G', hv1, rv, _⟩ := rd0.get hd
    have hj : j < ds.length := (List.getElem?_eq_some_iff.mp hd).1
    obtain ⟨F', e3, s3⟩ := f1.env.chgL hE1 hv hl1 rd hR hp1 (Gt := []) (Fd' := []) f1.env.nd (fun y hy => nomatch hy) (fun y hy => nomatch hy) (by simp) (rd0.erase (j := j))
    have s4 : Stp Z1 H1 F1 Z1 (upd H1 a0 (.lst (vs1.eraseIdx j))) F' := s3
    refine ⟨a0, vs1, (j : Int), j, v, rfl, rfl, hl1, by omega, by omega, ?_, hv1, ?_⟩
    · unfold seqIndex?
      simp
      omega
    · exact hk _ _ Z1 _ F' [] v kk ⟨e3, e3.nd, (fun y hy => nomatch hy), f1.nil.st.trans s4⟩ ((rv.nils (imms_get im hd)).step s4 fun y hy => nomatch hy)
end
end DL

namespace DL
open PySem PySem.Spec L2
/-! ### the draws, told by one state -/
theorem ncast (n : Nat) : (NatCast.natCast n : Int) = (n : Int) := rfl
structure Sta where
  g : List Int
  c : List Int
  l : Int
  t : Int
def sD (s : Sta) : D := stD s.g s.c s.l s.t
structure SOk (n : Int) (s : Sta) : Prop where
  g0 : ∀ x ∈ s.g, 0 ≤ x
  c0 : ∀ x ∈ s.c, 0 ≤ x
  l0 : 0 ≤ s.l
  t0 : 0 ≤ s.t
  t1 : s.t ≤ n
theorem SOk.mono {n m : Int} {s : Sta} (h : SOk n s) (l : n ≤ m) : SOk m s := ⟨h.g0, h.c0, h.l0, h.t0, Int.le_trans h.t1 l⟩
theorem SOk.n0 {n : Int} {s : Sta} (h : SOk n s) : 0 ≤ n := Int.le_trans h.t0 h.t1
def ct_law_begun : Ct := ⟨List Int, fun ns ds => ds = [.fz (ns.map D.int)] ∧ ns.length ≤ 1000, fun ns d _ => ∃ s, d = sD s ∧ SOk 0 s⟩
def ct_law_blended : Ct := ⟨Sta × Int, fun a ds => ds = [sD a.1] ∧ SOk a.2 a.1 ∧ a.2 ≤ 1000000000000, fun a d ds => ∃ r, d = .int r ∧ 0 ≤ r ∧ ds = [sD { a.1 with t := a.1.t + 1 }]⟩
def ct_law_draw : Ct := ⟨Sta × Int × Int, fun a ds => ds = [sD a.1, .int a.2.1] ∧ SOk a.2.2 a.1 ∧ (0 < a.2.1 ∧ a.2.1 < 4611686018427387904) ∧ a.2.2 ≤ 1000000000000, fun a d ds => ∃ r s, d = .int r ∧ (0 ≤ r ∧ r < a.2.1) ∧ ds = [sD s] ∧ SOk (a.2.2 + 1) s⟩
def ct_law_pick : Ct := ⟨Sta × Int × D × List D, fun a ds => ds = [sD a.1, a.2.2.1] ∧ SOk a.2.1 a.1 ∧ a.2.2.1.seq = some a.2.2.2 ∧ Imms a.2.2.2 ∧ (0 < a.2.2.2.length ∧ a.2.2.2.length ≤ 100000) ∧ a.2.1 ≤ 1000000000000, fun a d ds => ∃ s, d ∈ a.2.2.2 ∧ ds = [sD s] ∧ SOk (a.2.1 + 1) s⟩
end DL

namespace DL
open PySem PySem.Spec L2
theorem wipeE_idem (E : EnvT) (vs : List Nat) : wipeE (wipeE E vs) vs = wipeE E vs := by
  apply List.ext_getElem?
  intro j
  rw [wipeE_get, wipeE_get, wipeE_length]
  split <;> rfl
theorem filterMap_take {α β : Type} {xs : List α} {G : α → Option β} {j : Nat} (h : j < xs.length) : (xs.take (j + 1)).filterMap G = (xs.take j).filterMap G ++ (G xs[j]).toList := by
  rw [List.take_succ, List.filterMap_append, List.getElem?_eq_getElem h]
  cases e : G xs[j] <;> simp [e]
section
variable {X : Cx} {tg iter elt : Expr} {ifs : List Expr} {E : EnvT} {k : Opd → EnvT → Prop} {pos : Pos} {scope : Scope} {g : TG} {own : List (Str × Nat)}
/-- what a comprehension without a state asks -/
def LcX (X : Cx) (elt : Expr) (ifs : List Expr) (scope : Scope) (g : TG) (vs : List Nat) (m : Nat) (src : Nat → D) (w : List (Nat × D)) (E0 : EnvT) (kk : List D → Prop) : Prop :=
  ∃ (α : Type) (xs : List α) (enc : α → D) (G : α → Option D), xs.length = m ∧ m ≤ 100000 ∧ (∀ (j : Nat) (h : j < xs.length), src j = enc xs[j]) ∧ (∀ p ∈ w, E0[p.1]? = some (some p.2)) ∧
    (∀ x ∈ xs, ∃ E2, TgB X.K g vs (enc x) E0 E2 ∧ ∀ (s : Shared) (H : Hp) (C : Addr) (cl : List (Str × Addr)) (fp : List Addr),
      WIf (X.blk s H scope (compEnvC scope cl C X.env) fp) ifs E2 fun b E3 => (b = true → ∀ (s : Shared) (H : Hp) (C : Addr) (cl : List (Str × Addr)) (fp : List Addr), WE (X.blk s H scope (compEnvC scope cl C X.env) fp) elt E3 fun y E4 => G x = some y ∧ wipeE E4 vs = E0) ∧ (b = false → G x = none ∧ wipeE E3 vs = E0)) ∧
    kk (xs.filterMap G)
theorem lcX_inv {vs : List Nat} {m : Nat} {src : Nat → D} {w : List (Nat × D)} {E1 : EnvT} {kk : List D → EnvT → Prop} (h : LcX X elt ifs scope g vs m src w (wipeE E1 vs) fun ds => kk ds (wipeE E1 vs)) :
    ∃ I : Nat → List D → EnvT → Prop, I 0 [] (wipeE E1 vs) ∧ (∀ j acc E', j ≤ m → I j acc E' → ∀ p ∈ w, E'[p.1]? = some (some p.2)) ∧
      (∀ j acc E', j < m → I j acc E' → ∃ E2, TgB X.K g vs (src j) E' E2 ∧ ∀ (s : Shared) (H : Hp) (C : Addr) (cl : List (Str × Addr)) (fp : List Addr),
        WIf (X.blk s H scope (compEnvC scope cl C X.env) fp) ifs E2 fun b E3 => (b = true → ∀ (s : Shared) (H : Hp) (C : Addr) (cl : List (Str × Addr)) (fp : List Addr), WE (X.blk s H scope (compEnvC scope cl C X.env) fp) elt E3 fun y E4 => acc.length < 100000 ∧ I (j + 1) (acc ++ [y]) (wipeE E4 vs)) ∧ (b = false → I (j + 1) acc (wipeE E3 vs))) ∧
      ∀ acc E', I m acc E' → kk acc E' := by
  obtain ⟨α, xs, enc, G, hm, hl, hs, hw, ht, hk⟩ := h
  refine ⟨fun j acc E' => acc = (xs.take j).filterMap G ∧ E' = wipeE E1 vs, ⟨by simp, rfl⟩, ?_, ?_, ?_⟩
  · rintro j acc E' _ ⟨_, rfl⟩
    exact hw
  · rintro j acc E' hj ⟨rfl, rfl⟩
    have hj' : j < xs.length := by omega
    obtain ⟨E2, t1, t2⟩ := ht xs[j] (List.getElem_mem hj')
    refine ⟨E2, by rw [hs j hj']; exact t1, fun s H C cl fp => ?_⟩
    have tk := filterMap_take (G := G) hj'
    intro Z H' σ F Q he hk'
    refine t2 s H C cl fp Z H' σ F Q he fun b E3 Z2 H2 F2 ⟨q1, q2⟩ f => hk' b E3 Z2 H2 F2 ⟨fun hb s H C cl fp => ?_, fun hb => ?_⟩ f
    · refine WO.mono (q1 hb s H C cl fp) fun o E4 ⟨d, eo, e1, e2⟩ => ⟨d, eo, ?_, ?_, e2⟩
      · refine Nat.lt_of_le_of_lt (List.length_filterMap_le _ _) ?_
        rw [List.length_take]
        omega
      · rw [tk, e1]
        rfl
    · obtain ⟨e1, e2⟩ := q2 hb
      refine ⟨?_, e2⟩
      rw [tk, e1]
      simp
  · rintro acc E' ⟨rfl, rfl⟩
    rw [List.take_of_length_le (by omega)]
    exact hk
theorem wo_lcX (hc : X.calm = true) (hN : X.N.Nodup) (ok : BlkOk X.N X.env.scope scope own)
    (hg : ∀ (s : Shared) (H : Hp) (C : Addr) (cl : List (Str × Addr)) (fp : List Addr), PG (X.blk s H scope (compEnvC scope cl C X.env) fp) tg g)
    (h : WI X tg iter E fun w m src E1 => LcX X elt ifs scope g (own.map (·.2)) m src w (wipeE E1 (own.map (·.2))) fun ds => k (.val (.lst ds)) (wipeE E1 (own.map (·.2))))
    (hs : ∀ x, foldedSetIterable iter X.env x = pure x := by intro _; rfl) : WO X (.ListComp elt [⟨tg, iter, ifs, 0⟩] scope pos) E k :=
  wo_lc hc hN ok hg (WI.mono h fun w m src E1 q => lcX_inv (kk := fun ds E' => k (.val (.lst ds)) E') q) hs
theorem ws_setLcX {i : Nat} {y : Str} {py spos : Pos} {n : List Nat} {ks : KS} (hc : X.calm = true) (hN : X.N.Nodup) (hy : X.N[i]? = some y) (hyl : X.env.scope.names.lookup y = some .local) (hn : i ∉ n) (ok : BlkOk X.N X.env.scope scope own)
    (hg : ∀ (s : Shared) (H : Hp) (C : Addr) (cl : List (Str × Addr)) (fp : List Addr), PG (X.blk s H scope (compEnvC scope cl C X.env) fp) tg g)
    (h : WI X tg iter E fun w m src E1 => LcX X elt ifs scope g (own.map (·.2)) m src w (wipeE E1 (own.map (·.2))) fun ds => i < (wipeE E1 (own.map (·.2))).length ∧ ks.nx ((wipeE E1 (own.map (·.2))).set i (some (.lst ds))))
    (hsw : swapsWith (.ListComp elt [⟨tg, iter, ifs, 0⟩] scope pos) (some (.Name y py)) spos.line X.env = pure true)
    (hs : ∀ x, foldedSetIterable iter X.env x = pure x := by intro _; rfl) : WS X n (.Assign [.Name y py] (.ListComp elt [⟨tg, iter, ifs, 0⟩] scope pos) spos) E ks :=
  ws_setLc hc hN hy hyl hn ok hg (WI.mono h fun w m src E1 q => lcX_inv (kk := fun ds E' => i < E'.length ∧ ks.nx (E'.set i (some (.lst ds)))) q) hsw hs
end
end DL

namespace DL
open PySem PySem.Spec L2
def upto (n : Nat) : List Int := (List.range n).map fun i : Nat => (i : Int)
theorem rgV_upto (n : Int) : rgV 0 n = (upto n.toNat).map V.int := by
  unfold rgV upto
  rw [Int.sub_zero, List.map_map]
  exact List.map_congr_left fun i _ => by simp
theorem cons_erase {α : Type} : ∀ {l : List α} {j : Nat} (h : j < l.length), (l[j] :: l.eraseIdx j).Perm l
  | x :: l, 0, _ => by simp
  | x :: l, j + 1, h => by
    have ih := cons_erase (l := l) (j := j) (by simpa using h)
    simp only [List.getElem_cons_succ, List.eraseIdx_cons_succ]
    exact (List.Perm.swap _ _ _).trans (List.Perm.cons x ih)
theorem map_erase {α β : Type} {f : α → β} : ∀ {l : List α} {j : Nat}, (l.map f).eraseIdx j = (l.eraseIdx j).map f
  | [], _ => by simp
  | x :: l, 0 => by simp
  | x :: l, j + 1 => by simp [map_erase (l := l) (j := j)]
section
variable {X : Cx} {a : Expr} {E : EnvT} {k : Opd → EnvT → Prop} {pos p p2 p3 : Pos}
/-- list(range(n)) -/
theorem wo_listR1 (hc : X.calm = true) (hg : Gl X "list") (hm : X.mg "list" = none) (hg2 : Gl X "range") (hm2 : X.mg "range" = none)
    (h : WO X a E fun o E1 => ∃ j : Int, o.get E1 = some (.int j) ∧ (0 ≤ j ∧ j ≤ 100000) ∧ k (.val (.lst ((upto j.toNat).map D.int))) E1)
    (hs : starEach [a] X.env = (false, eval a X.env) :: starEach [] X.env := by rfl)
    (hs2 : starEach [.Call (.Name "range" p) [a] [] p2] X.env = (false, eval (.Call (.Name "range" p) [a] [] p2) X.env) :: starEach [] X.env := by rfl) :
    WO X (.Call (.Name "list" p3) [.Call (.Name "range" p) [a] [] p2] [] pos) E k := by
  intro Z H σ F Q he hk
  refine wpE_by (pe_listRg hc hg hm (prg_1 hg2 hm2 pe_w hs) hs2) (h Z H σ F _ he fun o E1 Z1 H1 F1 G v ⟨j, g, hj, q⟩ f r => ?_)
  obtain ⟨G', r', _⟩ := r.use f.env g
  cases r'
  refine ⟨j, rfl, ⟨by omega, by omega, by omega, by omega, by omega⟩, fun l hl => ?_⟩
  rw [rgV_upto]
  have gr : Grow H1 (upd H1 l (.lst ((upto j.toNat).map V.int))) [l] := Grow.new hl
  have r0 : Rep X.K Z1 (upd H1 l (.lst ((upto j.toNat).map V.int))) (.lst ((upto j.toNat).map D.int)) (.ref l) [l] := .lst upd_same (Reps.ofInts _)
  exact hk _ E1 Z1 _ F1 [l] _ q (f.grow gr) r0
/-- sorted of a list or a tuple of ints -/
theorem wo_sortedS (hg : Gl X "sorted") (hm : X.mg "sorted" = none) (h : WO X a E fun o E1 => ∃ ns : List Int, (o.get E1).bind D.seq = some (ns.map D.int) ∧ ∀ ns' : List Int, ns'.Perm ns → ns'.Pairwise (· ≤ ·) → k (.val (.lst (ns'.map D.int))) E1)
    (hs : starEach [a] X.env = (false, eval a X.env) :: starEach [] X.env := by rfl) : WO X (.Call (.Name "sorted" p) [a] [] pos) E k :=
  wo_b1 (pe_callB (CallR.or cr_sortedI cr_sortT) hg hm (by decide +kernel) pa_w (he := hs)) (WO.mono h fun o E1 ⟨ns, g1, kk⟩ => by
    cases g : o.get E1 with
    | none => rw [g] at g1; simp at g1
    | some d1 =>
      rw [g] at g1
      refine ⟨d1, rfl, fun d => ∃ ns' : List Int, ns'.Perm ns ∧ ns'.Pairwise (· ≤ ·) ∧ d = .lst (ns'.map D.int), fun Z H v G rv Q q => ?_, fun d ⟨ns', h1, h2, e⟩ => by rw [e]; exact kk ns' h1 h2⟩
      obtain ⟨x, vs, G', rfl, hs, rs⟩ := rv.seq (by simpa using g1)
      have ev := rs.ints
      subst ev
      rcases hs with hs | hs
      · exact .inl ⟨x, ns, rfl, hs, fun ns' l h1 h2 hl => q _ _ _ [l] ⟨ns', h1, h2, rfl⟩ (.lst upd_same (Reps.ofInts ns')) (Grow.new hl)⟩
      · exact .inr ⟨x, ns, rfl, hs, fun ns' l h1 h2 hl => q _ _ _ [l] ⟨ns', h1, h2, rfl⟩ (.lst upd_same (Reps.ofInts ns')) (Grow.new hl)⟩) hs
end
end DL

/-! the driver's looks at a goal's head -/
namespace DL
open PySem PySem.Spec L2
section
variable {X : Cx} {n : List Nat} {E : EnvT} {ks : KS} {k : Opd → EnvT → Prop} {kb : Bool → EnvT → Prop} {pos pos2 pos3 : Pos} {e a b c o : Expr} {es rs : List Expr} {st : Stmt} {sts : List Stmt} {x : Str} {x1 : Nat}
theorem gWSs (h : WSs X n sts E ks) : WSs X n sts E ks := h
theorem gWS (h : WS X n st E ks) : WS X n st E ks := h
theorem gWG {d : D} {kg : EnvT → Prop} (h : WG X n e d E kg) : WG X n e d E kg := h
theorem gWE {kd : D → EnvT → Prop} (h : WE X e E kd) : WE X e E kd := h
theorem gWT (h : WT X e E kb) : WT X e E kb := h
theorem gWW (h : WW X e E kb) : WW X e E kb := h
theorem gWO (h : WO X e E k) : WO X e E k := h
theorem gName (h : WO X (.Name x pos) E k) : WO X (.Name x pos) E k := h
theorem gENm {kd : D → EnvT → Prop} (h : WE X (.Name x pos) E kd) : WE X (.Name x pos) E kd := h
theorem gCon {v : Const} (h : WO X (.Constant v x1 pos) E k) : WO X (.Constant v x1 pos) E k := h
theorem gBin {op : Operator} (h : WO X (.BinOp a op b pos) E k) : WO X (.BinOp a op b pos) E k := h
theorem gBool {op : BoolOp} (h : WO X (.BoolOp op es pos) E k) : WO X (.BoolOp op es pos) E k := h
theorem gCmp {ops : List CmpOp} (h : WO X (.Compare a ops es pos) E k) : WO X (.Compare a ops es pos) E k := h
theorem gSub (h : WO X (.Subscript a b pos) E k) : WO X (.Subscript a b pos) E k := h
theorem gCalN {kw : List Keyword} (h : WO X (.Call (.Name x pos2) es kw pos) E k) : WO X (.Call (.Name x pos2) es kw pos) E k := h
theorem gCalA {kw : List Keyword} (h : WO X (.Call (.Attribute o x pos2) es kw pos) E k) : WO X (.Call (.Attribute o x pos2) es kw pos) E k := h
theorem gWA {kA : List Opd → EnvT → Prop} (h : WA X es E kA) : WA X es E kA := h
end
end DL

namespace K23
open PySem PySem.Spec L2 DL Ln
open PyProof.Rows (envOfC)
local macro_rules | `(tactic| walk_at "imm") => `(tactic| first | assumption | trivial | exact imms_ints | exact imms_pairs | (simp only [Imm, Imms]; done) | exact ⟨trivial, trivial⟩ | exact ⟨trivial, imms_ints⟩)
local macro_rules | `(tactic| walk_at "add") => `(tactic| first | exact AddD.int | exact AddD.lst (by walk_at "imm") (by walk_at "imm") (by first | assumption | (simp; omega)))
local macro_rules | `(tactic| walk_at "cost") => `(tactic| first | with_reducible assumption | (with_reducible exact cpow (by omega) (by omega) (by omega) (by omega)) | (with_reducible exact cdivw (by omega) (by omega)) | (with_reducible exact cmul1 (by omega) (by omega)) | (with_reducible exact cmul2 (by omega) (by omega)) | with_reducible exact imms_ints | omega)
local macro_rules | `(tactic| walk_at "mul") => `(tactic| ((refine MulD.int ?_); walk_at "cost"))
local macro_rules | `(tactic| walk_at "cmp") => `(tactic| first | with_reducible exact cmp_lt | with_reducible exact cmp_le | with_reducible exact cmp_gt | with_reducible exact cmp_ge | with_reducible exact cmp_eqI | with_reducible exact cmp_neI | with_reducible exact cmp_isN | with_reducible exact cmp_notN | ((with_reducible refine cmp_neLL ?_); with_reducible assumption) | ((with_reducible refine cmp_neTT ?_); with_reducible assumption) | ((with_reducible refine cmp_nePT ?_); with_reducible assumption) | ((with_reducible refine cmp_eqLL ?_); with_reducible assumption) | ((with_reducible refine cmp_eqLN ?_); with_reducible assumption) | ((with_reducible refine cmp_neLN ?_); with_reducible assumption) | ((with_reducible refine cmp_neP ?_); with_reducible assumption) | ((with_reducible refine cmp_eqN ?_); with_reducible assumption) | with_reducible exact cmp_notB | with_reducible exact cmp_inL | with_reducible exact cmp_inF | with_reducible exact cmp_inT | with_reducible exact cmp_inP | with_reducible exact cmp_niL | with_reducible exact cmp_niF | with_reducible exact cmp_niT | with_reducible exact cmp_niP | exact cmp_lt | exact cmp_le | exact cmp_gt | exact cmp_ge | exact cmp_eqI | exact cmp_neI | exact cmp_isN | exact cmp_notN | ((refine cmp_neLL ?_); with_reducible assumption) | ((refine cmp_neTT ?_); with_reducible assumption) | ((refine cmp_nePT ?_); with_reducible assumption) | ((refine cmp_eqLL ?_); with_reducible assumption) | ((refine cmp_eqLN ?_); with_reducible assumption) | ((refine cmp_neLN ?_); with_reducible assumption) | ((refine cmp_neP ?_); with_reducible assumption) | ((refine cmp_eqN ?_); with_reducible assumption) | exact cmp_notB | exact cmp_inL | exact cmp_inF | exact cmp_inT | exact cmp_inP | exact cmp_niL | exact cmp_niF | exact cmp_niT | exact cmp_niP)
local macro_rules | `(tactic| walk_at "ci") => `(tactic| first | exact cmpi_lt | exact cmpi_le | exact cmpi_gt | exact cmpi_ge)
local macro_rules | `(tactic| walk_at "sl") => `(tactic| first | ((refine sl_t ?_); walk_at "imm") | ((refine sl_p ?_); walk_at "imm") | ((refine sl_l ?_); walk_at "imm") | ((refine sl_f ?_); walk_at "imm"))
local macro_rules | `(tactic| walk_at "mark") => `(tactic| first | exact nomark _ | with_unfolding_all rfl)
local macro_rules | `(tactic| walk_at "boot") => `(tactic| first | with_reducible exact PyProof.Rows.boot_int | with_reducible exact PyProof.Rows.boot_bool | with_reducible exact PyProof.Rows.boot_tuple | with_reducible exact PyProof.Rows.boot_list | with_reducible exact PyProof.Rows.boot_str | with_reducible exact PyProof.Rows.boot_dict)
local macro_rules | `(tactic| walk_at "kit") => `(tactic| first | with_reducible exact kit_ii | with_reducible exact kit_ib | with_reducible exact kit_it | with_reducible exact kit_tt | with_reducible exact kit_ti | with_reducible exact kit_bb | with_reducible exact kit_bi | with_reducible exact kit_ll | with_reducible exact kit_dd | with_reducible exact kit_ss)
local macro_rules | `(tactic| walk_at "vis") => `(tactic| first | exact Or.inl rfl | exact Or.inr (Or.inl rfl) | exact Or.inr (Or.inr rfl))
local macro_rules | `(tactic| walk_at "pin") => `(tactic| first | decide | (simp only [watch, List.map_nil, List.map_cons, List.nil_append, List.append_nil, List.cons_append]; decide))
local macro_rules | `(tactic| walk_at "loc") => `(tactic| first | exact Or.inl rfl | exact Or.inr rfl)
local macro_rules | `(tactic| walk_at "key") => `(tactic| first | with_reducible exact key0 | with_reducible exact key1 | with_reducible exact key2 | with_reducible exact key3)
local macro_rules | `(tactic| walk_at "dg") => `(tactic| (
  (with_reducible refine' wo_dget ?h1 ?h2 ?h3 ?h4 ?h5 ?h6 ?h7 ?_ ?h9 ?h10 ?h11); (case h1 => with_reducible assumption); (case h2 => with_reducible assumption); (case h5 => walk_at "key"); (case h3 => rfl); (case h4 => exact kN); (case h6 => rfl); (case h7 => trivial); (case h9 => walk_at "vis"); (case h10 => decide); (case h11 => decide)))
local macro_rules | `(tactic| walk_at "ob") => `(tactic| first
  | (refine ⟨Nat.le_of_ble_eq_true rfl, ?_⟩; try dsimp only [List.set])
  | (refine ⟨_, rfl, Nat.le_of_ble_eq_true rfl, ?_⟩; try dsimp only [List.set])
  | (refine ⟨_, rfl, trivial, Nat.le_of_ble_eq_true rfl, Nat.le_of_ble_eq_true rfl, ?_⟩; try dsimp only [List.set])
  | (refine ⟨_, _, rfl, Nat.le_of_ble_eq_true rfl, Nat.le_of_ble_eq_true rfl, ?_⟩; try dsimp only [List.set])
  | (refine ⟨_, _, _, rfl, Nat.le_of_ble_eq_true rfl, Nat.le_of_ble_eq_true rfl, Nat.le_of_ble_eq_true rfl, ?_⟩; try dsimp only [List.set])
  | refine ⟨fun _ => ?_, fun h => Bool.noConfusion h⟩
  | refine ⟨fun h => Bool.noConfusion h, fun _ => ?_⟩
  | refine ⟨_, rfl, ?_⟩
  | refine ⟨_, _, rfl, rfl, ?_⟩
  | refine ⟨_, _, _, _, rfl, rfl, rfl, ?_⟩
  | (refine ⟨_, _, _, ?dd, rfl, rfl, rfl, ?hh, ?_⟩; (case hh => walk_at "kit"))
  | (refine ⟨_, _, ?dd, rfl, rfl, ?hh, ?_⟩; (case hh => first | walk_at "add" | walk_at "mul" | walk_at "cmp"))
  | (refine ⟨_, ?dd, rfl, ?hh, ?_⟩; (case hh => walk_at "sl"))
  | (refine ⟨_, _, ?dd, rfl, rfl, ?hh, ?ii, ?_⟩; (case hh => first | with_reducible assumption | with_reducible exact at2_0 | with_reducible exact at2_1 | with_reducible exact at3_0 | with_reducible exact at3_1 | with_reducible exact at3_2); (case ii => trivial))
  | (refine ⟨fun _ => ?_, ?hx⟩; (case hx => (intro h; exfalso; (first | ((simp only [decide_eq_false_iff_not, decide_eq_true_eq, Bool.not_eq_true', Bool.not_eq_false'] at h); omega) | ((simp at h); done)))))
  | (refine ⟨?hx, fun _ => ?_⟩; (case hx => (intro h; exfalso; (first | ((simp only [decide_eq_false_iff_not, decide_eq_true_eq, Bool.not_eq_true', Bool.not_eq_false'] at h); omega) | ((simp at h); done)))))
  | ((with_reducible refine And.intro ?hh ?_); (case hh => walk_at "cost")))
local macro_rules | `(tactic| walk_at "gWSs") => `(tactic| first
  | with_reducible refine wss_nil ?_
  | with_reducible refine wss_one ?_
  | with_reducible refine wss_cons ?_)
local macro_rules | `(tactic| walk_at "gWS") => `(tactic| first
  | with_reducible refine ws_if ?_
  | with_reducible refine ws_ret ?_
  | ((with_reducible refine' ws_set ?h1 ?h2 ?h3 ?h4 ?_ ?h6 ?h7); (case h1 => with_reducible assumption); (case h2 => with_reducible assumption); (case h3 => walk_at "loc"); (case h4 => walk_at "pin"); (case h6 => rfl); (case h7 => exact .inl rfl))
  | ((with_reducible refine' ws_augI ?h1 ?h2 ?h3 ?h4 ?h5 ?_ ?h7); (case h1 => with_reducible assumption); (case h2 => with_reducible assumption); (case h3 => rfl); (case h4 => walk_at "loc"); (case h5 => walk_at "pin"); (case h7 => exact .inl rfl))
  | ((with_reducible refine' ws_asg2 ?h1 ?h2 ?h3 ?h4 ?h5 ?h6 ?h7 ?_ ?h9 ?h10 ?h11 ?h12); (case h1 => with_reducible assumption); (case h2 => with_reducible assumption); (case h3 => with_reducible assumption); (case h4 => walk_at "loc"); (case h5 => walk_at "loc"); (case h6 => walk_at "pin"); (case h7 => walk_at "pin"); (case h9 => exact .inl rfl); (case h10 => exact .inl rfl); (case h11 => rfl); (case h12 => rfl))
  | ((with_reducible refine' ws_dput ?h1 ?h2 ?_ ?h4 ?h5 ?h6 ?h7); (case h1 => with_reducible assumption); (case h2 => with_reducible assumption); (case h4 => rfl); (case h5 => walk_at "vis"); (case h6 => decide); (case h7 => decide))
  | ((with_reducible refine' ws_asg ?_ ?h2 ?h3 ?h4); (case h2 => rfl); (case h3 => rfl); (case h4 => rfl))
  | ((with_reducible refine ws_expr ?_ ?h2); (case h2 => rfl))
  | with_reducible refine ws_pass ?_)
local macro_rules | `(tactic| walk_at "gWG") => `(tactic| first
  | ((with_reducible refine' wg_name ?h1 ?h2 ?h3 ?h4 ?h5 ?_ ?h7); (case h1 => with_reducible assumption); (case h2 => with_reducible assumption); (case h3 => walk_at "loc"); (case h4 => walk_at "pin"); (case h5 => exact Nat.le_of_ble_eq_true rfl); (case h7 => exact .inl rfl); (try dsimp only [List.set]))
  | ((with_reducible refine' wg_pair ?a1 ?a2 ?a3 ?a4 ?a5 ?a6 ?a7 ?a8 ?a9 ?b1 ?_ ?b3 ?b4 ?b5 ?b6 ?b7); (case a1 => rfl); (case a2 => with_reducible assumption); (case a3 => with_reducible assumption); (case a4 => with_reducible assumption); (case a5 => walk_at "loc"); (case a6 => walk_at "loc"); (case a7 => walk_at "pin"); (case a8 => walk_at "pin"); (case a9 => exact Nat.le_of_ble_eq_true rfl); (case b1 => exact Nat.le_of_ble_eq_true rfl); (case b3 => exact .inl rfl); (case b4 => exact .inl rfl); (case b5 => exact fun t h => pg_tup rfl h); (case b6 => exact fun t u h1 h2 => pgs_cons h1 h2); (case b7 => exact fun t h => pgs_cons h pgs_nil); (try dsimp only [List.set])))
local macro_rules | `(tactic| walk_at "gENm") => `(tactic| first
  | ((with_reducible refine' we_name ?h1 ?h2 ?h3 ?_ ?h5 ?h6 ?h7); (case h1 => with_reducible assumption); (case h2 => rfl); (case h3 => walk_at "imm"); (case h5 => walk_at "vis"); (case h6 => decide); (case h7 => decide))
  | ((with_reducible refine' we_move ?h1 ?h2 ?_ ?h5 ?h6 ?h7); (case h1 => with_reducible assumption); (case h2 => rfl); (case h5 => walk_at "vis"); (case h6 => decide); (case h7 => decide); (try dsimp only [List.set])))
local macro_rules | `(tactic| walk_at "gWE") => `(tactic| first
  | with_reducible refine we_of ?_)
local macro_rules | `(tactic| walk_at "gName") => `(tactic| first
  | ((with_reducible refine' wo_nameI ?h1 ?h2 ?h3 ?_ ?h5 ?h6 ?h7); (case h1 => with_reducible assumption); (case h2 => rfl); (case h3 => walk_at "imm"); (case h5 => walk_at "vis"); (case h6 => decide); (case h7 => decide))
  | ((with_reducible refine' wo_name ?h1 ?h2 ?_ ?h5 ?h6 ?h7); (case h1 => with_reducible assumption); (case h2 => rfl); (case h5 => walk_at "vis"); (case h6 => decide); (case h7 => decide))
  | ((with_reducible refine' wo_gint ?h1 ?h2 ?_ ?h4); (case h1 => rfl); (case h2 => with_reducible assumption); (case h4 => decide))
  | ((with_reducible refine' wo_tyn ?h1 ?h2 ?h3 ?_ ?h5 ?h6); (case h1 => rfl); (case h2 => with_reducible assumption); (case h3 => walk_at "boot"); (case h5 => decide); (case h6 => decide)))
local macro_rules | `(tactic| walk_at "gCon") => `(tactic| first
  | with_reducible refine wo_int ?_
  | with_reducible refine wo_non ?_
  | with_reducible refine wo_bl ?_
  | with_reducible refine wo_str ?_)
local macro_rules | `(tactic| walk_at "gBin") => `(tactic| first
  | with_reducible refine wo_addD ?_
  | with_reducible refine wo_sub ?_
  | with_reducible refine wo_mulD ?_
  | with_reducible refine wo_mod ?_
  | with_reducible refine wo_fdiv ?_
  | with_reducible refine wo_pow ?_
  | with_reducible refine wo_shl ?_)
local macro_rules | `(tactic| walk_at "gBool") => `(tactic| first
  | with_reducible refine wo_and ?_
  | with_reducible refine wo_or ?_
  | with_reducible refine wo_bone ?_)
local macro_rules | `(tactic| walk_at "gCmp") => `(tactic| first
  | ((with_reducible refine wo_chain ?_ ?h2); (case h2 => with_unfolding_all rfl))
  | ((with_reducible refine wo_cmpD ?h1 ?_); (case h1 => walk_at "mark")))
local macro_rules | `(tactic| walk_at "gSub") => `(tactic| first
  | walk_at "dg"
  | with_reducible refine wo_slD ?_
  | with_reducible refine wo_revL ?_
  | ((with_reducible refine wo_ix ?h1 ?_); (case h1 => exact fun _ _ => rfl)))
local macro_rules | `(tactic| walk_at "gCalN") => `(tactic| first
  | ((with_reducible refine wo_sortedS ?h1 ?h2 ?_ ?h4); (case h1 => rfl); (case h2 => with_reducible assumption); (case h4 => rfl))
  | ((with_reducible refine' wo_c0 ?h1 ?h2 ?h3 ?h4 ?_ ?h6 ?h7 ?h8); (case h1 => with_reducible assumption); (case h2 => with_reducible assumption); (case h3 => decide); (case h4 => rfl); (case h6 => decide); (case h7 => rfl); (case h8 => rfl))
  | ((with_reducible refine' wo_c1 ?h1 ?h2 ?h3 ?h4 ?_ ?h6 ?h7 ?h8); (case h1 => with_reducible assumption); (case h2 => with_reducible assumption); (case h3 => decide); (case h4 => rfl); (case h6 => decide); (case h7 => rfl); (case h8 => rfl))
  | ((with_reducible refine wo_len ?h1 ?h2 ?_ ?h4); (case h1 => rfl); (case h2 => with_reducible assumption); (case h4 => rfl))
  | ((with_reducible refine wo_abs ?h1 ?h2 ?_ ?h4); (case h1 => rfl); (case h2 => with_reducible assumption); (case h4 => rfl))
  | ((with_reducible refine wo_intI ?h1 ?h2 ?_ ?h4); (case h1 => rfl); (case h2 => with_reducible assumption); (case h4 => rfl))
  | ((have hmode : PtMode := by with_reducible assumption); (with_reducible refine wo_tupleF ?h1 ?h2 ?_ ?h4); (case h1 => rfl); (case h2 => with_reducible assumption); (case h4 => rfl))
  | ((with_reducible refine wo_tuple ?h1 ?h2 ?_ ?h4); (case h1 => rfl); (case h2 => with_reducible assumption); (case h4 => rfl))
  | ((with_reducible refine wo_listR1 rfl ?h1 ?h2 ?h3 ?h5 ?_ ?h4 ?h6); (case h1 => rfl); (case h2 => with_reducible assumption); (case h3 => rfl); (case h5 => with_reducible assumption); (case h4 => rfl); (case h6 => rfl))
  | ((with_reducible refine wo_list ?h1 ?h2 ?_ ?h4); (case h1 => rfl); (case h2 => with_reducible assumption); (case h4 => rfl))
  | ((with_reducible refine wo_all ?h0 ?h1 ?h2 ?_ ?h4); (case h0 => rfl); (case h1 => rfl); (case h2 => with_reducible assumption); (case h4 => rfl))
  | ((with_reducible refine wo_isi2 ?h1 ?h2 ?_ ?h4 ?h5); (case h1 => rfl); (case h2 => with_reducible assumption); (case h4 => rfl); (case h5 => rfl)))
local macro_rules | `(tactic| walk_at "gCalA") => `(tactic| first
  | ((with_reducible refine' wo_dpop ?h1 ?h2 ?h3 ?h4 ?h5 ?h6 ?_ ?h8 ?h9 ?h10 ?h11); (case h1 => with_reducible assumption); (case h2 => with_reducible assumption); (case h5 => walk_at "key"); (case h3 => rfl); (case h4 => exact kN); (case h6 => rfl); (case h8 => exact fun t ht => pe_bm PySem.F.plainAttrs_list PySem.F.slot_list_pop PySem.F.type_list_pop mt_popAt ht (pa_cons pe_int pa_nil)); (case h9 => walk_at "vis"); (case h10 => decide); (case h11 => decide))
  | ((with_reducible refine' wo_append ?h1 ?h2 ?_ ?h4 ?h5 ?h6); (case h1 => with_reducible assumption); (case h2 => exact ⟨_, rfl⟩); (case h4 => exact pe_slot (by with_reducible assumption)); (case h5 => exact pe_bm PySem.F.plainAttrs_list PySem.F.slot_list_append PySem.F.type_list_append mt_append (pe_slot (by with_reducible assumption)) pa_w); (case h6 => rfl))
  | ((with_reducible refine' wo_insert ?h2 ?_ ?h4 ?h5 ?h6 ?h7); (case h4 => rfl); (case h5 => exact pe_bm PySem.F.plainAttrs_list PySem.F.slot_list_insert PySem.F.type_list_insert mt_insert (pe_slot (by with_reducible assumption)) pa_w); (case h2 => exact ⟨_, rfl⟩); (case h6 => rfl); (case h7 => rfl))
  | ((with_reducible refine' wo_popAt ?h1 ?_ ?h3 ?h4); (case h3 => exact pe_bm PySem.F.plainAttrs_list PySem.F.slot_list_pop PySem.F.type_list_pop mt_popAt (pe_slot (by with_reducible assumption)) pa_w); (case h1 => exact ⟨_, rfl⟩); (case h4 => rfl))
  | ((have hmode : PtMode := by with_reducible assumption); (with_reducible refine wo_tix ?_ ?h2 ?h3 ?h4 ?h5); (case h2 => rfl); (case h3 => rfl); (case h4 => rfl); (case h5 => rfl))
  | ((with_reducible refine' wo_indexI ?_ ?h5 ?h6); (case h5 => exact pe_bm PySem.F.plainAttrs_list PySem.F.slot_list_index PySem.F.type_list_index mt_index pe_w pa_w); (case h6 => rfl))
  | ((with_reducible refine' wo_pop ?h1 ?h2 ?h3 ?_ ?h5); (case h1 => rfl); (case h5 => exact pe_bm0 PySem.F.plainAttrs_list PySem.F.slot_list_pop PySem.F.type_list_pop mt_pop (pe_slot (by with_reducible assumption)))))
local macro_rules | `(tactic| walk_at "gWO") => `(tactic| first
  | with_reducible refine wo_not ?_
  | with_reducible refine wo_if ?_
  | with_reducible refine wo_lst ?_
  | with_reducible refine wo_tup ?_)
local macro_rules | `(tactic| walk_at "gWT") => `(tactic| first
  | ((with_reducible refine' wt_dne ?h1 ?h2 ?h3 ?h4 ?h5 ?h6 ?_ ?h9 ?h10 ?h11); (case h1 => with_reducible assumption); (case h2 => with_reducible assumption); (case h5 => walk_at "key"); (case h3 => rfl); (case h4 => exact kN); (case h6 => rfl); (case h9 => walk_at "vis"); (case h10 => decide); (case h11 => decide))
  | with_reducible refine wt_not ?_
  | with_reducible refine wt_bool ?_
  | ((with_reducible refine wt_chain ?_ ?h2); (case h2 => with_unfolding_all rfl))
  | ((with_reducible refine wt_cmpD ?h1 ?_); (case h1 => walk_at "mark"))
  | ((with_reducible refine wt_val ?_ ?h2); (case h2 => exact fun _ => rfl)))
local macro_rules | `(tactic| walk_at "gWW") => `(tactic| first
  | with_reducible refine ww_and ?_
  | with_reducible refine ww_and1 ?_
  | with_reducible refine ww_or ?_
  | with_reducible refine ww_or1 ?_)
local macro_rules | `(tactic| walk_at "gWA") => `(tactic| first
  | ((with_reducible refine wa_star ?_ ?h2); (case h2 => rfl))
  | ((with_reducible refine wa_cons ?_ ?h2); (case h2 => rfl))
  | with_reducible refine wa_nil ?_)
local macro_rules | `(tactic| walk_at "rest") => `(tactic| first
  | with_reducible refine wvs_cons ?_
  | with_reducible refine wvs_nil ?_
  | with_reducible refine wp_none ?_
  | with_reducible refine wp_some ?_
  | ((with_reducible refine' wtc_link ?h1 ?_); (case h1 => walk_at "ci"))
  | ((with_reducible refine' wtc_last ?h1 ?_); (case h1 => walk_at "ci")))
local macro_rules | `(tactic| walk_at "d") => `(tactic| first
  | ((with_reducible refine gWSs ?_); walk_at "gWSs")
  | ((with_reducible refine gWS ?_); walk_at "gWS")
  | ((with_reducible refine gWG ?_); walk_at "gWG")
  | ((with_reducible refine gENm ?_); walk_at "gENm")
  | ((with_reducible refine gWE ?_); walk_at "gWE")
  | ((with_reducible refine gName ?_); walk_at "gName")
  | ((with_reducible refine gCon ?_); walk_at "gCon")
  | ((with_reducible refine gBin ?_); walk_at "gBin")
  | ((with_reducible refine gBool ?_); walk_at "gBool")
  | ((with_reducible refine gCmp ?_); walk_at "gCmp")
  | ((with_reducible refine gSub ?_); walk_at "gSub")
  | ((with_reducible refine gCalN ?_); walk_at "gCalN")
  | ((with_reducible refine gCalA ?_); walk_at "gCalA")
  | ((with_reducible refine gWO ?_); walk_at "gWO")
  | ((with_reducible refine gWT ?_); walk_at "gWT")
  | ((with_reducible refine gWW ?_); walk_at "gWW")
  | ((with_reducible refine gWA ?_); walk_at "gWA")
  | walk_at "rest"
  | walk_at "ob")
local macro_rules | `(tactic| walk_at "go") => `(tactic| repeat walk_at "d")

def top (i : Nat) : Stmt := PySem.Challenge.pw_asifcopied_k23_whole_no_move_or_one_forc.main.body.getD i (.Pass ⟨0, 0, 0, 0⟩)
abbrev s_is_whole : Stmt := top 8
theorem sc_is_whole : FnScope ["value"] ["value"] (defScope s_is_whole) := ⟨rfl, rfl, rfl, by decide +kernel, rfl, by decide +kernel, by decide +kernel⟩
abbrev s_is_number : Stmt := top 9
theorem sc_is_number : FnScope ["value", "low"] ["value", "low"] (defScope s_is_number) := ⟨rfl, rfl, rfl, by decide +kernel, rfl, by decide +kernel, by decide +kernel⟩
abbrev s_need_labels : Stmt := top 12
theorem sc_need_labels : FnScope ["many"] ["many"] (defScope s_need_labels) := ⟨rfl, rfl, rfl, by decide +kernel, rfl, by decide +kernel, by decide +kernel⟩
abbrev s_is_state_by : Stmt := top 13
theorem sc_is_state_by : FnScope ["value", "many", "one", "other", "item"] ["value", "many"] (defScope s_is_state_by) := ⟨rfl, rfl, rfl, by decide +kernel, rfl, by decide +kernel, by decide +kernel⟩
abbrev s_need_state : Stmt := top 14
theorem sc_need_state : FnScope ["many", "state"] ["many", "state"] (defScope s_need_state) := ⟨rfl, rfl, rfl, by decide +kernel, rfl, by decide +kernel, by decide +kernel⟩
abbrev s_need_place : Stmt := top 15
theorem sc_need_place : FnScope ["state", "place"] ["state", "place"] (defScope s_need_place) := ⟨rfl, rfl, rfl, by decide +kernel, rfl, by decide +kernel, by decide +kernel⟩
abbrev s_gap_by : Stmt := top 16
theorem sc_gap_by : FnScope ["many", "state", "place"] ["many", "state", "place"] (defScope s_gap_by) := ⟨rfl, rfl, rfl, by decide +kernel, rfl, by decide +kernel, by decide +kernel⟩
abbrev s_tight_place : Stmt := top 17
theorem sc_tight_place : FnScope ["many", "state", "left", "place"] ["many", "state", "left"] (defScope s_tight_place) := ⟨rfl, rfl, rfl, by decide +kernel, rfl, by decide +kernel, by decide +kernel⟩
abbrev s_halfway : Stmt := top 18
theorem sc_halfway : FnScope ["many", "state", "place", "gap"] ["many", "state", "place"] (defScope s_halfway) := ⟨rfl, rfl, rfl, by decide +kernel, rfl, by decide +kernel, by decide +kernel⟩
abbrev s_law_begun : Stmt := top 20
theorem sc_law_begun : FnScope ["script", "great", "cell"] ["script"] (defScope s_law_begun) := ⟨rfl, rfl, rfl, by decide +kernel, rfl, by decide +kernel, by decide +kernel⟩
abbrev s_law_blended : Stmt := top 21
theorem sc_law_blended : FnScope ["state", "turn", "found", "prime", "blend", "cell"] ["state"] (defScope s_law_blended) := ⟨rfl, rfl, rfl, by decide +kernel, rfl, by decide +kernel, by decide +kernel⟩
abbrev s_law_draw : Stmt := top 22
theorem sc_law_draw : FnScope ["state", "size_here", "found"] ["state", "size_here"] (defScope s_law_draw) := ⟨rfl, rfl, rfl, by decide +kernel, rfl, by decide +kernel, by decide +kernel⟩
abbrev s_law_pick : Stmt := top 23
theorem sc_law_pick : FnScope ["state", "several"] ["state", "several"] (defScope s_law_pick) := ⟨rfl, rfl, rfl, by decide +kernel, rfl, by decide +kernel, by decide +kernel⟩
abbrev s_law_mixed : Stmt := top 24
theorem sc_law_mixed : FnScope ["state", "several", "left", "found"] ["state", "several"] (defScope s_law_mixed) := ⟨rfl, rfl, rfl, by decide +kernel, rfl, by decide +kernel, by decide +kernel⟩
abbrev s_law_is_whole : Stmt := top 25
theorem sc_law_is_whole : FnScope ["item"] ["item"] (defScope s_law_is_whole) := ⟨rfl, rfl, rfl, by decide +kernel, rfl, by decide +kernel, by decide +kernel⟩
abbrev s_law_mv_is_state : Stmt := top 26
theorem sc_law_mv_is_state : FnScope ["value", "many", "item", "spot"] ["value", "many"] (defScope s_law_mv_is_state) := ⟨rfl, rfl, rfl, by decide +kernel, rfl, by decide +kernel, by decide +kernel⟩
abbrev s_law_mv_drawn : Stmt := top 27
theorem sc_law_mv_drawn : FnScope ["state", "many", "size"] ["state", "many", "size"] (defScope s_law_mv_drawn) := ⟨rfl, rfl, rfl, by decide +kernel, rfl, by decide +kernel, by decide +kernel⟩
abbrev s_law_k23_goes_on : Stmt := top 28
theorem sc_law_k23_goes_on : FnScope ["many", "here", "left", "spot_here", "end", "fine", "label"] ["many", "here", "left"] (defScope s_law_k23_goes_on) := ⟨rfl, rfl, rfl, by decide +kernel, rfl, by decide +kernel, by decide +kernel⟩
abbrev s_law_k23_drawn : Stmt := top 29
theorem sc_law_k23_drawn : FnScope ["state", "many", "turns", "found", "label", "turn", "here"] ["state", "many", "turns"] (defScope s_law_k23_drawn) := ⟨rfl, rfl, rfl, by decide +kernel, rfl, by decide +kernel, by decide +kernel⟩
abbrev s_law_k23_kept : Stmt := top 30
theorem sc_law_k23_kept : FnScope ["state", "many", "here", "left", "turn"] ["state", "many", "here", "left"] (defScope s_law_k23_kept) := ⟨rfl, rfl, rfl, by decide +kernel, rfl, by decide +kernel, by decide +kernel⟩
abbrev s_law_k23_stuck : Stmt := top 31
theorem sc_law_k23_stuck : FnScope ["state", "many", "here", "left", "turn", "spot_here", "gap", "step"] ["state", "many", "here", "left"] (defScope s_law_k23_stuck) := ⟨rfl, rfl, rfl, by decide +kernel, rfl, by decide +kernel, by decide +kernel⟩
abbrev s_law : Stmt := top 32
theorem sc_law : FnScope ["script", "state", "lap", "many", "left", "here", "turns", "great", "items", "few"] ["script"] (defScope s_law) := ⟨rfl, rfl, rfl, by decide +kernel, rfl, by decide +kernel, by decide +kernel⟩
def G_MOST_NUMBER : Int := 1000000000000000000
def G_MOST_LEFT : Int := 59
structure Fz (K : PySem.W.Frag) (mg : Str → Option Value) : Prop where
  d_is_whole : Has K mg "is_whole" s_is_whole ["value"]
  d_is_number : Has K mg "is_number" s_is_number ["value", "low"]
  d_need_labels : Has K mg "need_labels" s_need_labels ["many"]
  d_is_state_by : Has K mg "is_state_by" s_is_state_by ["value", "many"]
  d_need_state : Has K mg "need_state" s_need_state ["many", "state"]
  d_need_place : Has K mg "need_place" s_need_place ["state", "place"]
  d_gap_by : Has K mg "gap_by" s_gap_by ["many", "state", "place"]
  d_tight_place : Has K mg "tight_place" s_tight_place ["many", "state", "left"]
  d_halfway : Has K mg "halfway" s_halfway ["many", "state", "place"]
  d_law_begun : Has K mg "_law_begun" s_law_begun ["script"]
  d_law_blended : Has K mg "_law_blended" s_law_blended ["state"]
  d_law_draw : Has K mg "_law_draw" s_law_draw ["state", "size_here"]
  d_law_pick : Has K mg "_law_pick" s_law_pick ["state", "several"]
  d_law_mixed : Has K mg "_law_mixed" s_law_mixed ["state", "several"]
  d_law_is_whole : Has K mg "_law_is_whole" s_law_is_whole ["item"]
  d_law_mv_is_state : Has K mg "_law_mv_is_state" s_law_mv_is_state ["value", "many"]
  d_law_mv_drawn : Has K mg "_law_mv_drawn" s_law_mv_drawn ["state", "many", "size"]
  d_law_k23_goes_on : Has K mg "_law_k23_goes_on" s_law_k23_goes_on ["many", "here", "left"]
  d_law_k23_drawn : Has K mg "_law_k23_drawn" s_law_k23_drawn ["state", "many", "turns"]
  d_law_k23_kept : Has K mg "_law_k23_kept" s_law_k23_kept ["state", "many", "here", "left"]
  d_law_k23_stuck : Has K mg "_law_k23_stuck" s_law_k23_stuck ["state", "many", "here", "left"]
  d_law : Has K mg "law" s_law ["script"]
  b_abs : mg "abs" = none
  b_all : mg "all" = none
  b_bool : mg "bool" = none
  b_int : mg "int" = none
  b_isinstance : mg "isinstance" = none
  b_len : mg "len" = none
  b_list : mg "list" = none
  b_min : mg "min" = none
  b_range : mg "range" = none
  b_sorted : mg "sorted" = none
  b_tuple : mg "tuple" = none
  b_zip : mg "zip" = none
  g_MOST_LEFT : ∃ t, mg "MOST_LEFT" = some (.int G_MOST_LEFT t)
  g_MOST_NUMBER : ∃ t, mg "MOST_NUMBER" = some (.int G_MOST_NUMBER t)
end K23


namespace K23
open PySem PySem.Spec L2 DL Ln
open PyProof.Rows (envOfC)
local macro_rules | `(tactic| walk_at "imm") => `(tactic| first | assumption | trivial | exact imms_ints | exact imms_pairs | (simp only [Imm, Imms]; done) | exact ⟨trivial, trivial⟩ | exact ⟨trivial, imms_ints⟩)
local macro_rules | `(tactic| walk_at "add") => `(tactic| first | exact AddD.int | exact AddD.lst (by walk_at "imm") (by walk_at "imm") (by first | assumption | (simp; omega)))
local macro_rules | `(tactic| walk_at "cost") => `(tactic| first | with_reducible assumption | (with_reducible exact cpow (by omega) (by omega) (by omega) (by omega)) | (with_reducible exact cdivw (by omega) (by omega)) | (with_reducible exact cmul1 (by omega) (by omega)) | (with_reducible exact cmul2 (by omega) (by omega)) | with_reducible exact imms_ints | omega)
local macro_rules | `(tactic| walk_at "mul") => `(tactic| ((refine MulD.int ?_); walk_at "cost"))
local macro_rules | `(tactic| walk_at "cmp") => `(tactic| first | with_reducible exact cmp_lt | with_reducible exact cmp_le | with_reducible exact cmp_gt | with_reducible exact cmp_ge | with_reducible exact cmp_eqI | with_reducible exact cmp_neI | with_reducible exact cmp_isN | with_reducible exact cmp_notN | ((with_reducible refine cmp_neLL ?_); with_reducible assumption) | ((with_reducible refine cmp_neTT ?_); with_reducible assumption) | ((with_reducible refine cmp_nePT ?_); with_reducible assumption) | ((with_reducible refine cmp_eqLL ?_); with_reducible assumption) | ((with_reducible refine cmp_eqLN ?_); with_reducible assumption) | ((with_reducible refine cmp_neLN ?_); with_reducible assumption) | ((with_reducible refine cmp_neP ?_); with_reducible assumption) | ((with_reducible refine cmp_eqN ?_); with_reducible assumption) | with_reducible exact cmp_notB | with_reducible exact cmp_inL | with_reducible exact cmp_inF | with_reducible exact cmp_inT | with_reducible exact cmp_inP | with_reducible exact cmp_niL | with_reducible exact cmp_niF | with_reducible exact cmp_niT | with_reducible exact cmp_niP | exact cmp_lt | exact cmp_le | exact cmp_gt | exact cmp_ge | exact cmp_eqI | exact cmp_neI | exact cmp_isN | exact cmp_notN | ((refine cmp_neLL ?_); with_reducible assumption) | ((refine cmp_neTT ?_); with_reducible assumption) | ((refine cmp_nePT ?_); with_reducible assumption) | ((refine cmp_eqLL ?_); with_reducible assumption) | ((refine cmp_eqLN ?_); with_reducible assumption) | ((refine cmp_neLN ?_); with_reducible assumption) | ((refine cmp_neP ?_); with_reducible assumption) | ((refine cmp_eqN ?_); with_reducible assumption) | exact cmp_notB | exact cmp_inL | exact cmp_inF | exact cmp_inT | exact cmp_inP | exact cmp_niL | exact cmp_niF | exact cmp_niT | exact cmp_niP)
local macro_rules | `(tactic| walk_at "ci") => `(tactic| first | exact cmpi_lt | exact cmpi_le | exact cmpi_gt | exact cmpi_ge)
local macro_rules | `(tactic| walk_at "sl") => `(tactic| first | ((refine sl_t ?_); walk_at "imm") | ((refine sl_p ?_); walk_at "imm") | ((refine sl_l ?_); walk_at "imm") | ((refine sl_f ?_); walk_at "imm"))
local macro_rules | `(tactic| walk_at "mark") => `(tactic| first | exact nomark _ | with_unfolding_all rfl)
local macro_rules | `(tactic| walk_at "boot") => `(tactic| first | with_reducible exact PyProof.Rows.boot_int | with_reducible exact PyProof.Rows.boot_bool | with_reducible exact PyProof.Rows.boot_tuple | with_reducible exact PyProof.Rows.boot_list | with_reducible exact PyProof.Rows.boot_str | with_reducible exact PyProof.Rows.boot_dict)
local macro_rules | `(tactic| walk_at "kit") => `(tactic| first | with_reducible exact kit_ii | with_reducible exact kit_ib | with_reducible exact kit_it | with_reducible exact kit_tt | with_reducible exact kit_ti | with_reducible exact kit_bb | with_reducible exact kit_bi | with_reducible exact kit_ll | with_reducible exact kit_dd | with_reducible exact kit_ss)
local macro_rules | `(tactic| walk_at "vis") => `(tactic| first | exact Or.inl rfl | exact Or.inr (Or.inl rfl) | exact Or.inr (Or.inr rfl))
local macro_rules | `(tactic| walk_at "pin") => `(tactic| first | decide | (simp only [watch, List.map_nil, List.map_cons, List.nil_append, List.append_nil, List.cons_append]; decide))
local macro_rules | `(tactic| walk_at "loc") => `(tactic| first | exact Or.inl rfl | exact Or.inr rfl)
local macro_rules | `(tactic| walk_at "key") => `(tactic| first | with_reducible exact key0 | with_reducible exact key1 | with_reducible exact key2 | with_reducible exact key3)
local macro_rules | `(tactic| walk_at "dg") => `(tactic| (
  (with_reducible refine' wo_dget ?h1 ?h2 ?h3 ?h4 ?h5 ?h6 ?h7 ?_ ?h9 ?h10 ?h11); (case h1 => with_reducible assumption); (case h2 => with_reducible assumption); (case h5 => walk_at "key"); (case h3 => rfl); (case h4 => exact kN); (case h6 => rfl); (case h7 => trivial); (case h9 => walk_at "vis"); (case h10 => decide); (case h11 => decide)))
local macro_rules | `(tactic| walk_at "ob") => `(tactic| first
  | (refine ⟨Nat.le_of_ble_eq_true rfl, ?_⟩; try dsimp only [List.set])
  | (refine ⟨_, rfl, Nat.le_of_ble_eq_true rfl, ?_⟩; try dsimp only [List.set])
  | (refine ⟨_, rfl, trivial, Nat.le_of_ble_eq_true rfl, Nat.le_of_ble_eq_true rfl, ?_⟩; try dsimp only [List.set])
  | (refine ⟨_, _, rfl, Nat.le_of_ble_eq_true rfl, Nat.le_of_ble_eq_true rfl, ?_⟩; try dsimp only [List.set])
  | (refine ⟨_, _, _, rfl, Nat.le_of_ble_eq_true rfl, Nat.le_of_ble_eq_true rfl, Nat.le_of_ble_eq_true rfl, ?_⟩; try dsimp only [List.set])
  | refine ⟨fun _ => ?_, fun h => Bool.noConfusion h⟩
  | refine ⟨fun h => Bool.noConfusion h, fun _ => ?_⟩
  | refine ⟨_, rfl, ?_⟩
  | refine ⟨_, _, rfl, rfl, ?_⟩
  | refine ⟨_, _, _, _, rfl, rfl, rfl, ?_⟩
  | (refine ⟨_, _, _, ?dd, rfl, rfl, rfl, ?hh, ?_⟩; (case hh => walk_at "kit"))
  | (refine ⟨_, _, ?dd, rfl, rfl, ?hh, ?_⟩; (case hh => first | walk_at "add" | walk_at "mul" | walk_at "cmp"))
  | (refine ⟨_, ?dd, rfl, ?hh, ?_⟩; (case hh => walk_at "sl"))
  | (refine ⟨_, _, ?dd, rfl, rfl, ?hh, ?ii, ?_⟩; (case hh => first | with_reducible assumption | with_reducible exact at2_0 | with_reducible exact at2_1 | with_reducible exact at3_0 | with_reducible exact at3_1 | with_reducible exact at3_2); (case ii => trivial))
  | (refine ⟨fun _ => ?_, ?hx⟩; (case hx => (intro h; exfalso; (first | ((simp only [decide_eq_false_iff_not, decide_eq_true_eq, Bool.not_eq_true', Bool.not_eq_false'] at h); omega) | ((simp at h); done)))))
  | (refine ⟨?hx, fun _ => ?_⟩; (case hx => (intro h; exfalso; (first | ((simp only [decide_eq_false_iff_not, decide_eq_true_eq, Bool.not_eq_true', Bool.not_eq_false'] at h); omega) | ((simp at h); done)))))
  | ((with_reducible refine And.intro ?hh ?_); (case hh => walk_at "cost")))
local macro_rules | `(tactic| walk_at "gWSs") => `(tactic| first
  | with_reducible refine wss_nil ?_
  | with_reducible refine wss_one ?_
  | with_reducible refine wss_cons ?_)
local macro_rules | `(tactic| walk_at "gWS") => `(tactic| first
  | with_reducible refine ws_if ?_
  | with_reducible refine ws_ret ?_
  | ((with_reducible refine' ws_set ?h1 ?h2 ?h3 ?h4 ?_ ?h6 ?h7); (case h1 => with_reducible assumption); (case h2 => with_reducible assumption); (case h3 => walk_at "loc"); (case h4 => walk_at "pin"); (case h6 => rfl); (case h7 => exact .inl rfl))
  | ((with_reducible refine' ws_augI ?h1 ?h2 ?h3 ?h4 ?h5 ?_ ?h7); (case h1 => with_reducible assumption); (case h2 => with_reducible assumption); (case h3 => rfl); (case h4 => walk_at "loc"); (case h5 => walk_at "pin"); (case h7 => exact .inl rfl))
  | ((with_reducible refine' ws_asg2 ?h1 ?h2 ?h3 ?h4 ?h5 ?h6 ?h7 ?_ ?h9 ?h10 ?h11 ?h12); (case h1 => with_reducible assumption); (case h2 => with_reducible assumption); (case h3 => with_reducible assumption); (case h4 => walk_at "loc"); (case h5 => walk_at "loc"); (case h6 => walk_at "pin"); (case h7 => walk_at "pin"); (case h9 => exact .inl rfl); (case h10 => exact .inl rfl); (case h11 => rfl); (case h12 => rfl))
  | ((with_reducible refine' ws_dput ?h1 ?h2 ?_ ?h4 ?h5 ?h6 ?h7); (case h1 => with_reducible assumption); (case h2 => with_reducible assumption); (case h4 => rfl); (case h5 => walk_at "vis"); (case h6 => decide); (case h7 => decide))
  | ((with_reducible refine' ws_asg ?_ ?h2 ?h3 ?h4); (case h2 => rfl); (case h3 => rfl); (case h4 => rfl))
  | ((with_reducible refine ws_expr ?_ ?h2); (case h2 => rfl))
  | with_reducible refine ws_pass ?_)
local macro_rules | `(tactic| walk_at "gWG") => `(tactic| first
  | ((with_reducible refine' wg_name ?h1 ?h2 ?h3 ?h4 ?h5 ?_ ?h7); (case h1 => with_reducible assumption); (case h2 => with_reducible assumption); (case h3 => walk_at "loc"); (case h4 => walk_at "pin"); (case h5 => exact Nat.le_of_ble_eq_true rfl); (case h7 => exact .inl rfl); (try dsimp only [List.set]))
  | ((with_reducible refine' wg_pair ?a1 ?a2 ?a3 ?a4 ?a5 ?a6 ?a7 ?a8 ?a9 ?b1 ?_ ?b3 ?b4 ?b5 ?b6 ?b7); (case a1 => rfl); (case a2 => with_reducible assumption); (case a3 => with_reducible assumption); (case a4 => with_reducible assumption); (case a5 => walk_at "loc"); (case a6 => walk_at "loc"); (case a7 => walk_at "pin"); (case a8 => walk_at "pin"); (case a9 => exact Nat.le_of_ble_eq_true rfl); (case b1 => exact Nat.le_of_ble_eq_true rfl); (case b3 => exact .inl rfl); (case b4 => exact .inl rfl); (case b5 => exact fun t h => pg_tup rfl h); (case b6 => exact fun t u h1 h2 => pgs_cons h1 h2); (case b7 => exact fun t h => pgs_cons h pgs_nil); (try dsimp only [List.set])))
local macro_rules | `(tactic| walk_at "gENm") => `(tactic| first
  | ((with_reducible refine' we_name ?h1 ?h2 ?h3 ?_ ?h5 ?h6 ?h7); (case h1 => with_reducible assumption); (case h2 => rfl); (case h3 => walk_at "imm"); (case h5 => walk_at "vis"); (case h6 => decide); (case h7 => decide))
  | ((with_reducible refine' we_move ?h1 ?h2 ?_ ?h5 ?h6 ?h7); (case h1 => with_reducible assumption); (case h2 => rfl); (case h5 => walk_at "vis"); (case h6 => decide); (case h7 => decide); (try dsimp only [List.set])))
local macro_rules | `(tactic| walk_at "gWE") => `(tactic| first
  | with_reducible refine we_of ?_)
local macro_rules | `(tactic| walk_at "gName") => `(tactic| first
  | ((with_reducible refine' wo_nameI ?h1 ?h2 ?h3 ?_ ?h5 ?h6 ?h7); (case h1 => with_reducible assumption); (case h2 => rfl); (case h3 => walk_at "imm"); (case h5 => walk_at "vis"); (case h6 => decide); (case h7 => decide))
  | ((with_reducible refine' wo_name ?h1 ?h2 ?_ ?h5 ?h6 ?h7); (case h1 => with_reducible assumption); (case h2 => rfl); (case h5 => walk_at "vis"); (case h6 => decide); (case h7 => decide))
  | ((with_reducible refine' wo_gint ?h1 ?h2 ?_ ?h4); (case h1 => rfl); (case h2 => with_reducible assumption); (case h4 => decide))
  | ((with_reducible refine' wo_tyn ?h1 ?h2 ?h3 ?_ ?h5 ?h6); (case h1 => rfl); (case h2 => with_reducible assumption); (case h3 => walk_at "boot"); (case h5 => decide); (case h6 => decide)))
local macro_rules | `(tactic| walk_at "gCon") => `(tactic| first
  | with_reducible refine wo_int ?_
  | with_reducible refine wo_non ?_
  | with_reducible refine wo_bl ?_
  | with_reducible refine wo_str ?_)
local macro_rules | `(tactic| walk_at "gBin") => `(tactic| first
  | with_reducible refine wo_addD ?_
  | with_reducible refine wo_sub ?_
  | with_reducible refine wo_mulD ?_
  | with_reducible refine wo_mod ?_
  | with_reducible refine wo_fdiv ?_
  | with_reducible refine wo_pow ?_
  | with_reducible refine wo_shl ?_)
local macro_rules | `(tactic| walk_at "gBool") => `(tactic| first
  | with_reducible refine wo_and ?_
  | with_reducible refine wo_or ?_
  | with_reducible refine wo_bone ?_)
local macro_rules | `(tactic| walk_at "gCmp") => `(tactic| first
  | ((with_reducible refine wo_chain ?_ ?h2); (case h2 => with_unfolding_all rfl))
  | ((with_reducible refine wo_cmpD ?h1 ?_); (case h1 => walk_at "mark")))
local macro_rules | `(tactic| walk_at "gSub") => `(tactic| first
  | walk_at "dg"
  | with_reducible refine wo_slD ?_
  | with_reducible refine wo_revL ?_
  | ((with_reducible refine wo_ix ?h1 ?_); (case h1 => exact fun _ _ => rfl)))
local macro_rules | `(tactic| walk_at "gCalN") => `(tactic| first
  | ((with_reducible refine wo_sortedS ?h1 ?h2 ?_ ?h4); (case h1 => rfl); (case h2 => with_reducible assumption); (case h4 => rfl))
  | ((with_reducible refine' wo_c0 ?h1 ?h2 ?h3 ?h4 ?_ ?h6 ?h7 ?h8); (case h1 => with_reducible assumption); (case h2 => with_reducible assumption); (case h3 => decide); (case h4 => rfl); (case h6 => decide); (case h7 => rfl); (case h8 => rfl))
  | ((with_reducible refine' wo_c1 ?h1 ?h2 ?h3 ?h4 ?_ ?h6 ?h7 ?h8); (case h1 => with_reducible assumption); (case h2 => with_reducible assumption); (case h3 => decide); (case h4 => rfl); (case h6 => decide); (case h7 => rfl); (case h8 => rfl))
  | ((with_reducible refine wo_len ?h1 ?h2 ?_ ?h4); (case h1 => rfl); (case h2 => with_reducible assumption); (case h4 => rfl))
  | ((with_reducible refine wo_abs ?h1 ?h2 ?_ ?h4); (case h1 => rfl); (case h2 => with_reducible assumption); (case h4 => rfl))
  | ((with_reducible refine wo_intI ?h1 ?h2 ?_ ?h4); (case h1 => rfl); (case h2 => with_reducible assumption); (case h4 => rfl))
  | ((have hmode : PtMode := by with_reducible assumption); (with_reducible refine wo_tupleF ?h1 ?h2 ?_ ?h4); (case h1 => rfl); (case h2 => with_reducible assumption); (case h4 => rfl))
  | ((with_reducible refine wo_tuple ?h1 ?h2 ?_ ?h4); (case h1 => rfl); (case h2 => with_reducible assumption); (case h4 => rfl))
  | ((with_reducible refine wo_listR1 rfl ?h1 ?h2 ?h3 ?h5 ?_ ?h4 ?h6); (case h1 => rfl); (case h2 => with_reducible assumption); (case h3 => rfl); (case h5 => with_reducible assumption); (case h4 => rfl); (case h6 => rfl))
  | ((with_reducible refine wo_list ?h1 ?h2 ?_ ?h4); (case h1 => rfl); (case h2 => with_reducible assumption); (case h4 => rfl))
  | ((with_reducible refine wo_all ?h0 ?h1 ?h2 ?_ ?h4); (case h0 => rfl); (case h1 => rfl); (case h2 => with_reducible assumption); (case h4 => rfl))
  | ((with_reducible refine wo_isi2 ?h1 ?h2 ?_ ?h4 ?h5); (case h1 => rfl); (case h2 => with_reducible assumption); (case h4 => rfl); (case h5 => rfl)))
local macro_rules | `(tactic| walk_at "gCalA") => `(tactic| first
  | ((with_reducible refine' wo_dpop ?h1 ?h2 ?h3 ?h4 ?h5 ?h6 ?_ ?h8 ?h9 ?h10 ?h11); (case h1 => with_reducible assumption); (case h2 => with_reducible assumption); (case h5 => walk_at "key"); (case h3 => rfl); (case h4 => exact kN); (case h6 => rfl); (case h8 => exact fun t ht => pe_bm PySem.F.plainAttrs_list PySem.F.slot_list_pop PySem.F.type_list_pop mt_popAt ht (pa_cons pe_int pa_nil)); (case h9 => walk_at "vis"); (case h10 => decide); (case h11 => decide))
  | ((with_reducible refine' wo_append ?h1 ?h2 ?_ ?h4 ?h5 ?h6); (case h1 => with_reducible assumption); (case h2 => exact ⟨_, rfl⟩); (case h4 => exact pe_slot (by with_reducible assumption)); (case h5 => exact pe_bm PySem.F.plainAttrs_list PySem.F.slot_list_append PySem.F.type_list_append mt_append (pe_slot (by with_reducible assumption)) pa_w); (case h6 => rfl))
  | ((with_reducible refine' wo_insert ?h2 ?_ ?h4 ?h5 ?h6 ?h7); (case h4 => rfl); (case h5 => exact pe_bm PySem.F.plainAttrs_list PySem.F.slot_list_insert PySem.F.type_list_insert mt_insert (pe_slot (by with_reducible assumption)) pa_w); (case h2 => exact ⟨_, rfl⟩); (case h6 => rfl); (case h7 => rfl))
  | ((with_reducible refine' wo_popAt ?h1 ?_ ?h3 ?h4); (case h3 => exact pe_bm PySem.F.plainAttrs_list PySem.F.slot_list_pop PySem.F.type_list_pop mt_popAt (pe_slot (by with_reducible assumption)) pa_w); (case h1 => exact ⟨_, rfl⟩); (case h4 => rfl))
  | ((have hmode : PtMode := by with_reducible assumption); (with_reducible refine wo_tix ?_ ?h2 ?h3 ?h4 ?h5); (case h2 => rfl); (case h3 => rfl); (case h4 => rfl); (case h5 => rfl))
  | ((with_reducible refine' wo_indexI ?_ ?h5 ?h6); (case h5 => exact pe_bm PySem.F.plainAttrs_list PySem.F.slot_list_index PySem.F.type_list_index mt_index pe_w pa_w); (case h6 => rfl))
  | ((with_reducible refine' wo_pop ?h1 ?h2 ?h3 ?_ ?h5); (case h1 => rfl); (case h5 => exact pe_bm0 PySem.F.plainAttrs_list PySem.F.slot_list_pop PySem.F.type_list_pop mt_pop (pe_slot (by with_reducible assumption)))))
local macro_rules | `(tactic| walk_at "gWO") => `(tactic| first
  | with_reducible refine wo_not ?_
  | with_reducible refine wo_if ?_
  | with_reducible refine wo_lst ?_
  | with_reducible refine wo_tup ?_)
local macro_rules | `(tactic| walk_at "gWT") => `(tactic| first
  | ((with_reducible refine' wt_dne ?h1 ?h2 ?h3 ?h4 ?h5 ?h6 ?_ ?h9 ?h10 ?h11); (case h1 => with_reducible assumption); (case h2 => with_reducible assumption); (case h5 => walk_at "key"); (case h3 => rfl); (case h4 => exact kN); (case h6 => rfl); (case h9 => walk_at "vis"); (case h10 => decide); (case h11 => decide))
  | with_reducible refine wt_not ?_
  | with_reducible refine wt_bool ?_
  | ((with_reducible refine wt_chain ?_ ?h2); (case h2 => with_unfolding_all rfl))
  | ((with_reducible refine wt_cmpD ?h1 ?_); (case h1 => walk_at "mark"))
  | ((with_reducible refine wt_val ?_ ?h2); (case h2 => exact fun _ => rfl)))
local macro_rules | `(tactic| walk_at "gWW") => `(tactic| first
  | with_reducible refine ww_and ?_
  | with_reducible refine ww_and1 ?_
  | with_reducible refine ww_or ?_
  | with_reducible refine ww_or1 ?_)
local macro_rules | `(tactic| walk_at "gWA") => `(tactic| first
  | ((with_reducible refine wa_star ?_ ?h2); (case h2 => rfl))
  | ((with_reducible refine wa_cons ?_ ?h2); (case h2 => rfl))
  | with_reducible refine wa_nil ?_)
local macro_rules | `(tactic| walk_at "rest") => `(tactic| first
  | with_reducible refine wvs_cons ?_
  | with_reducible refine wvs_nil ?_
  | with_reducible refine wp_none ?_
  | with_reducible refine wp_some ?_
  | ((with_reducible refine' wtc_link ?h1 ?_); (case h1 => walk_at "ci"))
  | ((with_reducible refine' wtc_last ?h1 ?_); (case h1 => walk_at "ci")))
local macro_rules | `(tactic| walk_at "d") => `(tactic| first
  | ((with_reducible refine gWSs ?_); walk_at "gWSs")
  | ((with_reducible refine gWS ?_); walk_at "gWS")
  | ((with_reducible refine gWG ?_); walk_at "gWG")
  | ((with_reducible refine gENm ?_); walk_at "gENm")
  | ((with_reducible refine gWE ?_); walk_at "gWE")
  | ((with_reducible refine gName ?_); walk_at "gName")
  | ((with_reducible refine gCon ?_); walk_at "gCon")
  | ((with_reducible refine gBin ?_); walk_at "gBin")
  | ((with_reducible refine gBool ?_); walk_at "gBool")
  | ((with_reducible refine gCmp ?_); walk_at "gCmp")
  | ((with_reducible refine gSub ?_); walk_at "gSub")
  | ((with_reducible refine gCalN ?_); walk_at "gCalN")
  | ((with_reducible refine gCalA ?_); walk_at "gCalA")
  | ((with_reducible refine gWO ?_); walk_at "gWO")
  | ((with_reducible refine gWT ?_); walk_at "gWT")
  | ((with_reducible refine gWW ?_); walk_at "gWW")
  | ((with_reducible refine gWA ?_); walk_at "gWA")
  | walk_at "rest"
  | walk_at "ob")
local macro_rules | `(tactic| walk_at "go") => `(tactic| repeat walk_at "d")

section
variable {P : Program} {w : World} {K : PySem.W.Frag} {mg : Str → Option Value} {base : Heap}
theorem ten18 : (10 : Int) ^ (Int.toNat 18) = 1000000000000000000 := by decide
theorem pow18 : CPow 10 18 := ⟨by decide, by decide, by decide⟩
theorem absI {i : Int} : 0 ≤ (if i < 0 then -i else i) := by split <;> omega
theorem src_ints {xs : List Int} {j : Nat} (h : j < xs.length) : (xs.map D.int).getD j .non = .int xs[j] := by rw [getD_ints h, List.getD_eq_getElem?_getD, List.getElem?_eq_getElem h]; rfl
theorem fm_ints {G : Int → Option Int} {xs : List Int} : xs.filterMap (fun c => (G c).map D.int) = (xs.filterMap G).map D.int := by rw [List.map_filterMap]
theorem cal_law_begun (Z : Fz K mg) : Cal P w K mg base 1 "_law_begun" (toSp K 0 ct_law_begun) := by
  refine cal_of Z.d_law_begun sc_law_begun (fun a ds h => by rw [h.1]; rfl) (by decide) ?_
  intro f cdv A outer s H E hr (a : List Int ) ds hp X
  have hNd : X.N.Nodup := sc_law_begun.nd
  have hN0 : X.N[0]? = some ("script" : Str) := rfl
  have hN1 : X.N[1]? = some ("great" : Str) := rfl
  have hN2 : X.N[2]? = some ("cell" : Str) := rfl
  have hR : Room 0 X.A := hr
  have hu64 : X.A.units + 64 < cLine := by have := hR.un; omega
  have hu1 : X.A.units + 1 < cLine := by have := hR.un; omega
  have m_abs : X.mg "abs" = none := Z.b_abs
  obtain ⟨hds, hp⟩ := hp
  subst hds
  show WSs X [] (_ :: _) [ some (D.fz (a.map D.int)), none, none] _
  walk_at "go"
  refine' ws_setLcX (own := [("cell", 2)]) rfl hNd hN1 rfl (by decide) ?ok ?hg ?_ ?sw ?hs
  case ok => exact (show BlkOk ["script", "great", "cell"] (defScope s_law_begun) _ [("cell", 2)] from ⟨rfl, by decide +kernel, by decide +kernel, by decide +kernel, by decide +kernel⟩)
  case hs => exact fun _ => rfl
  case sw => exact sw_true rfl rfl rfl rfl
  case hg => exact blk_name hNd hN2 rfl
  refine wi_lst ?_
  walk_at "go"
  rw [List.length_map]
  refine ⟨Int, a, D.int, fun c => (if (if c < 0 then -c else c) ≥ 1000000000000000000 then some ((if c < 0 then -c else c) - 1000000000000000000) else none).map D.int, rfl, by omega, fun j h => src_ints h, (fun p h => nomatch h), ?_, ?_⟩
  · intro c hc
    refine ⟨_, tgb_name (by decide) (Nat.le_of_ble_eq_true rfl), fun s H C cl fp => ?_⟩
    dsimp only [List.set]
    refine wif_one ?_
    walk_at "go"
    rw [ten18]
    refine ⟨fun ht s H C cl fp => ?_, fun hf => ⟨by rw [if_neg (of_decide_eq_false hf)]; rfl, rfl⟩⟩
    walk_at "go"
    rw [ten18]
    exact ⟨by rw [if_pos (of_decide_eq_true ht)]; rfl, rfl⟩
  · rw [fm_ints]
    refine ⟨Nat.le_of_ble_eq_true rfl, ?_⟩
    dsimp only [List.set, wipeE, List.map]
    show WSs _ _ _ _ _
    walk_at "go"
    refine wo_disp (zs := ["great", "cells", "left", "turn"]) (pe_disp (pps_cons pe_str pe_w (pps_cons pe_str pe_w (pps_cons pe_str pe_w (pps_cons pe_str pe_w pps_nil)))) rfl rfl (by decide) (by decide)) rfl (by decide) (by decide) ?_
    walk_at "go"
    refine wo_freeze ?_
    refine' wo_lcX (own := [("cell", 2)]) rfl hNd ?ok ?hg ?_ ?hs
    case ok => exact (show BlkOk ["script", "great", "cell"] (defScope s_law_begun) _ [("cell", 2)] from ⟨rfl, by decide +kernel, by decide +kernel, by decide +kernel, by decide +kernel⟩)
    case hs => exact fun _ => rfl
    case hg => exact blk_name hNd hN2 rfl
    refine wi_lst ?_
    walk_at "go"
    rw [List.length_map]
    refine ⟨Int, a, D.int, fun c => (some (if c < 0 then -c else c)).map D.int, rfl, by omega, fun j h => src_ints h, (fun p h => nomatch h), ?_, ?_⟩
    · intro c hc
      refine ⟨_, tgb_name (by decide) (Nat.le_of_ble_eq_true rfl), fun s H C cl fp => ?_⟩
      dsimp only [List.set]
      refine wif_nil ⟨fun _ s H C cl fp => ?_, fun h => Bool.noConfusion h⟩
      walk_at "go"
      exact ⟨rfl, rfl⟩
    · rw [fm_ints]
      refine ⟨_, rfl, imms_ints, ?_⟩
      walk_at "go"
      refine ⟨[], rfl, ⟨_, _, 0, 0⟩, rfl, fun x hx => ?_, fun x hx => ?_, Int.le_refl _, Int.le_refl _, Int.le_refl _⟩
      · obtain ⟨c, _, h⟩ := List.mem_filterMap.mp hx
        revert h
        generalize (if c < 0 then -c else c) = y
        intro h
        split at h
        · cases h
          omega
        · cases h
      · obtain ⟨c, _, h⟩ := List.mem_filterMap.mp hx
        cases h
        exact absI
theorem prime3 {j : Nat} (h : j < 3) : ∃ p, ([D.int 2147483353, D.int 2147483323, D.int 2147483269] : List D).getD j .non = .int p ∧ 2147483000 < p ∧ p < 2147483648 := by
  rcases j with _ | _ | _ | j
  · exact ⟨_, rfl, by decide, by decide⟩
  · exact ⟨_, rfl, by decide, by decide⟩
  · exact ⟨_, rfl, by decide, by decide⟩
  · omega
theorem cal_law_blended (Z : Fz K mg) : Cal P w K mg base 1 "_law_blended" (toSp K 1 ct_law_blended) := by
  refine cal_of Z.d_law_blended sc_law_blended (fun a ds h => by rw [h.1]; rfl) (by decide) ?_
  intro f cdv A outer s H E hr (a : Sta × Int ) ds hp X
  have hNd : X.N.Nodup := sc_law_blended.nd
  have hN0 : X.N[0]? = some ("state" : Str) := rfl
  have hN1 : X.N[1]? = some ("turn" : Str) := rfl
  have hN2 : X.N[2]? = some ("found" : Str) := rfl
  have hN3 : X.N[3]? = some ("prime" : Str) := rfl
  have hN4 : X.N[4]? = some ("blend" : Str) := rfl
  have hN5 : X.N[5]? = some ("cell" : Str) := rfl
  have hR : Room 0 X.A := hr
  have hu64 : X.A.units + 64 < cLine := by have := hR.un; omega
  have hu1 : X.A.units + 1 < cLine := by have := hR.un; omega
  have m_int : X.mg "int" = none := Z.b_int
  obtain ⟨hds, hp⟩ := hp
  subst hds
  show WSs X [0] (_ :: _) [ some (sD a.1), none, none, none, none, none] _
  obtain ⟨⟨g, c, l, t⟩, n⟩ := a
  obtain ⟨ok, hn⟩ := hp
  have ht0 := ok.t0
  have ht1 := ok.t1
  dsimp only at ht0 ht1 hn
  refine wss_cons ?_
  refine' ws_par rfl hNd hN1 hN2 (by decide) (by decide) (by decide) rfl rfl ?_ ?hw ?hs
  case hw => rfl
  case hs => rfl
  walk_at "go"
  refine ⟨kS, _, 3, _, rfl, kN, rfl, rfl, trivial, trivial, by decide, ?_⟩
  dsimp only [List.set]
  show WSs _ _ _ (some (stD g c l (t + 1)) :: _) _
  refine wss_cons ?_
  refine ws_for PassesOwn.never rfl ?_
  refine wi_lst ?_
  walk_at "go"
  refine ⟨⟨trivial, trivial, trivial, trivial⟩, ?_⟩
  refine ⟨fun n E' => ∃ f o1 o2 o3, 0 ≤ f ∧ E' = [some (stD g c l (t + 1)), some (.int (t + 1)), some (.int f), o1, o2, o3], ⟨0, none, none, none, Int.le_refl _, rfl⟩, (fun _ _ _ _ p h => nomatch h), ?_, ?_⟩
  · rintro j E' hj ⟨f, o1, o2, o3, hf, rfl⟩
    obtain ⟨p, ep, p0, p1⟩ := prime3 hj
    rw [ep]
    walk_at "go"
    refine ws_for PassesOwn.never rfl ?_
    refine wi_lst ?_
    walk_at "go"
    refine ⟨fun n E' => ∃ b o3, (0 ≤ b ∧ b < 18446744073709551616) ∧ E' = [some (stD g c l (t + 1)), some (.int (t + 1)), some (.int f), some (.int p), some (.int b), o3], ?_, (fun _ _ _ _ p h => nomatch h), ?_, ?_⟩
    · exact ⟨_, _, ⟨by omega, by omega⟩, rfl⟩
    · rintro k E' hk ⟨b, o3, hb, rfl⟩
      rw [List.length_map] at hk
      show WG _ _ _ ((c.map D.int).getD k .non) _ _
      rw [getD_ints hk]
      generalize c.getD k 0 = x
      walk_at "go"
      exact ⟨_, _, ⟨Int.emod_nonneg _ (by omega), Int.lt_trans (Int.emod_lt_of_pos _ (by omega)) (by omega)⟩, rfl⟩
    · rintro E' ⟨b, o3, hb, rfl⟩
      walk_at "go"
      refine ⟨_, _, _, _, ?_, rfl⟩
      have h1 : 0 ≤ f * 2147483647 := Int.mul_nonneg hf (by decide)
      have h2 : 0 ≤ (b ^ (Int.toNat 5)) % p := Int.emod_nonneg _ (by omega)
      omega
  · rintro E' ⟨f, o1, o2, o3, hf, rfl⟩
    walk_at "go"
    exact ⟨[stD g c l (t + 1)], rfl, f, rfl, hf, rfl⟩
theorem cal_law_draw (Z : Fz K mg) : Cal P w K mg base 2 "_law_draw" (toSp K 1 ct_law_draw) := by
  refine cal_of Z.d_law_draw sc_law_draw (fun a ds h => by rw [h.1]; rfl) (by decide) ?_
  intro f cdv A outer s H E hr (a : Sta × Int × Int ) ds hp X
  have hNd : X.N.Nodup := sc_law_draw.nd
  have hN0 : X.N[0]? = some ("state" : Str) := rfl
  have hN1 : X.N[1]? = some ("size_here" : Str) := rfl
  have hN2 : X.N[2]? = some ("found" : Str) := rfl
  have hR : Room 1 X.A := hr
  have hu64 : X.A.units + 64 < cLine := by have := hR.un; omega
  have hu1 : X.A.units + 1 < cLine := by have := hR.un; omega
  have m_int : X.mg "int" = none := Z.b_int
  have c_law_blended : Cal X.prog X.w X.K X.mg X.base 1 "_law_blended" (toSp X.K 1 ct_law_blended) := cal_law_blended Z
  obtain ⟨hds, hp⟩ := hp
  subst hds
  show WSs X [0] (_ :: _) [ some (sD a.1), some (D.int a.2.1), none] _
  obtain ⟨⟨g, c, l, t⟩, sz, n⟩ := a
  obtain ⟨ok, ⟨hs0, hs1⟩, hn⟩ := hp
  have ht0 := ok.t0
  have ht1 := ok.t1
  have l0 := ok.l0
  dsimp only at ok ht0 ht1 l0 hs0 hs1 hn ⊢
  refine wss_cut (fun E' => ∃ g' l' t', SOk (n + 1) ⟨g', c, l', t'⟩ ∧ E' = [some (stD g' c l' t'), some (.int sz), none]) ?_ ?_
  · walk_at "go"
    refine ⟨fun h => ?_, fun h => wss_nil ⟨g, l, t, ok.mono (by omega), rfl⟩⟩
    walk_at "go"
    refine ⟨fun h2 => ?_, fun h2 => ?_⟩
    · cases g with
      | nil => cases h2
      | cons g0 gs =>
        walk_at "go"
        refine ⟨kS, _, 2, _, rfl, kN, rfl, rfl, trivial, trivial, by decide, ?_⟩
        exact ⟨gs, g0, t, ⟨fun x hx => ok.g0 x (List.mem_cons_of_mem _ hx), ok.c0, ok.g0 g0 List.mem_cons_self, ht0, (by dsimp only; omega)⟩, rfl⟩
    · walk_at "go"
      refine ⟨(⟨g, c, l, t⟩, n), ⟨rfl, ok, hn⟩, ?_⟩
      rintro d d0 ⟨r, rfl, hr0, hd⟩
      cases hd
      dsimp only [List.set]
      refine ⟨_, rfl, kS, _, 2, _, rfl, kN, rfl, rfl, trivial, trivial, by decide, ?_⟩
      exact ⟨g, r, t + 1, ⟨ok.g0, ok.c0, hr0, by dsimp only; omega, by dsimp only; omega⟩, rfl⟩
  · rintro E' ⟨g', l', t', ok', rfl⟩
    have l0' := ok'.l0
    dsimp only at l0'
    walk_at "go"
    refine ⟨kS, _, 2, _, rfl, kN, rfl, rfl, trivial, trivial, by decide, ?_⟩
    dsimp only [List.set]
    show WSs _ _ _ (some (stD g' c (l' / sz) t') :: _) _
    walk_at "go"
    exact ⟨[stD g' c (l' / sz) t'], rfl, _, ⟨g', c, l' / sz, t'⟩, rfl, ⟨Int.emod_nonneg _ (by omega), Int.emod_lt_of_pos _ hs0⟩, rfl, ⟨ok'.g0, ok'.c0, Int.ediv_nonneg l0' (by omega), ok'.t0, ok'.t1⟩⟩
theorem cal_law_pick (Z : Fz K mg) : Cal P w K mg base 3 "_law_pick" (toSp K 1 ct_law_pick) := by
  refine cal_of Z.d_law_pick sc_law_pick (fun a ds h => by rw [h.1]; rfl) (by decide) ?_
  intro f cdv A outer s H E hr (a : Sta × Int × D × List D ) ds hp X
  have hNd : X.N.Nodup := sc_law_pick.nd
  have hN0 : X.N[0]? = some ("state" : Str) := rfl
  have hN1 : X.N[1]? = some ("several" : Str) := rfl
  have hR : Room 2 X.A := hr
  have hu64 : X.A.units + 64 < cLine := by have := hR.un; omega
  have hu1 : X.A.units + 1 < cLine := by have := hR.un; omega
  have c_law_draw : Cal X.prog X.w X.K X.mg X.base 2 "_law_draw" (toSp X.K 1 ct_law_draw) := cal_law_draw Z
  have m_len : X.mg "len" = none := Z.b_len
  obtain ⟨hds, hp⟩ := hp
  subst hds
  show WSs X [0] (_ :: _) [ some (sD a.1), some a.2.2.1] _
  obtain ⟨s, n, d, ds⟩ := a
  obtain ⟨ok, hseq, im, ⟨l0, l1⟩, hn⟩ := hp
  dsimp only at ok hseq im l0 l1 hn ⊢
  walk_at "go"
  refine ⟨ds, hseq, ?_⟩
  walk_at "go"
  refine ⟨(_, _, _), ⟨rfl, by with_reducible assumption, by dsimp only; try simp only [ncast]; omega, by dsimp only; omega⟩, ?_⟩
  rintro _ _ ⟨r, s1, rfl, hr, hd, oks1⟩
  cases hd
  dsimp only at hr oks1
  try simp only [ncast] at hr
  dsimp only [List.set]
  obtain ⟨x, hx⟩ : ∃ x, ds[r.toNat]? = some x := ⟨_, List.getElem?_eq_getElem (by omega)⟩
  refine ⟨ds, r, x, hseq, rfl, by rw [ix_nat hr.1]; exact hx, imms_get im hx, ?_⟩
  walk_at "go"
  exact ⟨[sD s1], rfl, s1, List.mem_of_getElem? hx, rfl, oks1⟩
end
end K23


namespace K23
open PySem PySem.Spec L2 DL Ln
open PyProof.Rows (envOfC)
local macro_rules | `(tactic| walk_at "imm") => `(tactic| first | assumption | trivial | exact imms_ints | exact imms_pairs | (simp only [Imm, Imms]; done) | exact ⟨trivial, trivial⟩ | exact ⟨trivial, imms_ints⟩)
local macro_rules | `(tactic| walk_at "add") => `(tactic| first | exact AddD.int | exact AddD.lst (by walk_at "imm") (by walk_at "imm") (by first | assumption | (simp; omega)))
local macro_rules | `(tactic| walk_at "cost") => `(tactic| first | with_reducible assumption | (with_reducible exact cpow (by omega) (by omega) (by omega) (by omega)) | (with_reducible exact cdivw (by omega) (by omega)) | (with_reducible exact cmul1 (by omega) (by omega)) | (with_reducible exact cmul2 (by omega) (by omega)) | with_reducible exact imms_ints | omega)
local macro_rules | `(tactic| walk_at "mul") => `(tactic| ((refine MulD.int ?_); walk_at "cost"))
local macro_rules | `(tactic| walk_at "cmp") => `(tactic| first | with_reducible exact cmp_lt | with_reducible exact cmp_le | with_reducible exact cmp_gt | with_reducible exact cmp_ge | with_reducible exact cmp_eqI | with_reducible exact cmp_neI | with_reducible exact cmp_isN | with_reducible exact cmp_notN | ((with_reducible refine cmp_neLL ?_); with_reducible assumption) | ((with_reducible refine cmp_neTT ?_); with_reducible assumption) | ((with_reducible refine cmp_nePT ?_); with_reducible assumption) | ((with_reducible refine cmp_eqLL ?_); with_reducible assumption) | ((with_reducible refine cmp_eqLN ?_); with_reducible assumption) | ((with_reducible refine cmp_neLN ?_); with_reducible assumption) | ((with_reducible refine cmp_neP ?_); with_reducible assumption) | ((with_reducible refine cmp_eqN ?_); with_reducible assumption) | with_reducible exact cmp_notB | with_reducible exact cmp_inL | with_reducible exact cmp_inF | with_reducible exact cmp_inT | with_reducible exact cmp_inP | with_reducible exact cmp_niL | with_reducible exact cmp_niF | with_reducible exact cmp_niT | with_reducible exact cmp_niP | exact cmp_lt | exact cmp_le | exact cmp_gt | exact cmp_ge | exact cmp_eqI | exact cmp_neI | exact cmp_isN | exact cmp_notN | ((refine cmp_neLL ?_); with_reducible assumption) | ((refine cmp_neTT ?_); with_reducible assumption) | ((refine cmp_nePT ?_); with_reducible assumption) | ((refine cmp_eqLL ?_); with_reducible assumption) | ((refine cmp_eqLN ?_); with_reducible assumption) | ((refine cmp_neLN ?_); with_reducible assumption) | ((refine cmp_neP ?_); with_reducible assumption) | ((refine cmp_eqN ?_); with_reducible assumption) | exact cmp_notB | exact cmp_inL | exact cmp_inF | exact cmp_inT | exact cmp_inP | exact cmp_niL | exact cmp_niF | exact cmp_niT | exact cmp_niP)
local macro_rules | `(tactic| walk_at "ci") => `(tactic| first | exact cmpi_lt | exact cmpi_le | exact cmpi_gt | exact cmpi_ge)
local macro_rules | `(tactic| walk_at "sl") => `(tactic| first | ((refine sl_t ?_); walk_at "imm") | ((refine sl_p ?_); walk_at "imm") | ((refine sl_l ?_); walk_at "imm") | ((refine sl_f ?_); walk_at "imm"))
local macro_rules | `(tactic| walk_at "mark") => `(tactic| first | exact nomark _ | with_unfolding_all rfl)
local macro_rules | `(tactic| walk_at "boot") => `(tactic| first | with_reducible exact PyProof.Rows.boot_int | with_reducible exact PyProof.Rows.boot_bool | with_reducible exact PyProof.Rows.boot_tuple | with_reducible exact PyProof.Rows.boot_list | with_reducible exact PyProof.Rows.boot_str | with_reducible exact PyProof.Rows.boot_dict)
local macro_rules | `(tactic| walk_at "kit") => `(tactic| first | with_reducible exact kit_ii | with_reducible exact kit_ib | with_reducible exact kit_it | with_reducible exact kit_tt | with_reducible exact kit_ti | with_reducible exact kit_bb | with_reducible exact kit_bi | with_reducible exact kit_ll | with_reducible exact kit_dd | with_reducible exact kit_ss)
local macro_rules | `(tactic| walk_at "vis") => `(tactic| first | exact Or.inl rfl | exact Or.inr (Or.inl rfl) | exact Or.inr (Or.inr rfl))
local macro_rules | `(tactic| walk_at "pin") => `(tactic| first | decide | (simp only [watch, List.map_nil, List.map_cons, List.nil_append, List.append_nil, List.cons_append]; decide))
local macro_rules | `(tactic| walk_at "loc") => `(tactic| first | exact Or.inl rfl | exact Or.inr rfl)
local macro_rules | `(tactic| walk_at "key") => `(tactic| first | with_reducible exact key0 | with_reducible exact key1 | with_reducible exact key2 | with_reducible exact key3)
local macro_rules | `(tactic| walk_at "dg") => `(tactic| (
  (with_reducible refine' wo_dget ?h1 ?h2 ?h3 ?h4 ?h5 ?h6 ?h7 ?_ ?h9 ?h10 ?h11); (case h1 => with_reducible assumption); (case h2 => with_reducible assumption); (case h5 => walk_at "key"); (case h3 => rfl); (case h4 => exact kN); (case h6 => rfl); (case h7 => trivial); (case h9 => walk_at "vis"); (case h10 => decide); (case h11 => decide)))
local macro_rules | `(tactic| walk_at "ob") => `(tactic| first
  | (refine ⟨Nat.le_of_ble_eq_true rfl, ?_⟩; try dsimp only [List.set])
  | (refine ⟨_, rfl, Nat.le_of_ble_eq_true rfl, ?_⟩; try dsimp only [List.set])
  | (refine ⟨_, rfl, trivial, Nat.le_of_ble_eq_true rfl, Nat.le_of_ble_eq_true rfl, ?_⟩; try dsimp only [List.set])
  | (refine ⟨_, _, rfl, Nat.le_of_ble_eq_true rfl, Nat.le_of_ble_eq_true rfl, ?_⟩; try dsimp only [List.set])
  | (refine ⟨_, _, _, rfl, Nat.le_of_ble_eq_true rfl, Nat.le_of_ble_eq_true rfl, Nat.le_of_ble_eq_true rfl, ?_⟩; try dsimp only [List.set])
  | refine ⟨fun _ => ?_, fun h => Bool.noConfusion h⟩
  | refine ⟨fun h => Bool.noConfusion h, fun _ => ?_⟩
  | refine ⟨_, rfl, ?_⟩
  | refine ⟨_, _, rfl, rfl, ?_⟩
  | refine ⟨_, _, _, _, rfl, rfl, rfl, ?_⟩
  | (refine ⟨_, _, _, ?dd, rfl, rfl, rfl, ?hh, ?_⟩; (case hh => walk_at "kit"))
  | (refine ⟨_, _, ?dd, rfl, rfl, ?hh, ?_⟩; (case hh => first | walk_at "add" | walk_at "mul" | walk_at "cmp"))
  | (refine ⟨_, ?dd, rfl, ?hh, ?_⟩; (case hh => walk_at "sl"))
  | (refine ⟨_, _, ?dd, rfl, rfl, ?hh, ?ii, ?_⟩; (case hh => first | with_reducible assumption | with_reducible exact at2_0 | with_reducible exact at2_1 | with_reducible exact at3_0 | with_reducible exact at3_1 | with_reducible exact at3_2); (case ii => trivial))
  | (refine ⟨fun _ => ?_, ?hx⟩; (case hx => (intro h; exfalso; (first | ((simp only [decide_eq_false_iff_not, decide_eq_true_eq, Bool.not_eq_true', Bool.not_eq_false'] at h); omega) | ((simp at h); done)))))
  | (refine ⟨?hx, fun _ => ?_⟩; (case hx => (intro h; exfalso; (first | ((simp only [decide_eq_false_iff_not, decide_eq_true_eq, Bool.not_eq_true', Bool.not_eq_false'] at h); omega) | ((simp at h); done)))))
  | ((with_reducible refine And.intro ?hh ?_); (case hh => walk_at "cost")))
local macro_rules | `(tactic| walk_at "gWSs") => `(tactic| first
  | with_reducible refine wss_nil ?_
  | with_reducible refine wss_one ?_
  | with_reducible refine wss_cons ?_)
local macro_rules | `(tactic| walk_at "gWS") => `(tactic| first
  | with_reducible refine ws_if ?_
  | with_reducible refine ws_ret ?_
  | ((with_reducible refine' ws_set ?h1 ?h2 ?h3 ?h4 ?_ ?h6 ?h7); (case h1 => with_reducible assumption); (case h2 => with_reducible assumption); (case h3 => walk_at "loc"); (case h4 => walk_at "pin"); (case h6 => rfl); (case h7 => exact .inl rfl))
  | ((with_reducible refine' ws_augI ?h1 ?h2 ?h3 ?h4 ?h5 ?_ ?h7); (case h1 => with_reducible assumption); (case h2 => with_reducible assumption); (case h3 => rfl); (case h4 => walk_at "loc"); (case h5 => walk_at "pin"); (case h7 => exact .inl rfl))
  | ((with_reducible refine' ws_asg2 ?h1 ?h2 ?h3 ?h4 ?h5 ?h6 ?h7 ?_ ?h9 ?h10 ?h11 ?h12); (case h1 => with_reducible assumption); (case h2 => with_reducible assumption); (case h3 => with_reducible assumption); (case h4 => walk_at "loc"); (case h5 => walk_at "loc"); (case h6 => walk_at "pin"); (case h7 => walk_at "pin"); (case h9 => exact .inl rfl); (case h10 => exact .inl rfl); (case h11 => rfl); (case h12 => rfl))
  | ((with_reducible refine' ws_dput ?h1 ?h2 ?_ ?h4 ?h5 ?h6 ?h7); (case h1 => with_reducible assumption); (case h2 => with_reducible assumption); (case h4 => rfl); (case h5 => walk_at "vis"); (case h6 => decide); (case h7 => decide))
  | ((with_reducible refine' ws_asg ?_ ?h2 ?h3 ?h4); (case h2 => rfl); (case h3 => rfl); (case h4 => rfl))
  | ((with_reducible refine ws_expr ?_ ?h2); (case h2 => rfl))
  | with_reducible refine ws_pass ?_)
local macro_rules | `(tactic| walk_at "gWG") => `(tactic| first
  | ((with_reducible refine' wg_name ?h1 ?h2 ?h3 ?h4 ?h5 ?_ ?h7); (case h1 => with_reducible assumption); (case h2 => with_reducible assumption); (case h3 => walk_at "loc"); (case h4 => walk_at "pin"); (case h5 => exact Nat.le_of_ble_eq_true rfl); (case h7 => exact .inl rfl); (try dsimp only [List.set]))
  | ((with_reducible refine' wg_pair ?a1 ?a2 ?a3 ?a4 ?a5 ?a6 ?a7 ?a8 ?a9 ?b1 ?_ ?b3 ?b4 ?b5 ?b6 ?b7); (case a1 => rfl); (case a2 => with_reducible assumption); (case a3 => with_reducible assumption); (case a4 => with_reducible assumption); (case a5 => walk_at "loc"); (case a6 => walk_at "loc"); (case a7 => walk_at "pin"); (case a8 => walk_at "pin"); (case a9 => exact Nat.le_of_ble_eq_true rfl); (case b1 => exact Nat.le_of_ble_eq_true rfl); (case b3 => exact .inl rfl); (case b4 => exact .inl rfl); (case b5 => exact fun t h => pg_tup rfl h); (case b6 => exact fun t u h1 h2 => pgs_cons h1 h2); (case b7 => exact fun t h => pgs_cons h pgs_nil); (try dsimp only [List.set])))
local macro_rules | `(tactic| walk_at "gENm") => `(tactic| first
  | ((with_reducible refine' we_name ?h1 ?h2 ?h3 ?_ ?h5 ?h6 ?h7); (case h1 => with_reducible assumption); (case h2 => rfl); (case h3 => walk_at "imm"); (case h5 => walk_at "vis"); (case h6 => decide); (case h7 => decide))
  | ((with_reducible refine' we_move ?h1 ?h2 ?_ ?h5 ?h6 ?h7); (case h1 => with_reducible assumption); (case h2 => rfl); (case h5 => walk_at "vis"); (case h6 => decide); (case h7 => decide); (try dsimp only [List.set])))
local macro_rules | `(tactic| walk_at "gWE") => `(tactic| first
  | with_reducible refine we_of ?_)
local macro_rules | `(tactic| walk_at "gName") => `(tactic| first
  | ((with_reducible refine' wo_nameI ?h1 ?h2 ?h3 ?_ ?h5 ?h6 ?h7); (case h1 => with_reducible assumption); (case h2 => rfl); (case h3 => walk_at "imm"); (case h5 => walk_at "vis"); (case h6 => decide); (case h7 => decide))
  | ((with_reducible refine' wo_name ?h1 ?h2 ?_ ?h5 ?h6 ?h7); (case h1 => with_reducible assumption); (case h2 => rfl); (case h5 => walk_at "vis"); (case h6 => decide); (case h7 => decide))
  | ((with_reducible refine' wo_gint ?h1 ?h2 ?_ ?h4); (case h1 => rfl); (case h2 => with_reducible assumption); (case h4 => decide))
  | ((with_reducible refine' wo_tyn ?h1 ?h2 ?h3 ?_ ?h5 ?h6); (case h1 => rfl); (case h2 => with_reducible assumption); (case h3 => walk_at "boot"); (case h5 => decide); (case h6 => decide)))
local macro_rules | `(tactic| walk_at "gCon") => `(tactic| first
  | with_reducible refine wo_int ?_
  | with_reducible refine wo_non ?_
  | with_reducible refine wo_bl ?_
  | with_reducible refine wo_str ?_)
local macro_rules | `(tactic| walk_at "gBin") => `(tactic| first
  | with_reducible refine wo_addD ?_
  | with_reducible refine wo_sub ?_
  | with_reducible refine wo_mulD ?_
  | with_reducible refine wo_mod ?_
  | with_reducible refine wo_fdiv ?_
  | with_reducible refine wo_pow ?_
  | with_reducible refine wo_shl ?_)
local macro_rules | `(tactic| walk_at "gBool") => `(tactic| first
  | with_reducible refine wo_and ?_
  | with_reducible refine wo_or ?_
  | with_reducible refine wo_bone ?_)
local macro_rules | `(tactic| walk_at "gCmp") => `(tactic| first
  | ((with_reducible refine wo_chain ?_ ?h2); (case h2 => with_unfolding_all rfl))
  | ((with_reducible refine wo_cmpD ?h1 ?_); (case h1 => walk_at "mark")))
local macro_rules | `(tactic| walk_at "gSub") => `(tactic| first
  | walk_at "dg"
  | with_reducible refine wo_slD ?_
  | with_reducible refine wo_revL ?_
  | ((with_reducible refine wo_ix ?h1 ?_); (case h1 => exact fun _ _ => rfl)))
local macro_rules | `(tactic| walk_at "gCalN") => `(tactic| first
  | ((with_reducible refine wo_sortedS ?h1 ?h2 ?_ ?h4); (case h1 => rfl); (case h2 => with_reducible assumption); (case h4 => rfl))
  | ((with_reducible refine' wo_c0 ?h1 ?h2 ?h3 ?h4 ?_ ?h6 ?h7 ?h8); (case h1 => with_reducible assumption); (case h2 => with_reducible assumption); (case h3 => decide); (case h4 => rfl); (case h6 => decide); (case h7 => rfl); (case h8 => rfl))
  | ((with_reducible refine' wo_c1 ?h1 ?h2 ?h3 ?h4 ?_ ?h6 ?h7 ?h8); (case h1 => with_reducible assumption); (case h2 => with_reducible assumption); (case h3 => decide); (case h4 => rfl); (case h6 => decide); (case h7 => rfl); (case h8 => rfl))
  | ((with_reducible refine wo_len ?h1 ?h2 ?_ ?h4); (case h1 => rfl); (case h2 => with_reducible assumption); (case h4 => rfl))
  | ((with_reducible refine wo_abs ?h1 ?h2 ?_ ?h4); (case h1 => rfl); (case h2 => with_reducible assumption); (case h4 => rfl))
  | ((with_reducible refine wo_intI ?h1 ?h2 ?_ ?h4); (case h1 => rfl); (case h2 => with_reducible assumption); (case h4 => rfl))
  | ((have hmode : PtMode := by with_reducible assumption); (with_reducible refine wo_tupleF ?h1 ?h2 ?_ ?h4); (case h1 => rfl); (case h2 => with_reducible assumption); (case h4 => rfl))
  | ((with_reducible refine wo_tuple ?h1 ?h2 ?_ ?h4); (case h1 => rfl); (case h2 => with_reducible assumption); (case h4 => rfl))
  | ((with_reducible refine wo_listR1 rfl ?h1 ?h2 ?h3 ?h5 ?_ ?h4 ?h6); (case h1 => rfl); (case h2 => with_reducible assumption); (case h3 => rfl); (case h5 => with_reducible assumption); (case h4 => rfl); (case h6 => rfl))
  | ((with_reducible refine wo_list ?h1 ?h2 ?_ ?h4); (case h1 => rfl); (case h2 => with_reducible assumption); (case h4 => rfl))
  | ((with_reducible refine wo_all ?h0 ?h1 ?h2 ?_ ?h4); (case h0 => rfl); (case h1 => rfl); (case h2 => with_reducible assumption); (case h4 => rfl))
  | ((with_reducible refine wo_isi2 ?h1 ?h2 ?_ ?h4 ?h5); (case h1 => rfl); (case h2 => with_reducible assumption); (case h4 => rfl); (case h5 => rfl)))
local macro_rules | `(tactic| walk_at "gCalA") => `(tactic| first
  | ((with_reducible refine' wo_dpop ?h1 ?h2 ?h3 ?h4 ?h5 ?h6 ?_ ?h8 ?h9 ?h10 ?h11); (case h1 => with_reducible assumption); (case h2 => with_reducible assumption); (case h5 => walk_at "key"); (case h3 => rfl); (case h4 => exact kN); (case h6 => rfl); (case h8 => exact fun t ht => pe_bm PySem.F.plainAttrs_list PySem.F.slot_list_pop PySem.F.type_list_pop mt_popAt ht (pa_cons pe_int pa_nil)); (case h9 => walk_at "vis"); (case h10 => decide); (case h11 => decide))
  | ((with_reducible refine' wo_append ?h1 ?h2 ?_ ?h4 ?h5 ?h6); (case h1 => with_reducible assumption); (case h2 => exact ⟨_, rfl⟩); (case h4 => exact pe_slot (by with_reducible assumption)); (case h5 => exact pe_bm PySem.F.plainAttrs_list PySem.F.slot_list_append PySem.F.type_list_append mt_append (pe_slot (by with_reducible assumption)) pa_w); (case h6 => rfl))
  | ((with_reducible refine' wo_insert ?h2 ?_ ?h4 ?h5 ?h6 ?h7); (case h4 => rfl); (case h5 => exact pe_bm PySem.F.plainAttrs_list PySem.F.slot_list_insert PySem.F.type_list_insert mt_insert (pe_slot (by with_reducible assumption)) pa_w); (case h2 => exact ⟨_, rfl⟩); (case h6 => rfl); (case h7 => rfl))
  | ((with_reducible refine' wo_popAt ?h1 ?_ ?h3 ?h4); (case h3 => exact pe_bm PySem.F.plainAttrs_list PySem.F.slot_list_pop PySem.F.type_list_pop mt_popAt (pe_slot (by with_reducible assumption)) pa_w); (case h1 => exact ⟨_, rfl⟩); (case h4 => rfl))
  | ((have hmode : PtMode := by with_reducible assumption); (with_reducible refine wo_tix ?_ ?h2 ?h3 ?h4 ?h5); (case h2 => rfl); (case h3 => rfl); (case h4 => rfl); (case h5 => rfl))
  | ((with_reducible refine' wo_indexI ?_ ?h5 ?h6); (case h5 => exact pe_bm PySem.F.plainAttrs_list PySem.F.slot_list_index PySem.F.type_list_index mt_index pe_w pa_w); (case h6 => rfl))
  | ((with_reducible refine' wo_pop ?h1 ?h2 ?h3 ?_ ?h5); (case h1 => rfl); (case h5 => exact pe_bm0 PySem.F.plainAttrs_list PySem.F.slot_list_pop PySem.F.type_list_pop mt_pop (pe_slot (by with_reducible assumption)))))
local macro_rules | `(tactic| walk_at "gWO") => `(tactic| first
  | with_reducible refine wo_not ?_
  | with_reducible refine wo_if ?_
  | with_reducible refine wo_lst ?_
  | with_reducible refine wo_tup ?_)
local macro_rules | `(tactic| walk_at "gWT") => `(tactic| first
  | ((with_reducible refine' wt_dne ?h1 ?h2 ?h3 ?h4 ?h5 ?h6 ?_ ?h9 ?h10 ?h11); (case h1 => with_reducible assumption); (case h2 => with_reducible assumption); (case h5 => walk_at "key"); (case h3 => rfl); (case h4 => exact kN); (case h6 => rfl); (case h9 => walk_at "vis"); (case h10 => decide); (case h11 => decide))
  | with_reducible refine wt_not ?_
  | with_reducible refine wt_bool ?_
  | ((with_reducible refine wt_chain ?_ ?h2); (case h2 => with_unfolding_all rfl))
  | ((with_reducible refine wt_cmpD ?h1 ?_); (case h1 => walk_at "mark"))
  | ((with_reducible refine wt_val ?_ ?h2); (case h2 => exact fun _ => rfl)))
local macro_rules | `(tactic| walk_at "gWW") => `(tactic| first
  | with_reducible refine ww_and ?_
  | with_reducible refine ww_and1 ?_
  | with_reducible refine ww_or ?_
  | with_reducible refine ww_or1 ?_)
local macro_rules | `(tactic| walk_at "gWA") => `(tactic| first
  | ((with_reducible refine wa_star ?_ ?h2); (case h2 => rfl))
  | ((with_reducible refine wa_cons ?_ ?h2); (case h2 => rfl))
  | with_reducible refine wa_nil ?_)
local macro_rules | `(tactic| walk_at "rest") => `(tactic| first
  | with_reducible refine wvs_cons ?_
  | with_reducible refine wvs_nil ?_
  | with_reducible refine wp_none ?_
  | with_reducible refine wp_some ?_
  | ((with_reducible refine' wtc_link ?h1 ?_); (case h1 => walk_at "ci"))
  | ((with_reducible refine' wtc_last ?h1 ?_); (case h1 => walk_at "ci")))
local macro_rules | `(tactic| walk_at "d") => `(tactic| first
  | ((with_reducible refine gWSs ?_); walk_at "gWSs")
  | ((with_reducible refine gWS ?_); walk_at "gWS")
  | ((with_reducible refine gWG ?_); walk_at "gWG")
  | ((with_reducible refine gENm ?_); walk_at "gENm")
  | ((with_reducible refine gWE ?_); walk_at "gWE")
  | ((with_reducible refine gName ?_); walk_at "gName")
  | ((with_reducible refine gCon ?_); walk_at "gCon")
  | ((with_reducible refine gBin ?_); walk_at "gBin")
  | ((with_reducible refine gBool ?_); walk_at "gBool")
  | ((with_reducible refine gCmp ?_); walk_at "gCmp")
  | ((with_reducible refine gSub ?_); walk_at "gSub")
  | ((with_reducible refine gCalN ?_); walk_at "gCalN")
  | ((with_reducible refine gCalA ?_); walk_at "gCalA")
  | ((with_reducible refine gWO ?_); walk_at "gWO")
  | ((with_reducible refine gWT ?_); walk_at "gWT")
  | ((with_reducible refine gWW ?_); walk_at "gWW")
  | ((with_reducible refine gWA ?_); walk_at "gWA")
  | walk_at "rest"
  | walk_at "ob")
local macro_rules | `(tactic| walk_at "go") => `(tactic| repeat walk_at "d")

/-! ### promises -/
def ct_is_whole : Ct := ⟨Int, fun i ds => ds = [.int i] ∧ 0 ≤ i ∧ i < 1000000000000000000, fun i d _ => d = .bl true⟩
def ct_is_number : Ct := ⟨Int × Int, fun i ds => ds = [.int i.1, .int i.2] ∧ 0 ≤ i.1 ∧ i.1 < 1000000000000000000, fun i d _ => d = .bl (decide (i.2 ≤ i.1))⟩
section
variable {P : Program} {w : World} {K : PySem.W.Frag} {mg : Str → Option Value} {base : Heap}
theorem cal_is_whole (Z : Fz K mg) : Cal P w K mg base 1 "is_whole" (toSp K 0 ct_is_whole) := by
  refine cal_of Z.d_is_whole sc_is_whole (fun a ds h => by rw [h.1]; rfl) (by decide) ?_
  intro f cdv A outer s H E hr (a : Int ) ds hp X
  have hNd : X.N.Nodup := sc_is_whole.nd
  have hN0 : X.N[0]? = some ("value" : Str) := rfl
  have hR : Room 0 X.A := hr
  have hu64 : X.A.units + 64 < cLine := by have := hR.un; omega
  have hu1 : X.A.units + 1 < cLine := by have := hR.un; omega
  have m_isinstance : X.mg "isinstance" = none := Z.b_isinstance
  have m_int : X.mg "int" = none := Z.b_int
  obtain ⟨t_MOST_NUMBER, g_MOST_NUMBER⟩ : ∃ t, X.mg "MOST_NUMBER" = some (.int G_MOST_NUMBER t) := Z.g_MOST_NUMBER
  have m_bool : X.mg "bool" = none := Z.b_bool
  have m_abs : X.mg "abs" = none := Z.b_abs
  obtain ⟨hds, hp⟩ := hp
  subst hds
  show WSs X [] (_ :: _) [ some (D.int a)] _
  walk_at "go"
  refine ⟨[], rfl, congrArg D.bl (decide_eq_true ?_)⟩
  unfold G_MOST_NUMBER
  split <;> omega
theorem cal_is_number (Z : Fz K mg) : Cal P w K mg base 2 "is_number" (toSp K 0 ct_is_number) := by
  refine cal_of Z.d_is_number sc_is_number (fun a ds h => by rw [h.1]; rfl) (by decide) ?_
  intro f cdv A outer s H E hr (a : Int × Int ) ds hp X
  have hNd : X.N.Nodup := sc_is_number.nd
  have hN0 : X.N[0]? = some ("value" : Str) := rfl
  have hN1 : X.N[1]? = some ("low" : Str) := rfl
  have hR : Room 1 X.A := hr
  have hu64 : X.A.units + 64 < cLine := by have := hR.un; omega
  have hu1 : X.A.units + 1 < cLine := by have := hR.un; omega
  have c_is_whole : Cal X.prog X.w X.K X.mg X.base 1 "is_whole" (toSp X.K 0 ct_is_whole) := cal_is_whole Z
  obtain ⟨hds, hp⟩ := hp
  subst hds
  show WSs X [] (_ :: _) [ some (D.int a.1), some (D.int a.2)] _
  walk_at "go"
  refine ⟨a.1, ⟨rfl, hp⟩, fun d hd => ?_⟩
  subst hd
  walk_at "go"
  exact ⟨[], rfl, rfl⟩
end
end K23


/-! the plain law of k23 -/
namespace KP
def gapF (m : Int) (st : List Int) (p : Nat) : Int := st.getD (p + 1) m - st.getD p 0 - 1
def tightF (m : Int) (st : List Int) (left : Nat) : Option Nat := (List.range st.length).find? fun p => decide (gapF m st p < 2 ^ left - 1)
structure OkS (m : Int) (st : List Int) : Prop where
  m1 : 1 ≤ m
  m2 : m < 1000000000000000000
  ne : st ≠ []
  inc : st.Pairwise (fun a b => a < b)
  lo : ∀ x ∈ st, 0 ≤ x
  hi : ∀ x ∈ st, x < m
  len : st.length ≤ 1000
def putF (st : List Int) (p : Nat) (l : Int) : List Int := st.take (p + 1) ++ l :: st.drop (p + 1)
def All (m : Int) (st : List Int) (n : Nat) : Prop := ∀ p, p < st.length → 2 ^ n - 1 ≤ gapF m st p
theorem putF_len {st : List Int} {p : Nat} {l : Int} (h : p < st.length) : (putF st p l).length = st.length + 1 := by
  unfold putF; simp; omega
theorem putF_get {st : List Int} {p : Nat} {l d : Int} (h : p < st.length) (q : Nat) : (putF st p l).getD q d = if q ≤ p then st.getD q d else if q = p + 1 then l else st.getD (q - 1) d := by
  unfold putF
  have hl : (st.take (p + 1)).length = p + 1 := by rw [List.length_take]; omega
  simp only [List.getD_eq_getElem?_getD]
  by_cases h1 : q ≤ p
  · rw [if_pos h1, List.getElem?_append_left (by omega), List.getElem?_take, if_pos (by omega)]
  · rw [if_neg h1, List.getElem?_append_right (by omega), hl]
    by_cases h2 : q = p + 1
    · subst h2
      simp
    · rw [if_neg h2]
      obtain ⟨j, hj⟩ : ∃ j, q - (p + 1) = j + 1 := ⟨q - (p + 1) - 1, by omega⟩
      rw [hj, List.getElem?_cons_succ, List.getElem?_drop]
      congr 2
      omega
theorem gap_nn {m : Int} {st : List Int} (ok : OkS m st) {p : Nat} (h : p < st.length) : 0 ≤ gapF m st p := by
  unfold gapF
  have e1 : st.getD p 0 = st[p] := by rw [List.getD_eq_getElem?_getD, List.getElem?_eq_getElem h]; rfl
  by_cases h2 : p + 1 < st.length
  · have e2 : st.getD (p + 1) m = st[p + 1] := by rw [List.getD_eq_getElem?_getD, List.getElem?_eq_getElem h2]; rfl
    have := List.pairwise_iff_getElem.mp ok.inc p (p + 1) h h2 (by omega)
    omega
  · have e2 : st.getD (p + 1) m = m := by rw [List.getD_eq_getElem?_getD, List.getElem?_eq_none_iff.mpr (by omega)]; rfl
    have := ok.hi st[p] (List.getElem_mem h)
    omega
theorem gap_put {m : Int} {st : List Int} {p : Nat} {i : Int} (h : p < st.length) (q : Nat) (hq : q < st.length + 1) :
    gapF m (putF st p (st.getD p 0 + 1 + i)) q = if q < p then gapF m st q else if q = p then i else if q = p + 1 then gapF m st p - 1 - i else gapF m st (q - 1) := by
  unfold gapF
  rw [putF_get h, putF_get h]
  by_cases h1 : q < p
  · rw [if_pos (show q + 1 ≤ p by omega), if_pos (show q ≤ p by omega), if_pos h1]
  · rw [if_neg h1]
    by_cases h2 : q = p
    · subst h2
      simp
      omega
    · rw [if_neg h2]
      by_cases h3 : q = p + 1
      · subst h3
        simp
        omega
      · rw [if_neg h3]
        obtain ⟨j, rfl⟩ : ∃ j, q = p + 2 + j := ⟨q - p - 2, by omega⟩
        rw [if_neg (by omega), if_neg (by omega), if_neg (by omega), if_neg (by omega)]
        have e1 : p + 2 + j + 1 - 1 = p + 2 + j - 1 + 1 := by omega
        rw [e1]
theorem putF_ok {m : Int} {st : List Int} (ok : OkS m st) {p : Nat} (h : p < st.length) {i : Int} (h0 : 0 ≤ i) (h1 : i < gapF m st p) (hl : st.length < 1000) : OkS m (putF st p (st.getD p 0 + 1 + i)) := by
  have e1 : st.getD p 0 = st[p] := by rw [List.getD_eq_getElem?_getD, List.getElem?_eq_getElem h]; rfl
  have lo := ok.lo st[p] (List.getElem_mem h)
  have upper : ∀ x ∈ st.drop (p + 1), st.getD p 0 + 1 + i < x := by
    intro x hx
    obtain ⟨j, hj, rfl⟩ := List.getElem_of_mem hx
    rw [List.length_drop] at hj
    rw [List.getElem_drop]
    have h2 : p + 1 < st.length := by omega
    have e2 : st.getD (p + 1) m = st[p + 1] := by rw [List.getD_eq_getElem?_getD, List.getElem?_eq_getElem h2]; rfl
    unfold gapF at h1
    rw [e2] at h1
    have : st[p + 1] ≤ st[p + 1 + j] := by
      by_cases z : j = 0
      · subst z; simp
      · have := List.pairwise_iff_getElem.mp ok.inc (p + 1) (p + 1 + j) h2 (by omega) (by omega)
        omega
    omega
  have lower : ∀ x ∈ st.take (p + 1), x < st.getD p 0 + 1 + i := by
    intro x hx
    obtain ⟨j, hj, rfl⟩ := List.getElem_of_mem hx
    rw [List.length_take] at hj
    rw [List.getElem_take]
    by_cases z : j = p
    · subst z; omega
    · have := List.pairwise_iff_getElem.mp ok.inc j p (by omega) h (by omega)
      omega
  have ltm : st.getD p 0 + 1 + i < m := by
    by_cases h2 : p + 1 < st.length
    · have := upper st[p + 1] (by rw [List.mem_drop_iff_getElem]; exact ⟨0, by omega, by simp⟩)
      have := ok.hi st[p + 1] (List.getElem_mem h2)
      omega
    · have e2 : st.getD (p + 1) m = m := by rw [List.getD_eq_getElem?_getD, List.getElem?_eq_none_iff.mpr (by omega)]; rfl
      unfold gapF at h1
      omega
  refine ⟨ok.m1, ok.m2, by unfold putF; simp, ?_, fun x hx => ?_, fun x hx => ?_, by rw [putF_len h]; omega⟩
  · unfold putF
    rw [List.pairwise_append]
    refine ⟨ok.inc.sublist (List.take_sublist _ _), ?_, fun a ha b hb => ?_⟩
    · rw [List.pairwise_cons]
      exact ⟨upper, ok.inc.sublist (List.drop_sublist _ _)⟩
    · rcases List.mem_cons.mp hb with e | hb
      · rw [e]; exact lower a ha
      · exact Int.lt_trans (lower a ha) (upper b hb)
  · unfold putF at hx
    rcases List.mem_append.mp hx with q | q
    · exact ok.lo x (List.take_subset _ _ q)
    · rcases List.mem_cons.mp q with e | q
      · rw [e]; omega
      · exact ok.lo x (List.drop_subset _ _ q)
  · unfold putF at hx
    rcases List.mem_append.mp hx with q | q
    · exact ok.hi x (List.take_subset _ _ q)
    · rcases List.mem_cons.mp q with e | q
      · rw [e]; exact ltm
      · exact ok.hi x (List.drop_subset _ _ q)
/-- put at the middle: all gaps stay great -/
theorem all_put {m : Int} {st : List Int} {n p : Nat} (ok : OkS m st) (h : p < st.length) (ha : All m st (n + 1)) {i : Int} (h0 : 2 ^ n - 1 ≤ i) (h1 : 2 ^ n - 1 ≤ gapF m st p - 1 - i) : All m (putF st p (st.getD p 0 + 1 + i)) n := by
  intro q hq
  rw [putF_len h] at hq
  rw [gap_put h q hq]
  have pw : (2 : Int) ^ (n + 1) = 2 * 2 ^ n := by rw [Int.pow_succ]; omega
  have pp : (0 : Int) < 2 ^ n := Int.pow_pos (by decide)
  split
  · have := ha q (by omega); omega
  · split
    · exact h0
    · split
      · exact h1
      · have := ha (q - 1) (by omega); omega
theorem all_of_put {m : Int} {st : List Int} {n p : Nat} (h : p < st.length) {i : Int} (ha : All m (putF st p (st.getD p 0 + 1 + i)) n) : 2 ^ (n + 1) - 1 ≤ gapF m st p := by
  have a1 := ha p (by rw [putF_len h]; omega)
  have a2 := ha (p + 1) (by rw [putF_len h]; omega)
  rw [gap_put h p (by omega)] at a1
  rw [gap_put h (p + 1) (by omega)] at a2
  have pw : (2 : Int) ^ (n + 1) = 2 * 2 ^ n := by rw [Int.pow_succ]; omega
  simp at a1 a2
  omega
def goesB (m : Int) : Nat → List Int → Bool
  | 0, _ => true
  | n + 1, st => (List.range st.length).all fun p => (List.range (gapF m st p).toNat).any fun i => goesB m n (putF st p (st.getD p 0 + 1 + (i : Int)))
theorem goes_iff {m : Int} : ∀ {n : Nat} {st : List Int}, OkS m st → st.length + n ≤ 1000 → (goesB m n st = true ↔ All m st n)
  | 0, st, ok, _ => by
    refine ⟨fun _ p hp => ?_, fun _ => rfl⟩
    have := gap_nn ok hp
    simpa using this
  | n + 1, st, ok, hl => by
    unfold goesB
    rw [List.all_eq_true]
    constructor
    · intro h p hp
      have h1 := h p (List.mem_range.mpr hp)
      rw [List.any_eq_true] at h1
      obtain ⟨i, hi, h2⟩ := h1
      rw [List.mem_range] at hi
      exact all_of_put hp ((goes_iff (putF_ok ok hp (by omega) (by omega) (by omega)) (by rw [putF_len hp]; omega)).mp h2)
    · intro ha p hp
      rw [List.mem_range] at hp
      have h1 := ha p hp
      have pw : (2 : Int) ^ (n + 1) = 2 * 2 ^ n := by rw [Int.pow_succ]; omega
      have pp : (0 : Int) < 2 ^ n := Int.pow_pos (by decide)
      have pc : (((2 ^ n - 1 : Int).toNat : Nat) : Int) = 2 ^ n - 1 := by omega
      rw [List.any_eq_true]
      refine ⟨(2 ^ n - 1 : Int).toNat, by rw [List.mem_range]; omega, ?_⟩
      refine (goes_iff (putF_ok ok hp (by omega) (by omega) (by omega)) (by rw [putF_len hp]; omega)).mpr ?_
      rw [pc]
      exact all_put ok hp ha (Int.le_refl _) (by omega)
theorem tight_none {m : Int} {st : List Int} {n : Nat} : tightF m st n = none ↔ All m st n := by
  unfold tightF All
  rw [List.find?_eq_none]
  constructor
  · intro h p hp
    have := h p (List.mem_range.mpr hp)
    simpa using this
  · intro h p hp
    rw [List.mem_range] at hp
    have := h p hp
    simp
    omega
theorem tight_some {m : Int} {st : List Int} {n p : Nat} (h : tightF m st n = some p) : p < st.length ∧ gapF m st p < 2 ^ n - 1 := by
  unfold tightF at h
  have h1 := List.find?_some h
  have h2 := List.mem_of_find?_eq_some h
  rw [List.mem_range] at h2
  exact ⟨h2, by simpa using h1⟩
/-- into a tight gap: a tight gap stays -/
theorem tight_put {m : Int} {st : List Int} {n p : Nat} (h : tightF m st (n + 1) = some p) {i : Int} : ∃ q, tightF m (putF st p (st.getD p 0 + 1 + i)) n = some q := by
  obtain ⟨h1, h2⟩ := tight_some h
  cases e : tightF m (putF st p (st.getD p 0 + 1 + i)) n with
  | some q => exact ⟨q, rfl⟩
  | none =>
    have := all_of_put h1 (tight_none.mp e)
    omega
theorem tight_zero {m : Int} {i : Nat} : tightF m [0] i = if m < 2 ^ i then some 0 else none := by
  have e : List.range ([0] : List Int).length = [0] := rfl
  have g : gapF m [0] 0 = m - 0 - 1 := rfl
  unfold tightF
  rw [e, List.find?_cons]
  by_cases h : m < 2 ^ i
  · have d : decide (gapF m [0] 0 < 2 ^ i - 1) = true := decide_eq_true (by rw [g]; omega)
    rw [if_pos h, d]
  · have d : decide (gapF m [0] 0 < 2 ^ i - 1) = false := decide_eq_false (by rw [g]; omega)
    rw [if_neg h, d]
    rfl
theorem two_le {i : Nat} (h : 1 ≤ i) : (2 : Int) ≤ 2 ^ i := by
  have : (2 : Nat) ^ 1 ≤ 2 ^ i := Nat.pow_le_pow_right (by decide) h
  exact_mod_cast this
end KP

namespace K23
open PySem PySem.Spec L2 DL Ln
open PyProof.Rows (envOfC)
local macro_rules | `(tactic| walk_at "imm") => `(tactic| first | assumption | trivial | exact imms_ints | exact imms_pairs | (simp only [Imm, Imms]; done) | exact ⟨trivial, trivial⟩ | exact ⟨trivial, imms_ints⟩ | exact imms_cut imms_ints | exact imms_app imms_ints ⟨trivial, trivial⟩ | exact imms_app (imms_cut imms_ints) ⟨trivial, trivial⟩ | exact imms_app (imms_app (imms_cut imms_ints) ⟨trivial, trivial⟩) (imms_cut imms_ints))
local macro_rules | `(tactic| walk_at "add") => `(tactic| first | exact AddD.int | exact AddD.lst (by walk_at "imm") (by walk_at "imm") (by first | assumption | (simp; omega)) | ((refine AddD.tup ?at1 ?at2 ?at3 ?at4 ?at5); (case at1 => rfl); (case at2 => rfl); (case at3 => walk_at "imm"); (case at4 => walk_at "imm"); (case at5 => first | with_reducible assumption | (simp; omega))))
local macro_rules | `(tactic| walk_at "cost") => `(tactic| first | with_reducible assumption | (with_reducible exact cpow (by omega) (by omega) (by omega) (by omega)) | (with_reducible exact cdivw (by omega) (by omega)) | (with_reducible exact cmul1 (by omega) (by omega)) | (with_reducible exact cmul2 (by omega) (by omega)) | with_reducible exact imms_ints | omega)
local macro_rules | `(tactic| walk_at "mul") => `(tactic| ((refine MulD.int ?_); walk_at "cost"))
local macro_rules | `(tactic| walk_at "cmp") => `(tactic| first | with_reducible exact cmp_lt | with_reducible exact cmp_le | with_reducible exact cmp_gt | with_reducible exact cmp_ge | with_reducible exact cmp_eqI | with_reducible exact cmp_neI | with_reducible exact cmp_isN | with_reducible exact cmp_notN | ((with_reducible refine cmp_neLL ?_); with_reducible assumption) | ((with_reducible refine cmp_neTT ?_); with_reducible assumption) | ((with_reducible refine cmp_nePT ?_); with_reducible assumption) | ((with_reducible refine cmp_eqLL ?_); with_reducible assumption) | ((with_reducible refine cmp_eqLN ?_); with_reducible assumption) | ((with_reducible refine cmp_neLN ?_); with_reducible assumption) | ((with_reducible refine cmp_neP ?_); with_reducible assumption) | ((with_reducible refine cmp_eqN ?_); with_reducible assumption) | with_reducible exact cmp_notB | with_reducible exact cmp_neB | with_reducible exact cmp_eqB | with_reducible exact cmp_inL | with_reducible exact cmp_inF | with_reducible exact cmp_inT | with_reducible exact cmp_inP | with_reducible exact cmp_niL | with_reducible exact cmp_niF | with_reducible exact cmp_niT | with_reducible exact cmp_niP | exact cmp_lt | exact cmp_le | exact cmp_gt | exact cmp_ge | exact cmp_eqI | exact cmp_neI | exact cmp_isN | exact cmp_notN | ((refine cmp_neLL ?_); with_reducible assumption) | ((refine cmp_neTT ?_); with_reducible assumption) | ((refine cmp_nePT ?_); with_reducible assumption) | ((refine cmp_eqLL ?_); with_reducible assumption) | ((refine cmp_eqLN ?_); with_reducible assumption) | ((refine cmp_neLN ?_); with_reducible assumption) | ((refine cmp_neP ?_); with_reducible assumption) | ((refine cmp_eqN ?_); with_reducible assumption) | exact cmp_notB | exact cmp_neB | exact cmp_eqB | exact cmp_inL | exact cmp_inF | exact cmp_inT | exact cmp_inP | exact cmp_niL | exact cmp_niF | exact cmp_niT | exact cmp_niP)
local macro_rules | `(tactic| walk_at "ci") => `(tactic| first | exact cmpi_lt | exact cmpi_le | exact cmpi_gt | exact cmpi_ge)
local macro_rules | `(tactic| walk_at "sl") => `(tactic| first | ((refine sl_t ?_); walk_at "imm") | ((refine sl_p ?_); walk_at "imm") | ((refine sl_l ?_); walk_at "imm") | ((refine sl_f ?_); walk_at "imm"))
local macro_rules | `(tactic| walk_at "mark") => `(tactic| first | exact nomark _ | with_unfolding_all rfl)
local macro_rules | `(tactic| walk_at "boot") => `(tactic| first | with_reducible exact PyProof.Rows.boot_int | with_reducible exact PyProof.Rows.boot_bool | with_reducible exact PyProof.Rows.boot_tuple | with_reducible exact PyProof.Rows.boot_list | with_reducible exact PyProof.Rows.boot_str | with_reducible exact PyProof.Rows.boot_dict)
local macro_rules | `(tactic| walk_at "kit") => `(tactic| first | with_reducible exact kit_ii | with_reducible exact kit_ib | with_reducible exact kit_it | with_reducible exact kit_tt | with_reducible exact kit_ti | with_reducible exact kit_bb | with_reducible exact kit_bi | with_reducible exact kit_ll | with_reducible exact kit_dd | with_reducible exact kit_ss)
local macro_rules | `(tactic| walk_at "vis") => `(tactic| first | exact Or.inl rfl | exact Or.inr (Or.inl rfl) | exact Or.inr (Or.inr rfl))
local macro_rules | `(tactic| walk_at "pin") => `(tactic| first | decide | (simp only [watch, List.map_nil, List.map_cons, List.nil_append, List.append_nil, List.cons_append]; decide))
local macro_rules | `(tactic| walk_at "loc") => `(tactic| first | exact Or.inl rfl | exact Or.inr rfl)
local macro_rules | `(tactic| walk_at "key") => `(tactic| first | with_reducible exact key0 | with_reducible exact key1 | with_reducible exact key2 | with_reducible exact key3)
local macro_rules | `(tactic| walk_at "dg") => `(tactic| (
  (with_reducible refine' wo_dget ?h1 ?h2 ?h3 ?h4 ?h5 ?h6 ?h7 ?_ ?h9 ?h10 ?h11); (case h1 => with_reducible assumption); (case h2 => with_reducible assumption); (case h5 => walk_at "key"); (case h3 => rfl); (case h4 => exact kN); (case h6 => rfl); (case h7 => trivial); (case h9 => walk_at "vis"); (case h10 => decide); (case h11 => decide)))
local macro_rules | `(tactic| walk_at "ob") => `(tactic| first
  | (refine ⟨Nat.le_of_ble_eq_true rfl, ?_⟩; try dsimp only [List.set])
  | (refine ⟨_, rfl, Nat.le_of_ble_eq_true rfl, ?_⟩; try dsimp only [List.set])
  | (refine ⟨_, rfl, trivial, Nat.le_of_ble_eq_true rfl, Nat.le_of_ble_eq_true rfl, ?_⟩; try dsimp only [List.set])
  | (refine ⟨_, _, rfl, Nat.le_of_ble_eq_true rfl, Nat.le_of_ble_eq_true rfl, ?_⟩; try dsimp only [List.set])
  | (refine ⟨_, _, _, rfl, Nat.le_of_ble_eq_true rfl, Nat.le_of_ble_eq_true rfl, Nat.le_of_ble_eq_true rfl, ?_⟩; try dsimp only [List.set])
  | refine ⟨fun _ => ?_, fun h => Bool.noConfusion h⟩
  | refine ⟨fun h => Bool.noConfusion h, fun _ => ?_⟩
  | refine ⟨_, rfl, ?_⟩
  | refine ⟨_, _, rfl, rfl, ?_⟩
  | refine ⟨_, _, _, _, rfl, rfl, rfl, ?_⟩
  | (refine ⟨_, _, _, ?dd, rfl, rfl, rfl, ?hh, ?_⟩; (case hh => walk_at "kit"))
  | (refine ⟨_, _, ?dd, rfl, rfl, ?hh, ?_⟩; (case hh => first | walk_at "add" | walk_at "mul" | walk_at "cmp"))
  | (refine ⟨_, ?dd, rfl, ?hh, ?_⟩; (case hh => walk_at "sl"))
  | (refine ⟨_, _, ?dd, rfl, rfl, ?hh, ?ii, ?_⟩; (case hh => first | with_reducible assumption | with_reducible exact at2_0 | with_reducible exact at2_1 | with_reducible exact at3_0 | with_reducible exact at3_1 | with_reducible exact at3_2); (case ii => trivial))
  | (refine ⟨fun _ => ?_, ?hx⟩; (case hx => (intro h; exfalso; (first | ((simp only [decide_eq_false_iff_not, decide_eq_true_eq, Bool.not_eq_true', Bool.not_eq_false'] at h); omega) | ((simp at h); done)))))
  | (refine ⟨?hx, fun _ => ?_⟩; (case hx => (intro h; exfalso; (first | ((simp only [decide_eq_false_iff_not, decide_eq_true_eq, Bool.not_eq_true', Bool.not_eq_false'] at h); omega) | ((simp at h); done)))))
  | ((with_reducible refine And.intro ?hh ?_); (case hh => walk_at "cost")))
local macro_rules | `(tactic| walk_at "gWSs") => `(tactic| first
  | with_reducible refine wss_nil ?_
  | with_reducible refine wss_one ?_
  | with_reducible refine wss_cons ?_)
local macro_rules | `(tactic| walk_at "gWS") => `(tactic| first
  | with_reducible refine ws_if ?_
  | with_reducible refine ws_ret ?_
  | ((with_reducible refine' ws_set ?h1 ?h2 ?h3 ?h4 ?_ ?h6 ?h7); (case h1 => with_reducible assumption); (case h2 => with_reducible assumption); (case h3 => walk_at "loc"); (case h4 => walk_at "pin"); (case h6 => rfl); (case h7 => exact .inl rfl))
  | ((with_reducible refine' ws_augI ?h1 ?h2 ?h3 ?h4 ?h5 ?_ ?h7); (case h1 => with_reducible assumption); (case h2 => with_reducible assumption); (case h3 => rfl); (case h4 => walk_at "loc"); (case h5 => walk_at "pin"); (case h7 => exact .inl rfl))
  | ((with_reducible refine' ws_asg2 ?h1 ?h2 ?h3 ?h4 ?h5 ?h6 ?h7 ?_ ?h9 ?h10 ?h11 ?h12); (case h1 => with_reducible assumption); (case h2 => with_reducible assumption); (case h3 => with_reducible assumption); (case h4 => walk_at "loc"); (case h5 => walk_at "loc"); (case h6 => walk_at "pin"); (case h7 => walk_at "pin"); (case h9 => exact .inl rfl); (case h10 => exact .inl rfl); (case h11 => rfl); (case h12 => rfl))
  | ((with_reducible refine' ws_dput ?h1 ?h2 ?_ ?h4 ?h5 ?h6 ?h7); (case h1 => with_reducible assumption); (case h2 => with_reducible assumption); (case h4 => rfl); (case h5 => walk_at "vis"); (case h6 => decide); (case h7 => decide))
  | ((with_reducible refine' ws_asg ?_ ?h2 ?h3 ?h4); (case h2 => rfl); (case h3 => rfl); (case h4 => rfl))
  | ((with_reducible refine ws_expr ?_ ?h2); (case h2 => rfl))
  | with_reducible refine ws_pass ?_)
local macro_rules | `(tactic| walk_at "gWG") => `(tactic| first
  | ((with_reducible refine' wg_name ?h1 ?h2 ?h3 ?h4 ?h5 ?_ ?h7); (case h1 => with_reducible assumption); (case h2 => with_reducible assumption); (case h3 => walk_at "loc"); (case h4 => walk_at "pin"); (case h5 => exact Nat.le_of_ble_eq_true rfl); (case h7 => exact .inl rfl); (try dsimp only [List.set]))
  | ((with_reducible refine' wg_pair ?a1 ?a2 ?a3 ?a4 ?a5 ?a6 ?a7 ?a8 ?a9 ?b1 ?_ ?b3 ?b4 ?b5 ?b6 ?b7); (case a1 => rfl); (case a2 => with_reducible assumption); (case a3 => with_reducible assumption); (case a4 => with_reducible assumption); (case a5 => walk_at "loc"); (case a6 => walk_at "loc"); (case a7 => walk_at "pin"); (case a8 => walk_at "pin"); (case a9 => exact Nat.le_of_ble_eq_true rfl); (case b1 => exact Nat.le_of_ble_eq_true rfl); (case b3 => exact .inl rfl); (case b4 => exact .inl rfl); (case b5 => exact fun t h => pg_tup rfl h); (case b6 => exact fun t u h1 h2 => pgs_cons h1 h2); (case b7 => exact fun t h => pgs_cons h pgs_nil); (try dsimp only [List.set]))
  | ((with_reducible refine' wg_tri ?a1 ?a2 ?a3 ?a4 ?a5 ?a6 ?a7 ?a8 ?b1 ?b2 ?b3 ?b4 ?b5 ?_ ?c1 ?c2 ?c3 ?c4 ?c5 ?c6 ?c7); (case a1 => rfl); (case a2 => with_reducible assumption); (case a3 => with_reducible assumption); (case a4 => with_reducible assumption); (case a5 => with_reducible assumption); (case a6 => walk_at "loc"); (case a7 => walk_at "loc"); (case a8 => walk_at "loc"); (case b1 => walk_at "pin"); (case b2 => walk_at "pin"); (case b3 => walk_at "pin"); (case b4 => exact ⟨Nat.le_of_ble_eq_true rfl, Nat.le_of_ble_eq_true rfl, Nat.le_of_ble_eq_true rfl⟩); (case b5 => first | exact ⟨trivial, trivial, trivial⟩ | exact ⟨trivial, imms_ints, trivial⟩); (case c1 => exact .inl rfl); (case c2 => exact .inl rfl); (case c3 => exact .inl rfl); (case c4 => exact fun t h => pg_tup rfl h); (case c5 => exact fun t u h1 h2 => pgs_cons h1 h2); (case c6 => exact fun t u h1 h2 => pgs_cons h1 h2); (case c7 => exact fun t h => pgs_cons h pgs_nil); (try dsimp only [List.set])))
local macro_rules | `(tactic| walk_at "gENm") => `(tactic| first
  | ((with_reducible refine' we_name ?h1 ?h2 ?h3 ?_ ?h5 ?h6 ?h7); (case h1 => with_reducible assumption); (case h2 => rfl); (case h3 => walk_at "imm"); (case h5 => walk_at "vis"); (case h6 => decide); (case h7 => decide))
  | ((with_reducible refine' we_move ?h1 ?h2 ?_ ?h5 ?h6 ?h7); (case h1 => with_reducible assumption); (case h2 => rfl); (case h5 => walk_at "vis"); (case h6 => decide); (case h7 => decide); (try dsimp only [List.set])))
local macro_rules | `(tactic| walk_at "gWE") => `(tactic| first
  | with_reducible refine we_of ?_)
local macro_rules | `(tactic| walk_at "gName") => `(tactic| first
  | ((with_reducible refine' wo_nameI ?h1 ?h2 ?h3 ?_ ?h5 ?h6 ?h7); (case h1 => with_reducible assumption); (case h2 => rfl); (case h3 => walk_at "imm"); (case h5 => walk_at "vis"); (case h6 => decide); (case h7 => decide))
  | ((with_reducible refine' wo_name ?h1 ?h2 ?_ ?h5 ?h6 ?h7); (case h1 => with_reducible assumption); (case h2 => rfl); (case h5 => walk_at "vis"); (case h6 => decide); (case h7 => decide))
  | ((with_reducible refine' wo_gint ?h1 ?h2 ?_ ?h4); (case h1 => rfl); (case h2 => with_reducible assumption); (case h4 => decide))
  | ((with_reducible refine' wo_tyn ?h1 ?h2 ?h3 ?_ ?h5 ?h6); (case h1 => rfl); (case h2 => with_reducible assumption); (case h3 => walk_at "boot"); (case h5 => decide); (case h6 => decide)))
local macro_rules | `(tactic| walk_at "gCon") => `(tactic| first
  | with_reducible refine wo_int ?_
  | with_reducible refine wo_non ?_
  | with_reducible refine wo_bl ?_
  | with_reducible refine wo_str ?_)
local macro_rules | `(tactic| walk_at "gBin") => `(tactic| first
  | with_reducible refine wo_addD ?_
  | with_reducible refine wo_sub ?_
  | with_reducible refine wo_mulD ?_
  | with_reducible refine wo_mod ?_
  | with_reducible refine wo_fdiv ?_
  | with_reducible refine wo_pow ?_
  | with_reducible refine wo_shl ?_)
local macro_rules | `(tactic| walk_at "gBool") => `(tactic| first
  | with_reducible refine wo_and ?_
  | with_reducible refine wo_or ?_
  | with_reducible refine wo_bone ?_)
local macro_rules | `(tactic| walk_at "gCmp") => `(tactic| first
  | ((with_reducible refine wo_chain ?_ ?h2); (case h2 => with_unfolding_all rfl))
  | ((with_reducible refine wo_cmpD ?h1 ?_); (case h1 => walk_at "mark")))
local macro_rules | `(tactic| walk_at "gSub") => `(tactic| first
  | walk_at "dg"
  | with_reducible refine wo_slD ?_
  | with_reducible refine wo_revL ?_
  | ((with_reducible refine wo_ix ?h1 ?_); (case h1 => exact fun _ _ => rfl)))
local macro_rules | `(tactic| walk_at "gCalN") => `(tactic| first
  | ((with_reducible refine wo_sortedS ?h1 ?h2 ?_ ?h4); (case h1 => rfl); (case h2 => with_reducible assumption); (case h4 => rfl))
  | ((with_reducible refine' wo_c0 ?h1 ?h2 ?h3 ?h4 ?_ ?h6 ?h7 ?h8); (case h1 => with_reducible assumption); (case h2 => with_reducible assumption); (case h3 => first | decide | exact Nat.le_refl _ | omega); (case h4 => rfl); (case h6 => decide); (case h7 => rfl); (case h8 => rfl))
  | ((with_reducible refine' wo_c1 ?h1 ?h2 ?h3 ?h4 ?_ ?h6 ?h7 ?h8); (case h1 => with_reducible assumption); (case h2 => with_reducible assumption); (case h3 => first | decide | exact Nat.le_refl _ | omega); (case h4 => rfl); (case h6 => decide); (case h7 => rfl); (case h8 => rfl))
  | ((with_reducible refine wo_len ?h1 ?h2 ?_ ?h4); (case h1 => rfl); (case h2 => with_reducible assumption); (case h4 => rfl))
  | ((with_reducible refine wo_min2 rfl ?h1 ?h2 ?_ ?h4 ?h5); (case h1 => rfl); (case h2 => with_reducible assumption); (case h4 => rfl); (case h5 => rfl))
  | ((with_reducible refine wo_max2 rfl ?h1 ?h2 ?_ ?h4 ?h5); (case h1 => rfl); (case h2 => with_reducible assumption); (case h4 => rfl); (case h5 => rfl))
  | ((with_reducible refine wo_abs ?h1 ?h2 ?_ ?h4); (case h1 => rfl); (case h2 => with_reducible assumption); (case h4 => rfl))
  | ((with_reducible refine wo_intI ?h1 ?h2 ?_ ?h4); (case h1 => rfl); (case h2 => with_reducible assumption); (case h4 => rfl))
  | ((have hmode : PtMode := by with_reducible assumption); (with_reducible refine wo_tupleF ?h1 ?h2 ?_ ?h4); (case h1 => rfl); (case h2 => with_reducible assumption); (case h4 => rfl))
  | ((with_reducible refine wo_tuple ?h1 ?h2 ?_ ?h4); (case h1 => rfl); (case h2 => with_reducible assumption); (case h4 => rfl))
  | ((with_reducible refine wo_listR1 rfl ?h1 ?h2 ?h3 ?h5 ?_ ?h4 ?h6); (case h1 => rfl); (case h2 => with_reducible assumption); (case h3 => rfl); (case h5 => with_reducible assumption); (case h4 => rfl); (case h6 => rfl))
  | ((with_reducible refine wo_list ?h1 ?h2 ?_ ?h4); (case h1 => rfl); (case h2 => with_reducible assumption); (case h4 => rfl))
  | ((with_reducible refine wo_all ?h0 ?h1 ?h2 ?_ ?h4); (case h0 => rfl); (case h1 => rfl); (case h2 => with_reducible assumption); (case h4 => rfl))
  | ((with_reducible refine wo_isi2 ?h1 ?h2 ?_ ?h4 ?h5); (case h1 => rfl); (case h2 => with_reducible assumption); (case h4 => rfl); (case h5 => rfl)))
local macro_rules | `(tactic| walk_at "gCalA") => `(tactic| first
  | ((with_reducible refine' wo_dpop ?h1 ?h2 ?h3 ?h4 ?h5 ?h6 ?_ ?h8 ?h9 ?h10 ?h11); (case h1 => with_reducible assumption); (case h2 => with_reducible assumption); (case h5 => walk_at "key"); (case h3 => rfl); (case h4 => exact kN); (case h6 => rfl); (case h8 => exact fun t ht => pe_bm PySem.F.plainAttrs_list PySem.F.slot_list_pop PySem.F.type_list_pop mt_popAt ht (pa_cons pe_int pa_nil)); (case h9 => walk_at "vis"); (case h10 => decide); (case h11 => decide))
  | ((with_reducible refine' wo_append ?h1 ?h2 ?_ ?h4 ?h5 ?h6); (case h1 => with_reducible assumption); (case h2 => exact ⟨_, rfl⟩); (case h4 => exact pe_slot (by with_reducible assumption)); (case h5 => exact pe_bm PySem.F.plainAttrs_list PySem.F.slot_list_append PySem.F.type_list_append mt_append (pe_slot (by with_reducible assumption)) pa_w); (case h6 => rfl))
  | ((with_reducible refine' wo_insert ?h2 ?_ ?h4 ?h5 ?h6 ?h7); (case h4 => rfl); (case h5 => exact pe_bm PySem.F.plainAttrs_list PySem.F.slot_list_insert PySem.F.type_list_insert mt_insert (pe_slot (by with_reducible assumption)) pa_w); (case h2 => exact ⟨_, rfl⟩); (case h6 => rfl); (case h7 => rfl))
  | ((with_reducible refine' wo_popAt ?h1 ?_ ?h3 ?h4); (case h3 => exact pe_bm PySem.F.plainAttrs_list PySem.F.slot_list_pop PySem.F.type_list_pop mt_popAt (pe_slot (by with_reducible assumption)) pa_w); (case h1 => exact ⟨_, rfl⟩); (case h4 => rfl))
  | ((have hmode : PtMode := by with_reducible assumption); (with_reducible refine wo_tix ?_ ?h2 ?h3 ?h4 ?h5); (case h2 => rfl); (case h3 => rfl); (case h4 => rfl); (case h5 => rfl))
  | ((with_reducible refine' wo_indexI ?_ ?h5 ?h6); (case h5 => exact pe_bm PySem.F.plainAttrs_list PySem.F.slot_list_index PySem.F.type_list_index mt_index pe_w pa_w); (case h6 => rfl))
  | ((with_reducible refine' wo_pop ?h1 ?h2 ?h3 ?_ ?h5); (case h1 => rfl); (case h5 => exact pe_bm0 PySem.F.plainAttrs_list PySem.F.slot_list_pop PySem.F.type_list_pop mt_pop (pe_slot (by with_reducible assumption)))))
local macro_rules | `(tactic| walk_at "gWO") => `(tactic| first
  | with_reducible refine wo_not ?_
  | with_reducible refine wo_if ?_
  | with_reducible refine wo_lst ?_
  | with_reducible refine wo_tup ?_)
local macro_rules | `(tactic| walk_at "gWT") => `(tactic| first
  | ((with_reducible refine' wt_dne ?h1 ?h2 ?h3 ?h4 ?h5 ?h6 ?_ ?h9 ?h10 ?h11); (case h1 => with_reducible assumption); (case h2 => with_reducible assumption); (case h5 => walk_at "key"); (case h3 => rfl); (case h4 => exact kN); (case h6 => rfl); (case h9 => walk_at "vis"); (case h10 => decide); (case h11 => decide))
  | with_reducible refine wt_not ?_
  | with_reducible refine wt_bool ?_
  | ((with_reducible refine wt_chain ?_ ?h2); (case h2 => with_unfolding_all rfl))
  | ((with_reducible refine wt_cmpD ?h1 ?_); (case h1 => walk_at "mark"))
  | ((with_reducible refine wt_val ?_ ?h2); (case h2 => exact fun _ => rfl)))
local macro_rules | `(tactic| walk_at "gWW") => `(tactic| first
  | with_reducible refine ww_and ?_
  | with_reducible refine ww_and1 ?_
  | with_reducible refine ww_or ?_
  | with_reducible refine ww_or1 ?_)
local macro_rules | `(tactic| walk_at "gWA") => `(tactic| first
  | ((with_reducible refine wa_star ?_ ?h2); (case h2 => rfl))
  | ((with_reducible refine wa_cons ?_ ?h2); (case h2 => rfl))
  | with_reducible refine wa_nil ?_)
local macro_rules | `(tactic| walk_at "rest") => `(tactic| first
  | with_reducible refine wvs_cons ?_
  | with_reducible refine wvs_nil ?_
  | with_reducible refine wp_none ?_
  | with_reducible refine wp_some ?_
  | ((with_reducible refine' wtc_link ?h1 ?_); (case h1 => walk_at "ci"))
  | ((with_reducible refine' wtc_last ?h1 ?_); (case h1 => walk_at "ci")))
local macro_rules | `(tactic| walk_at "d") => `(tactic| first
  | ((with_reducible refine gWSs ?_); walk_at "gWSs")
  | ((with_reducible refine gWS ?_); walk_at "gWS")
  | ((with_reducible refine gWG ?_); walk_at "gWG")
  | ((with_reducible refine gENm ?_); walk_at "gENm")
  | ((with_reducible refine gWE ?_); walk_at "gWE")
  | ((with_reducible refine gName ?_); walk_at "gName")
  | ((with_reducible refine gCon ?_); walk_at "gCon")
  | ((with_reducible refine gBin ?_); walk_at "gBin")
  | ((with_reducible refine gBool ?_); walk_at "gBool")
  | ((with_reducible refine gCmp ?_); walk_at "gCmp")
  | ((with_reducible refine gSub ?_); walk_at "gSub")
  | ((with_reducible refine gCalN ?_); walk_at "gCalN")
  | ((with_reducible refine gCalA ?_); walk_at "gCalA")
  | ((with_reducible refine gWO ?_); walk_at "gWO")
  | ((with_reducible refine gWT ?_); walk_at "gWT")
  | ((with_reducible refine gWW ?_); walk_at "gWW")
  | ((with_reducible refine gWA ?_); walk_at "gWA")
  | walk_at "rest"
  | walk_at "ob")
local macro_rules | `(tactic| walk_at "go") => `(tactic| repeat walk_at "d")

open KP
def stT (st : List Int) : D := .tup (st.map D.int)
def ct_need_labels : Ct := ⟨Int, fun m ds => ds = [.int m] ∧ 1 ≤ m ∧ m < 1000000000000000000, fun m d _ => d = .non⟩
def ct_is_state_by : Ct := ⟨List Int × Int, fun a ds => ds = [stT a.1, .int a.2] ∧ OkS a.2 a.1, fun a d _ => d = .bl true⟩
def ct_need_state : Ct := ⟨Int × List Int, fun a ds => ds = [.int a.1, stT a.2] ∧ OkS a.1 a.2, fun a d _ => d = .non⟩
def ct_need_place : Ct := ⟨List Int × Int, fun a ds => ds = [stT a.1, .int a.2] ∧ 0 ≤ a.2 ∧ a.2 < a.1.length ∧ a.1.length ≤ 1000, fun a d _ => d = .non⟩
section
variable {P : Program} {w : World} {K : PySem.W.Frag} {mg : Str → Option Value} {base : Heap}
theorem cal_need_labels (Z : Fz K mg) : Cal P w K mg base 3 "need_labels" (toSp K 0 ct_need_labels) := by
  refine cal_of Z.d_need_labels sc_need_labels (fun a ds h => by rw [h.1]; rfl) (by decide) ?_
  intro f cdv A outer s H E hr (a : Int ) ds hp X
  have hNd : X.N.Nodup := sc_need_labels.nd
  have hN0 : X.N[0]? = some ("many" : Str) := rfl
  have hR : Room 2 X.A := hr
  have hu64 : X.A.units + 64 < cLine := by have := hR.un; omega
  have hu1 : X.A.units + 1 < cLine := by have := hR.un; omega
  have c_is_number : Cal X.prog X.w X.K X.mg X.base 2 "is_number" (toSp X.K 0 ct_is_number) := cal_is_number Z
  obtain ⟨hds, hp⟩ := hp
  subst hds
  show WSs X [] (_ :: _) [ some (D.int a)] _
  walk_at "go"
  refine ⟨(a, 1), ⟨rfl, by dsimp only; omega⟩, fun d hd => ?_⟩
  have hd : d = .bl (decide (1 ≤ a)) := hd
  subst hd
  walk_at "go"
  exact ⟨[], rfl, rfl⟩
theorem cal_is_state_by (Z : Fz K mg) : Cal P w K mg base 3 "is_state_by" (toSp K 0 ct_is_state_by) := by
  refine cal_of Z.d_is_state_by sc_is_state_by (fun a ds h => by rw [h.1]; rfl) (by decide) ?_
  intro f cdv A outer s H E hr (a : List Int × Int ) ds hp X
  have hNd : X.N.Nodup := sc_is_state_by.nd
  have hN0 : X.N[0]? = some ("value" : Str) := rfl
  have hN1 : X.N[1]? = some ("many" : Str) := rfl
  have hN2 : X.N[2]? = some ("one" : Str) := rfl
  have hN3 : X.N[3]? = some ("other" : Str) := rfl
  have hN4 : X.N[4]? = some ("item" : Str) := rfl
  have hR : Room 2 X.A := hr
  have hu64 : X.A.units + 64 < cLine := by have := hR.un; omega
  have hu1 : X.A.units + 1 < cLine := by have := hR.un; omega
  have m_all : X.mg "all" = none := Z.b_all
  have m_isinstance : X.mg "isinstance" = none := Z.b_isinstance
  have m_tuple : X.mg "tuple" = none := Z.b_tuple
  have m_zip : X.mg "zip" = none := Z.b_zip
  have c_is_number : Cal X.prog X.w X.K X.mg X.base 2 "is_number" (toSp X.K 0 ct_is_number) := cal_is_number Z
  obtain ⟨hds, hp⟩ := hp
  subst hds
  show WSs X [] (_ :: _) [ some (stT a.1), some (D.int a.2), none, none, none] _
  obtain ⟨st, m⟩ := a
  dsimp only at hp ⊢
  have hl := hp.len
  have hm2 := hp.m2
  walk_at "go"
  refine ⟨_, _, _, rfl, rfl, cmp_eq hu64 shp_tupI (shp_tupI (l := [])), ?_⟩
  have en : deq (stT st) (.tup []) = false := by
    show deq (.tup (st.map D.int)) (.tup (([] : List Int).map D.int)) = false
    rw [deq_tt rfl rfl, deqs_ints]
    exact decide_eq_false hp.ne
  rw [en]
  walk_at "go"
  refine' wo_lc (own := [("item", 4)]) rfl hNd ?ok ?hg ?_ ?hs
  case ok => exact (show BlkOk ["value", "many", "one", "other", "item"] (defScope s_is_state_by) _ [("item", 4)] from ⟨rfl, by decide +kernel, by decide +kernel, by decide +kernel, by decide +kernel⟩)
  case hs => exact fun _ => rfl
  case hg => exact blk_name hNd hN4 rfl
  refine wi_tup ?_
  walk_at "go"
  rw [List.length_map]
  refine ⟨fun j acc E' => acc = (List.replicate j true).map D.bl ∧ E' = [some (stT st), some (.int m), none, none, none], ⟨rfl, rfl⟩, (fun _ _ _ _ _ p h => nomatch h), ?_, ?_⟩
  · rintro j acc E' hj ⟨rfl, rfl⟩
    obtain ⟨x, hx⟩ : ∃ x, st[j]? = some x := ⟨_, List.getElem?_eq_getElem hj⟩
    have x0 := hp.lo x (List.mem_of_getElem? hx)
    have x1 := hp.hi x (List.mem_of_getElem? hx)
    have eg : (st.map D.int).getD j .non = .int x := by rw [List.getD_eq_getElem?_getD, List.getElem?_map, hx]; rfl
    dsimp only
    rw [eg]
    refine ⟨_, tgb_name (by decide) (Nat.le_of_ble_eq_true rfl), fun s H C cl fp => ?_⟩
    dsimp only [List.set]
    refine wif_nil ⟨fun _ s H C cl fp => ?_, fun h => Bool.noConfusion h⟩
    walk_at "go"
    refine ⟨(x, 0), ⟨rfl, by dsimp only; omega⟩, fun d hd => ?_⟩
    have hd : d = .bl (decide ((0 : Int) ≤ x)) := hd
    subst hd
    walk_at "go"
    refine ⟨by rw [List.length_map, List.length_replicate]; omega, ?_, rfl⟩
    rw [decide_eq_true x1, List.replicate_succ', List.map_append]
    rfl
  · rintro acc E' ⟨rfl, rfl⟩
    refine ⟨_, rfl, ?_⟩
    rw [show (List.replicate st.length true).all id = true from by simp]
    walk_at "go"
    refine' wo_lc (own := [("one", 2), ("other", 3)]) rfl hNd ?ok ?hg ?_ ?hs
    case ok => exact (show BlkOk ["value", "many", "one", "other", "item"] (defScope s_is_state_by) _ [("one", 2), ("other", 3)] from ⟨rfl, by decide +kernel, by decide +kernel, by decide +kernel, by decide +kernel⟩)
    case hs => exact fun _ => rfl
    case hg => exact blk_pair rfl hNd hN2 hN3 rfl rfl
    refine wi_zipT (by exact rfl) m_zip ?_ (by rfl) (by rfl)
    walk_at "go"
    have ecut : cutD (st.map D.int) (some 1) none = (st.drop 1).map D.int := by
      rw [cutD_from (by decide), List.map_drop]
      rfl
    rw [ecut]
    refine ⟨imms_ints, ?_⟩
    rw [List.length_map, List.length_map]
    refine ⟨fun j acc E' => acc = (List.replicate j true).map D.bl ∧ E' = [some (stT st), some (.int m), none, none, none], ⟨rfl, rfl⟩, (fun _ _ _ _ _ p h => nomatch h), ?_, ?_⟩
    · rintro k acc E' hk ⟨rfl, rfl⟩
      rw [List.length_drop] at hk
      obtain ⟨x, hx⟩ : ∃ x, st[k]? = some x := ⟨_, List.getElem?_eq_getElem (by omega)⟩
      obtain ⟨y, hy⟩ : ∃ y, st[k + 1]? = some y := ⟨_, List.getElem?_eq_getElem (by omega)⟩
      have hxy : x < y := by
        obtain ⟨h1, e1⟩ := List.getElem?_eq_some_iff.mp hx
        obtain ⟨h2, e2⟩ := List.getElem?_eq_some_iff.mp hy
        rw [← e1, ← e2]
        exact List.pairwise_iff_getElem.mp hp.inc k (k + 1) h1 h2 (by omega)
      have eg1 : (st.map D.int).getD k .non = .int x := by rw [List.getD_eq_getElem?_getD, List.getElem?_map, hx]; rfl
      have eg2 : ((st.drop 1).map D.int).getD k .non = .int y := by
        have : 1 + k = k + 1 := by omega
        rw [List.getD_eq_getElem?_getD, List.getElem?_map, List.getElem?_drop, this, hy]
        rfl
      dsimp only
      rw [eg1, eg2]
      refine ⟨_, tgb_pair (by decide) (by decide) (Nat.le_of_ble_eq_true rfl) (Nat.le_of_ble_eq_true rfl), fun s H C cl fp => ?_⟩
      dsimp only [List.set]
      refine wif_nil ⟨fun _ s H C cl fp => ?_, fun h => Bool.noConfusion h⟩
      walk_at "go"
      refine ⟨by rw [List.length_map, List.length_replicate]; omega, ?_, rfl⟩
      rw [decide_eq_true hxy, List.replicate_succ', List.map_append]
      rfl
    · rintro acc E' ⟨rfl, rfl⟩
      refine ⟨_, rfl, ?_⟩
      walk_at "go"
      exact ⟨[], rfl, congrArg D.bl (by simp)⟩
theorem cal_need_state (Z : Fz K mg) : Cal P w K mg base 4 "need_state" (toSp K 0 ct_need_state) := by
  refine cal_of Z.d_need_state sc_need_state (fun a ds h => by rw [h.1]; rfl) (by decide) ?_
  intro f cdv A outer s H E hr (a : Int × List Int ) ds hp X
  have hNd : X.N.Nodup := sc_need_state.nd
  have hN0 : X.N[0]? = some ("many" : Str) := rfl
  have hN1 : X.N[1]? = some ("state" : Str) := rfl
  have hR : Room 3 X.A := hr
  have hu64 : X.A.units + 64 < cLine := by have := hR.un; omega
  have hu1 : X.A.units + 1 < cLine := by have := hR.un; omega
  have c_need_labels : Cal X.prog X.w X.K X.mg X.base 3 "need_labels" (toSp X.K 0 ct_need_labels) := cal_need_labels Z
  have c_is_state_by : Cal X.prog X.w X.K X.mg X.base 3 "is_state_by" (toSp X.K 0 ct_is_state_by) := cal_is_state_by Z
  obtain ⟨hds, hp⟩ := hp
  subst hds
  show WSs X [] (_ :: _) [ some (D.int a.1), some (stT a.2)] _
  walk_at "go"
  refine ⟨a.1, ⟨rfl, hp.m1, hp.m2⟩, fun d hd => ?_⟩
  subst hd
  walk_at "go"
  refine ⟨(a.2, a.1), ⟨rfl, hp⟩, fun d hd => ?_⟩
  subst hd
  walk_at "go"
  exact ⟨[], rfl, rfl⟩
theorem cal_need_place (Z : Fz K mg) : Cal P w K mg base 3 "need_place" (toSp K 0 ct_need_place) := by
  refine cal_of Z.d_need_place sc_need_place (fun a ds h => by rw [h.1]; rfl) (by decide) ?_
  intro f cdv A outer s H E hr (a : List Int × Int ) ds hp X
  have hNd : X.N.Nodup := sc_need_place.nd
  have hN0 : X.N[0]? = some ("state" : Str) := rfl
  have hN1 : X.N[1]? = some ("place" : Str) := rfl
  have hR : Room 2 X.A := hr
  have hu64 : X.A.units + 64 < cLine := by have := hR.un; omega
  have hu1 : X.A.units + 1 < cLine := by have := hR.un; omega
  have c_is_number : Cal X.prog X.w X.K X.mg X.base 2 "is_number" (toSp X.K 0 ct_is_number) := cal_is_number Z
  have m_len : X.mg "len" = none := Z.b_len
  obtain ⟨hds, hp⟩ := hp
  subst hds
  show WSs X [] (_ :: _) [ some (stT a.1), some (D.int a.2)] _
  walk_at "go"
  refine ⟨(a.2, 0), ⟨rfl, by dsimp only; omega⟩, fun d hd => ?_⟩
  have hd : d = .bl (decide ((0 : Int) ≤ a.2)) := hd
  subst hd
  walk_at "go"
  rw [List.length_map]
  walk_at "go"
  exact ⟨[], rfl, rfl⟩
end
end K23


namespace K23
open PySem PySem.Spec L2 DL Ln
open PyProof.Rows (envOfC)
local macro_rules | `(tactic| walk_at "imm") => `(tactic| first | assumption | trivial | exact imms_ints | exact imms_pairs | (simp only [Imm, Imms]; done) | exact ⟨trivial, trivial⟩ | exact ⟨trivial, imms_ints⟩ | exact imms_cut imms_ints | exact imms_app imms_ints ⟨trivial, trivial⟩ | exact imms_app (imms_cut imms_ints) ⟨trivial, trivial⟩ | exact imms_app (imms_app (imms_cut imms_ints) ⟨trivial, trivial⟩) (imms_cut imms_ints))
local macro_rules | `(tactic| walk_at "add") => `(tactic| first | exact AddD.int | exact AddD.lst (by walk_at "imm") (by walk_at "imm") (by first | assumption | (simp; omega)) | ((refine AddD.tup ?at1 ?at2 ?at3 ?at4 ?at5); (case at1 => rfl); (case at2 => rfl); (case at3 => walk_at "imm"); (case at4 => walk_at "imm"); (case at5 => first | with_reducible assumption | (simp; omega))))
local macro_rules | `(tactic| walk_at "cost") => `(tactic| first | with_reducible assumption | (with_reducible exact cpow (by omega) (by omega) (by omega) (by omega)) | (with_reducible exact cdivw (by omega) (by omega)) | (with_reducible exact cmul1 (by omega) (by omega)) | (with_reducible exact cmul2 (by omega) (by omega)) | with_reducible exact imms_ints | omega)
local macro_rules | `(tactic| walk_at "mul") => `(tactic| ((refine MulD.int ?_); walk_at "cost"))
local macro_rules | `(tactic| walk_at "cmp") => `(tactic| first | with_reducible exact cmp_lt | with_reducible exact cmp_le | with_reducible exact cmp_gt | with_reducible exact cmp_ge | with_reducible exact cmp_eqI | with_reducible exact cmp_neI | with_reducible exact cmp_isN | with_reducible exact cmp_notN | ((with_reducible refine cmp_neLL ?_); with_reducible assumption) | ((with_reducible refine cmp_neTT ?_); with_reducible assumption) | ((with_reducible refine cmp_nePT ?_); with_reducible assumption) | ((with_reducible refine cmp_eqLL ?_); with_reducible assumption) | ((with_reducible refine cmp_eqLN ?_); with_reducible assumption) | ((with_reducible refine cmp_neLN ?_); with_reducible assumption) | ((with_reducible refine cmp_neP ?_); with_reducible assumption) | ((with_reducible refine cmp_eqN ?_); with_reducible assumption) | with_reducible exact cmp_notB | with_reducible exact cmp_neB | with_reducible exact cmp_eqB | with_reducible exact cmp_inL | with_reducible exact cmp_inF | with_reducible exact cmp_inT | with_reducible exact cmp_inP | with_reducible exact cmp_niL | with_reducible exact cmp_niF | with_reducible exact cmp_niT | with_reducible exact cmp_niP | exact cmp_lt | exact cmp_le | exact cmp_gt | exact cmp_ge | exact cmp_eqI | exact cmp_neI | exact cmp_isN | exact cmp_notN | ((refine cmp_neLL ?_); with_reducible assumption) | ((refine cmp_neTT ?_); with_reducible assumption) | ((refine cmp_nePT ?_); with_reducible assumption) | ((refine cmp_eqLL ?_); with_reducible assumption) | ((refine cmp_eqLN ?_); with_reducible assumption) | ((refine cmp_neLN ?_); with_reducible assumption) | ((refine cmp_neP ?_); with_reducible assumption) | ((refine cmp_eqN ?_); with_reducible assumption) | exact cmp_notB | exact cmp_neB | exact cmp_eqB | exact cmp_inL | exact cmp_inF | exact cmp_inT | exact cmp_inP | exact cmp_niL | exact cmp_niF | exact cmp_niT | exact cmp_niP)
local macro_rules | `(tactic| walk_at "ci") => `(tactic| first | exact cmpi_lt | exact cmpi_le | exact cmpi_gt | exact cmpi_ge)
local macro_rules | `(tactic| walk_at "sl") => `(tactic| first | ((refine sl_t ?_); walk_at "imm") | ((refine sl_p ?_); walk_at "imm") | ((refine sl_l ?_); walk_at "imm") | ((refine sl_f ?_); walk_at "imm"))
local macro_rules | `(tactic| walk_at "mark") => `(tactic| first | exact nomark _ | with_unfolding_all rfl)
local macro_rules | `(tactic| walk_at "boot") => `(tactic| first | with_reducible exact PyProof.Rows.boot_int | with_reducible exact PyProof.Rows.boot_bool | with_reducible exact PyProof.Rows.boot_tuple | with_reducible exact PyProof.Rows.boot_list | with_reducible exact PyProof.Rows.boot_str | with_reducible exact PyProof.Rows.boot_dict)
local macro_rules | `(tactic| walk_at "kit") => `(tactic| first | with_reducible exact kit_ii | with_reducible exact kit_ib | with_reducible exact kit_it | with_reducible exact kit_tt | with_reducible exact kit_ti | with_reducible exact kit_bb | with_reducible exact kit_bi | with_reducible exact kit_ll | with_reducible exact kit_dd | with_reducible exact kit_ss)
local macro_rules | `(tactic| walk_at "vis") => `(tactic| first | exact Or.inl rfl | exact Or.inr (Or.inl rfl) | exact Or.inr (Or.inr rfl))
local macro_rules | `(tactic| walk_at "pin") => `(tactic| first | decide | (simp only [watch, List.map_nil, List.map_cons, List.nil_append, List.append_nil, List.cons_append]; decide))
local macro_rules | `(tactic| walk_at "loc") => `(tactic| first | exact Or.inl rfl | exact Or.inr rfl)
local macro_rules | `(tactic| walk_at "key") => `(tactic| first | with_reducible exact key0 | with_reducible exact key1 | with_reducible exact key2 | with_reducible exact key3)
local macro_rules | `(tactic| walk_at "dg") => `(tactic| (
  (with_reducible refine' wo_dget ?h1 ?h2 ?h3 ?h4 ?h5 ?h6 ?h7 ?_ ?h9 ?h10 ?h11); (case h1 => with_reducible assumption); (case h2 => with_reducible assumption); (case h5 => walk_at "key"); (case h3 => rfl); (case h4 => exact kN); (case h6 => rfl); (case h7 => trivial); (case h9 => walk_at "vis"); (case h10 => decide); (case h11 => decide)))
local macro_rules | `(tactic| walk_at "ob") => `(tactic| first
  | (refine ⟨Nat.le_of_ble_eq_true rfl, ?_⟩; try dsimp only [List.set])
  | (refine ⟨_, rfl, Nat.le_of_ble_eq_true rfl, ?_⟩; try dsimp only [List.set])
  | (refine ⟨_, rfl, trivial, Nat.le_of_ble_eq_true rfl, Nat.le_of_ble_eq_true rfl, ?_⟩; try dsimp only [List.set])
  | (refine ⟨_, _, rfl, Nat.le_of_ble_eq_true rfl, Nat.le_of_ble_eq_true rfl, ?_⟩; try dsimp only [List.set])
  | (refine ⟨_, _, _, rfl, Nat.le_of_ble_eq_true rfl, Nat.le_of_ble_eq_true rfl, Nat.le_of_ble_eq_true rfl, ?_⟩; try dsimp only [List.set])
  | refine ⟨fun _ => ?_, fun h => Bool.noConfusion h⟩
  | refine ⟨fun h => Bool.noConfusion h, fun _ => ?_⟩
  | refine ⟨_, rfl, ?_⟩
  | refine ⟨_, _, rfl, rfl, ?_⟩
  | refine ⟨_, _, _, _, rfl, rfl, rfl, ?_⟩
  | (refine ⟨_, _, _, ?dd, rfl, rfl, rfl, ?hh, ?_⟩; (case hh => walk_at "kit"))
  | (refine ⟨_, _, ?dd, rfl, rfl, ?hh, ?_⟩; (case hh => first | walk_at "add" | walk_at "mul" | walk_at "cmp"))
  | (refine ⟨_, ?dd, rfl, ?hh, ?_⟩; (case hh => walk_at "sl"))
  | (refine ⟨_, _, ?dd, rfl, rfl, ?hh, ?ii, ?_⟩; (case hh => first | with_reducible assumption | with_reducible exact at2_0 | with_reducible exact at2_1 | with_reducible exact at3_0 | with_reducible exact at3_1 | with_reducible exact at3_2); (case ii => trivial))
  | (refine ⟨fun _ => ?_, ?hx⟩; (case hx => (intro h; exfalso; (first | ((simp only [decide_eq_false_iff_not, decide_eq_true_eq, Bool.not_eq_true', Bool.not_eq_false'] at h); omega) | ((simp at h); done)))))
  | (refine ⟨?hx, fun _ => ?_⟩; (case hx => (intro h; exfalso; (first | ((simp only [decide_eq_false_iff_not, decide_eq_true_eq, Bool.not_eq_true', Bool.not_eq_false'] at h); omega) | ((simp at h); done)))))
  | ((with_reducible refine And.intro ?hh ?_); (case hh => walk_at "cost")))
local macro_rules | `(tactic| walk_at "gWSs") => `(tactic| first
  | with_reducible refine wss_nil ?_
  | with_reducible refine wss_one ?_
  | with_reducible refine wss_cons ?_)
local macro_rules | `(tactic| walk_at "gWS") => `(tactic| first
  | with_reducible refine ws_if ?_
  | with_reducible refine ws_ret ?_
  | ((with_reducible refine' ws_set ?h1 ?h2 ?h3 ?h4 ?_ ?h6 ?h7); (case h1 => with_reducible assumption); (case h2 => with_reducible assumption); (case h3 => walk_at "loc"); (case h4 => walk_at "pin"); (case h6 => rfl); (case h7 => exact .inl rfl))
  | ((with_reducible refine' ws_augI ?h1 ?h2 ?h3 ?h4 ?h5 ?_ ?h7); (case h1 => with_reducible assumption); (case h2 => with_reducible assumption); (case h3 => rfl); (case h4 => walk_at "loc"); (case h5 => walk_at "pin"); (case h7 => exact .inl rfl))
  | ((with_reducible refine' ws_asg2 ?h1 ?h2 ?h3 ?h4 ?h5 ?h6 ?h7 ?_ ?h9 ?h10 ?h11 ?h12); (case h1 => with_reducible assumption); (case h2 => with_reducible assumption); (case h3 => with_reducible assumption); (case h4 => walk_at "loc"); (case h5 => walk_at "loc"); (case h6 => walk_at "pin"); (case h7 => walk_at "pin"); (case h9 => exact .inl rfl); (case h10 => exact .inl rfl); (case h11 => rfl); (case h12 => rfl))
  | ((with_reducible refine' ws_dput ?h1 ?h2 ?_ ?h4 ?h5 ?h6 ?h7); (case h1 => with_reducible assumption); (case h2 => with_reducible assumption); (case h4 => rfl); (case h5 => walk_at "vis"); (case h6 => decide); (case h7 => decide))
  | ((with_reducible refine' ws_asg ?_ ?h2 ?h3 ?h4); (case h2 => rfl); (case h3 => rfl); (case h4 => rfl))
  | ((with_reducible refine ws_expr ?_ ?h2); (case h2 => rfl))
  | with_reducible refine ws_pass ?_)
local macro_rules | `(tactic| walk_at "gWG") => `(tactic| first
  | ((with_reducible refine' wg_name ?h1 ?h2 ?h3 ?h4 ?h5 ?_ ?h7); (case h1 => with_reducible assumption); (case h2 => with_reducible assumption); (case h3 => walk_at "loc"); (case h4 => walk_at "pin"); (case h5 => exact Nat.le_of_ble_eq_true rfl); (case h7 => exact .inl rfl); (try dsimp only [List.set]))
  | ((with_reducible refine' wg_pair ?a1 ?a2 ?a3 ?a4 ?a5 ?a6 ?a7 ?a8 ?a9 ?b1 ?_ ?b3 ?b4 ?b5 ?b6 ?b7); (case a1 => rfl); (case a2 => with_reducible assumption); (case a3 => with_reducible assumption); (case a4 => with_reducible assumption); (case a5 => walk_at "loc"); (case a6 => walk_at "loc"); (case a7 => walk_at "pin"); (case a8 => walk_at "pin"); (case a9 => exact Nat.le_of_ble_eq_true rfl); (case b1 => exact Nat.le_of_ble_eq_true rfl); (case b3 => exact .inl rfl); (case b4 => exact .inl rfl); (case b5 => exact fun t h => pg_tup rfl h); (case b6 => exact fun t u h1 h2 => pgs_cons h1 h2); (case b7 => exact fun t h => pgs_cons h pgs_nil); (try dsimp only [List.set]))
  | ((with_reducible refine' wg_tri ?a1 ?a2 ?a3 ?a4 ?a5 ?a6 ?a7 ?a8 ?b1 ?b2 ?b3 ?b4 ?b5 ?_ ?c1 ?c2 ?c3 ?c4 ?c5 ?c6 ?c7); (case a1 => rfl); (case a2 => with_reducible assumption); (case a3 => with_reducible assumption); (case a4 => with_reducible assumption); (case a5 => with_reducible assumption); (case a6 => walk_at "loc"); (case a7 => walk_at "loc"); (case a8 => walk_at "loc"); (case b1 => walk_at "pin"); (case b2 => walk_at "pin"); (case b3 => walk_at "pin"); (case b4 => exact ⟨Nat.le_of_ble_eq_true rfl, Nat.le_of_ble_eq_true rfl, Nat.le_of_ble_eq_true rfl⟩); (case b5 => first | exact ⟨trivial, trivial, trivial⟩ | exact ⟨trivial, imms_ints, trivial⟩); (case c1 => exact .inl rfl); (case c2 => exact .inl rfl); (case c3 => exact .inl rfl); (case c4 => exact fun t h => pg_tup rfl h); (case c5 => exact fun t u h1 h2 => pgs_cons h1 h2); (case c6 => exact fun t u h1 h2 => pgs_cons h1 h2); (case c7 => exact fun t h => pgs_cons h pgs_nil); (try dsimp only [List.set])))
local macro_rules | `(tactic| walk_at "gENm") => `(tactic| first
  | ((with_reducible refine' we_name ?h1 ?h2 ?h3 ?_ ?h5 ?h6 ?h7); (case h1 => with_reducible assumption); (case h2 => rfl); (case h3 => walk_at "imm"); (case h5 => walk_at "vis"); (case h6 => decide); (case h7 => decide))
  | ((with_reducible refine' we_move ?h1 ?h2 ?_ ?h5 ?h6 ?h7); (case h1 => with_reducible assumption); (case h2 => rfl); (case h5 => walk_at "vis"); (case h6 => decide); (case h7 => decide); (try dsimp only [List.set])))
local macro_rules | `(tactic| walk_at "gWE") => `(tactic| first
  | with_reducible refine we_of ?_)
local macro_rules | `(tactic| walk_at "gName") => `(tactic| first
  | ((with_reducible refine' wo_nameI ?h1 ?h2 ?h3 ?_ ?h5 ?h6 ?h7); (case h1 => with_reducible assumption); (case h2 => rfl); (case h3 => walk_at "imm"); (case h5 => walk_at "vis"); (case h6 => decide); (case h7 => decide))
  | ((with_reducible refine' wo_name ?h1 ?h2 ?_ ?h5 ?h6 ?h7); (case h1 => with_reducible assumption); (case h2 => rfl); (case h5 => walk_at "vis"); (case h6 => decide); (case h7 => decide))
  | ((with_reducible refine' wo_gint ?h1 ?h2 ?_ ?h4); (case h1 => rfl); (case h2 => with_reducible assumption); (case h4 => decide))
  | ((with_reducible refine' wo_tyn ?h1 ?h2 ?h3 ?_ ?h5 ?h6); (case h1 => rfl); (case h2 => with_reducible assumption); (case h3 => walk_at "boot"); (case h5 => decide); (case h6 => decide)))
local macro_rules | `(tactic| walk_at "gCon") => `(tactic| first
  | with_reducible refine wo_int ?_
  | with_reducible refine wo_non ?_
  | with_reducible refine wo_bl ?_
  | with_reducible refine wo_str ?_)
local macro_rules | `(tactic| walk_at "gBin") => `(tactic| first
  | with_reducible refine wo_addD ?_
  | with_reducible refine wo_sub ?_
  | with_reducible refine wo_mulD ?_
  | with_reducible refine wo_mod ?_
  | with_reducible refine wo_fdiv ?_
  | with_reducible refine wo_pow ?_
  | with_reducible refine wo_shl ?_)
local macro_rules | `(tactic| walk_at "gBool") => `(tactic| first
  | with_reducible refine wo_and ?_
  | with_reducible refine wo_or ?_
  | with_reducible refine wo_bone ?_)
local macro_rules | `(tactic| walk_at "gCmp") => `(tactic| first
  | ((with_reducible refine wo_chain ?_ ?h2); (case h2 => with_unfolding_all rfl))
  | ((with_reducible refine wo_cmpD ?h1 ?_); (case h1 => walk_at "mark")))
local macro_rules | `(tactic| walk_at "gSub") => `(tactic| first
  | walk_at "dg"
  | with_reducible refine wo_slD ?_
  | with_reducible refine wo_revL ?_
  | ((with_reducible refine wo_ix ?h1 ?_); (case h1 => exact fun _ _ => rfl)))
local macro_rules | `(tactic| walk_at "gCalN") => `(tactic| first
  | ((with_reducible refine wo_sortedS ?h1 ?h2 ?_ ?h4); (case h1 => rfl); (case h2 => with_reducible assumption); (case h4 => rfl))
  | ((with_reducible refine' wo_c0 ?h1 ?h2 ?h3 ?h4 ?_ ?h6 ?h7 ?h8); (case h1 => with_reducible assumption); (case h2 => with_reducible assumption); (case h3 => first | decide | exact Nat.le_refl _ | omega); (case h4 => rfl); (case h6 => decide); (case h7 => rfl); (case h8 => rfl))
  | ((with_reducible refine' wo_c1 ?h1 ?h2 ?h3 ?h4 ?_ ?h6 ?h7 ?h8); (case h1 => with_reducible assumption); (case h2 => with_reducible assumption); (case h3 => first | decide | exact Nat.le_refl _ | omega); (case h4 => rfl); (case h6 => decide); (case h7 => rfl); (case h8 => rfl))
  | ((with_reducible refine wo_len ?h1 ?h2 ?_ ?h4); (case h1 => rfl); (case h2 => with_reducible assumption); (case h4 => rfl))
  | ((with_reducible refine wo_min2 rfl ?h1 ?h2 ?_ ?h4 ?h5); (case h1 => rfl); (case h2 => with_reducible assumption); (case h4 => rfl); (case h5 => rfl))
  | ((with_reducible refine wo_max2 rfl ?h1 ?h2 ?_ ?h4 ?h5); (case h1 => rfl); (case h2 => with_reducible assumption); (case h4 => rfl); (case h5 => rfl))
  | ((with_reducible refine wo_abs ?h1 ?h2 ?_ ?h4); (case h1 => rfl); (case h2 => with_reducible assumption); (case h4 => rfl))
  | ((with_reducible refine wo_intI ?h1 ?h2 ?_ ?h4); (case h1 => rfl); (case h2 => with_reducible assumption); (case h4 => rfl))
  | ((have hmode : PtMode := by with_reducible assumption); (with_reducible refine wo_tupleF ?h1 ?h2 ?_ ?h4); (case h1 => rfl); (case h2 => with_reducible assumption); (case h4 => rfl))
  | ((with_reducible refine wo_tuple ?h1 ?h2 ?_ ?h4); (case h1 => rfl); (case h2 => with_reducible assumption); (case h4 => rfl))
  | ((with_reducible refine wo_listR1 rfl ?h1 ?h2 ?h3 ?h5 ?_ ?h4 ?h6); (case h1 => rfl); (case h2 => with_reducible assumption); (case h3 => rfl); (case h5 => with_reducible assumption); (case h4 => rfl); (case h6 => rfl))
  | ((with_reducible refine wo_list ?h1 ?h2 ?_ ?h4); (case h1 => rfl); (case h2 => with_reducible assumption); (case h4 => rfl))
  | ((with_reducible refine wo_all ?h0 ?h1 ?h2 ?_ ?h4); (case h0 => rfl); (case h1 => rfl); (case h2 => with_reducible assumption); (case h4 => rfl))
  | ((with_reducible refine wo_isi2 ?h1 ?h2 ?_ ?h4 ?h5); (case h1 => rfl); (case h2 => with_reducible assumption); (case h4 => rfl); (case h5 => rfl)))
local macro_rules | `(tactic| walk_at "gCalA") => `(tactic| first
  | ((with_reducible refine' wo_dpop ?h1 ?h2 ?h3 ?h4 ?h5 ?h6 ?_ ?h8 ?h9 ?h10 ?h11); (case h1 => with_reducible assumption); (case h2 => with_reducible assumption); (case h5 => walk_at "key"); (case h3 => rfl); (case h4 => exact kN); (case h6 => rfl); (case h8 => exact fun t ht => pe_bm PySem.F.plainAttrs_list PySem.F.slot_list_pop PySem.F.type_list_pop mt_popAt ht (pa_cons pe_int pa_nil)); (case h9 => walk_at "vis"); (case h10 => decide); (case h11 => decide))
  | ((with_reducible refine' wo_append ?h1 ?h2 ?_ ?h4 ?h5 ?h6); (case h1 => with_reducible assumption); (case h2 => exact ⟨_, rfl⟩); (case h4 => exact pe_slot (by with_reducible assumption)); (case h5 => exact pe_bm PySem.F.plainAttrs_list PySem.F.slot_list_append PySem.F.type_list_append mt_append (pe_slot (by with_reducible assumption)) pa_w); (case h6 => rfl))
  | ((with_reducible refine' wo_insert ?h2 ?_ ?h4 ?h5 ?h6 ?h7); (case h4 => rfl); (case h5 => exact pe_bm PySem.F.plainAttrs_list PySem.F.slot_list_insert PySem.F.type_list_insert mt_insert (pe_slot (by with_reducible assumption)) pa_w); (case h2 => exact ⟨_, rfl⟩); (case h6 => rfl); (case h7 => rfl))
  | ((with_reducible refine' wo_popAt ?h1 ?_ ?h3 ?h4); (case h3 => exact pe_bm PySem.F.plainAttrs_list PySem.F.slot_list_pop PySem.F.type_list_pop mt_popAt (pe_slot (by with_reducible assumption)) pa_w); (case h1 => exact ⟨_, rfl⟩); (case h4 => rfl))
  | ((have hmode : PtMode := by with_reducible assumption); (with_reducible refine wo_tix ?_ ?h2 ?h3 ?h4 ?h5); (case h2 => rfl); (case h3 => rfl); (case h4 => rfl); (case h5 => rfl))
  | ((with_reducible refine' wo_indexI ?_ ?h5 ?h6); (case h5 => exact pe_bm PySem.F.plainAttrs_list PySem.F.slot_list_index PySem.F.type_list_index mt_index pe_w pa_w); (case h6 => rfl))
  | ((with_reducible refine' wo_pop ?h1 ?h2 ?h3 ?_ ?h5); (case h1 => rfl); (case h5 => exact pe_bm0 PySem.F.plainAttrs_list PySem.F.slot_list_pop PySem.F.type_list_pop mt_pop (pe_slot (by with_reducible assumption)))))
local macro_rules | `(tactic| walk_at "gWO") => `(tactic| first
  | with_reducible refine wo_not ?_
  | with_reducible refine wo_if ?_
  | with_reducible refine wo_lst ?_
  | with_reducible refine wo_tup ?_)
local macro_rules | `(tactic| walk_at "gWT") => `(tactic| first
  | ((with_reducible refine' wt_dne ?h1 ?h2 ?h3 ?h4 ?h5 ?h6 ?_ ?h9 ?h10 ?h11); (case h1 => with_reducible assumption); (case h2 => with_reducible assumption); (case h5 => walk_at "key"); (case h3 => rfl); (case h4 => exact kN); (case h6 => rfl); (case h9 => walk_at "vis"); (case h10 => decide); (case h11 => decide))
  | with_reducible refine wt_not ?_
  | with_reducible refine wt_bool ?_
  | ((with_reducible refine wt_chain ?_ ?h2); (case h2 => with_unfolding_all rfl))
  | ((with_reducible refine wt_cmpD ?h1 ?_); (case h1 => walk_at "mark"))
  | ((with_reducible refine wt_val ?_ ?h2); (case h2 => exact fun _ => rfl)))
local macro_rules | `(tactic| walk_at "gWW") => `(tactic| first
  | with_reducible refine ww_and ?_
  | with_reducible refine ww_and1 ?_
  | with_reducible refine ww_or ?_
  | with_reducible refine ww_or1 ?_)
local macro_rules | `(tactic| walk_at "gWA") => `(tactic| first
  | ((with_reducible refine wa_star ?_ ?h2); (case h2 => rfl))
  | ((with_reducible refine wa_cons ?_ ?h2); (case h2 => rfl))
  | with_reducible refine wa_nil ?_)
local macro_rules | `(tactic| walk_at "rest") => `(tactic| first
  | with_reducible refine wvs_cons ?_
  | with_reducible refine wvs_nil ?_
  | with_reducible refine wp_none ?_
  | with_reducible refine wp_some ?_
  | ((with_reducible refine' wtc_link ?h1 ?_); (case h1 => walk_at "ci"))
  | ((with_reducible refine' wtc_last ?h1 ?_); (case h1 => walk_at "ci")))
local macro_rules | `(tactic| walk_at "d") => `(tactic| first
  | ((with_reducible refine gWSs ?_); walk_at "gWSs")
  | ((with_reducible refine gWS ?_); walk_at "gWS")
  | ((with_reducible refine gWG ?_); walk_at "gWG")
  | ((with_reducible refine gENm ?_); walk_at "gENm")
  | ((with_reducible refine gWE ?_); walk_at "gWE")
  | ((with_reducible refine gName ?_); walk_at "gName")
  | ((with_reducible refine gCon ?_); walk_at "gCon")
  | ((with_reducible refine gBin ?_); walk_at "gBin")
  | ((with_reducible refine gBool ?_); walk_at "gBool")
  | ((with_reducible refine gCmp ?_); walk_at "gCmp")
  | ((with_reducible refine gSub ?_); walk_at "gSub")
  | ((with_reducible refine gCalN ?_); walk_at "gCalN")
  | ((with_reducible refine gCalA ?_); walk_at "gCalA")
  | ((with_reducible refine gWO ?_); walk_at "gWO")
  | ((with_reducible refine gWT ?_); walk_at "gWT")
  | ((with_reducible refine gWW ?_); walk_at "gWW")
  | ((with_reducible refine gWA ?_); walk_at "gWA")
  | walk_at "rest"
  | walk_at "ob")
local macro_rules | `(tactic| walk_at "go") => `(tactic| repeat walk_at "d")

open KP
def optD : Option Nat → D
  | none => .non
  | some p => .int (p : Nat)
def ct_gap_by : Ct := ⟨Int × List Int × Nat, fun a ds => ds = [.int a.1, stT a.2.1, .int (a.2.2 : Nat)] ∧ a.2.2 < a.2.1.length ∧ a.2.1.length ≤ 1000, fun a d _ => d = .int (gapF a.1 a.2.1 a.2.2)⟩
def ct_tight_place : Ct := ⟨Int × List Int × Nat, fun a ds => ds = [.int a.1, stT a.2.1, .int (a.2.2 : Nat)] ∧ OkS a.1 a.2.1 ∧ a.2.2 ≤ 59, fun a d _ => d = optD (tightF a.1 a.2.1 a.2.2)⟩
section
variable {P : Program} {w : World} {K : PySem.W.Frag} {mg : Str → Option Value} {base : Heap}
theorem cal_gap_by (Z : Fz K mg) : Cal P w K mg base 1 "gap_by" (toSp K 0 ct_gap_by) := by
  refine cal_of Z.d_gap_by sc_gap_by (fun a ds h => by rw [h.1]; rfl) (by decide) ?_
  intro f cdv A outer s H E hr (a : Int × List Int × Nat ) ds hp X
  have hNd : X.N.Nodup := sc_gap_by.nd
  have hN0 : X.N[0]? = some ("many" : Str) := rfl
  have hN1 : X.N[1]? = some ("state" : Str) := rfl
  have hN2 : X.N[2]? = some ("place" : Str) := rfl
  have hR : Room 0 X.A := hr
  have hu64 : X.A.units + 64 < cLine := by have := hR.un; omega
  have hu1 : X.A.units + 1 < cLine := by have := hR.un; omega
  have m_len : X.mg "len" = none := Z.b_len
  obtain ⟨hds, hp⟩ := hp
  subst hds
  show WSs X [] (_ :: _) [ some (D.int a.1), some (stT a.2.1), some (D.int (a.2.2 : Nat))] _
  obtain ⟨m, st, p⟩ := a
  dsimp only at hp ⊢
  have hlm : (st.map D.int).length = st.length := List.length_map ..
  have atp : atI (st.map D.int) ((p : Nat) : Int) = some (.int (st.getD p 0)) := by
    rw [ix_nat (by omega), Int.toNat_natCast, List.getElem?_map, List.getElem?_eq_getElem hp.1, List.getD_eq_getElem?_getD, List.getElem?_eq_getElem hp.1]
    rfl
  walk_at "go"
  refine ⟨fun h => ?_, fun h => ?_⟩
  · have h := of_decide_eq_true h
    rw [hlm] at h
    have h2 : p + 1 < st.length := by omega
    have at1 : atI (st.map D.int) (((p : Nat) : Int) + 1) = some (.int (st.getD (p + 1) m)) := by
      have e : (((p : Nat) : Int) + 1).toNat = p + 1 := by omega
      rw [ix_nat (by omega), e, List.getElem?_map, List.getElem?_eq_getElem h2, List.getD_eq_getElem?_getD, List.getElem?_eq_getElem h2]
      rfl
    walk_at "go"
    exact ⟨[], rfl, rfl⟩
  · have h := of_decide_eq_false h
    rw [hlm] at h
    have e : st.getD (p + 1) m = m := by rw [List.getD_eq_getElem?_getD, List.getElem?_eq_none_iff.mpr (by omega)]; rfl
    walk_at "go"
    refine ⟨[], rfl, ?_⟩
    show _ = D.int (st.getD (p + 1) m - st.getD p 0 - 1)
    rw [e]
theorem cal_tight_place (Z : Fz K mg) : Cal P w K mg base 5 "tight_place" (toSp K 0 ct_tight_place) := by
  refine cal_of Z.d_tight_place sc_tight_place (fun a ds h => by rw [h.1]; rfl) (by decide) ?_
  intro f cdv A outer s H E hr (a : Int × List Int × Nat ) ds hp X
  have hNd : X.N.Nodup := sc_tight_place.nd
  have hN0 : X.N[0]? = some ("many" : Str) := rfl
  have hN1 : X.N[1]? = some ("state" : Str) := rfl
  have hN2 : X.N[2]? = some ("left" : Str) := rfl
  have hN3 : X.N[3]? = some ("place" : Str) := rfl
  have hR : Room 4 X.A := hr
  have hu64 : X.A.units + 64 < cLine := by have := hR.un; omega
  have hu1 : X.A.units + 1 < cLine := by have := hR.un; omega
  have c_need_state : Cal X.prog X.w X.K X.mg X.base 4 "need_state" (toSp X.K 0 ct_need_state) := cal_need_state Z
  have m_range : X.mg "range" = none := Z.b_range
  obtain ⟨t_MOST_LEFT, g_MOST_LEFT⟩ : ∃ t, X.mg "MOST_LEFT" = some (.int G_MOST_LEFT t) := Z.g_MOST_LEFT
  have m_len : X.mg "len" = none := Z.b_len
  have c_is_number : Cal X.prog X.w X.K X.mg X.base 2 "is_number" (toSp X.K 0 ct_is_number) := cal_is_number Z
  have c_gap_by : Cal X.prog X.w X.K X.mg X.base 1 "gap_by" (toSp X.K 0 ct_gap_by) := cal_gap_by Z
  obtain ⟨hds, hp⟩ := hp
  subst hds
  show WSs X [] (_ :: _) [ some (D.int a.1), some (stT a.2.1), some (D.int (a.2.2 : Nat)), none] _
  obtain ⟨m, st, left⟩ := a
  obtain ⟨ok, hl⟩ := hp
  dsimp only at ok hl ⊢
  have hlm : (st.map D.int).length = st.length := List.length_map ..
  have hsl := ok.len
  have hML : G_MOST_LEFT = 59 := rfl
  walk_at "go"
  refine ⟨(m, st), ⟨rfl, ok⟩, fun d hd => ?_⟩
  subst hd
  walk_at "go"
  refine ⟨((left : Nat), 0), ⟨rfl, by dsimp only; omega⟩, fun d hd => ?_⟩
  have hd : d = .bl (decide ((0 : Int) ≤ (left : Nat))) := hd
  subst hd
  walk_at "go"
  refine ws_for PassesOwn.never rfl ?_
  refine wi_range1 (by exact rfl) m_range ?_ (by rfl) (by rfl)
  walk_at "go"
  rw [hlm, Int.toNat_natCast]
  refine ⟨fun n E' => (∀ p, p < n → ¬ gapF m st p < 2 ^ left - 1) ∧ ∃ o, E' = [some (.int m), some (stT st), some (.int (left : Nat)), o], ⟨fun p h => absurd h (Nat.not_lt_zero p), none, rfl⟩, (fun _ _ _ _ p h => nomatch h), ?_, ?_⟩
  · rintro j E' hj ⟨hno, o, rfl⟩
    have e1 : 0 + (j : Int) = (j : Int) := by omega
    dsimp only
    rw [e1]
    walk_at "go"
    refine ⟨(m, st, j), ⟨rfl, hj, hsl⟩, fun d hd => ?_⟩
    have hd : d = .int (gapF m st j) := hd
    subst hd
    walk_at "go"
    have e2 : (1 : Int) * 2 ^ (((left : Nat) : Int)).toNat - 1 = 2 ^ left - 1 := by rw [Int.toNat_natCast, Int.one_mul]
    rw [e2]
    refine ⟨fun h => ?_, fun h => ?_⟩
    · have h := of_decide_eq_true h
      walk_at "go"
      refine ⟨[], rfl, ?_⟩
      show D.int (j : Int) = optD (tightF m st left)
      have : tightF m st left = some j := by
        refine List.find?_range_eq_some.mpr ⟨decide_eq_true h, List.mem_range.mpr hj, fun p hp => ?_⟩
        simpa using hno p hp
      rw [this]
      rfl
    · have h := of_decide_eq_false h
      walk_at "go"
      refine ⟨fun p hp => ?_, _, rfl⟩
      by_cases q : p = j
      · rw [q]; exact h
      · exact hno p (by omega)
  · rintro E' ⟨hno, o, rfl⟩
    walk_at "go"
    refine ⟨[], rfl, ?_⟩
    show D.non = optD (tightF m st left)
    have : tightF m st left = none := List.find?_eq_none.mpr fun p hp => by
      rw [List.mem_range] at hp
      simpa using hno p hp
    rw [this]
    rfl
end
end K23


namespace K23
open PySem PySem.Spec L2 DL Ln
open PyProof.Rows (envOfC)
local macro_rules | `(tactic| walk_at "imm") => `(tactic| first | assumption | trivial | exact imms_ints | exact imms_pairs | (simp only [Imm, Imms]; done) | exact ⟨trivial, trivial⟩ | exact ⟨trivial, imms_ints⟩ | exact imms_cut imms_ints | exact imms_app imms_ints ⟨trivial, trivial⟩ | exact imms_app (imms_cut imms_ints) ⟨trivial, trivial⟩ | exact imms_app (imms_app (imms_cut imms_ints) ⟨trivial, trivial⟩) (imms_cut imms_ints))
local macro_rules | `(tactic| walk_at "add") => `(tactic| first | exact AddD.int | exact AddD.lst (by walk_at "imm") (by walk_at "imm") (by first | assumption | (simp; omega)) | ((refine AddD.tup ?at1 ?at2 ?at3 ?at4 ?at5); (case at1 => rfl); (case at2 => rfl); (case at3 => walk_at "imm"); (case at4 => walk_at "imm"); (case at5 => first | with_reducible assumption | (simp; omega))))
local macro_rules | `(tactic| walk_at "cost") => `(tactic| first | with_reducible assumption | (with_reducible exact cpow (by omega) (by omega) (by omega) (by omega)) | (with_reducible exact cdivw (by omega) (by omega)) | (with_reducible exact cmul1 (by omega) (by omega)) | (with_reducible exact cmul2 (by omega) (by omega)) | with_reducible exact imms_ints | omega)
local macro_rules | `(tactic| walk_at "mul") => `(tactic| ((refine MulD.int ?_); walk_at "cost"))
local macro_rules | `(tactic| walk_at "cmp") => `(tactic| first | with_reducible exact cmp_lt | with_reducible exact cmp_le | with_reducible exact cmp_gt | with_reducible exact cmp_ge | with_reducible exact cmp_eqI | with_reducible exact cmp_neI | with_reducible exact cmp_isN | with_reducible exact cmp_notN | ((with_reducible refine cmp_neLL ?_); with_reducible assumption) | ((with_reducible refine cmp_neTT ?_); with_reducible assumption) | ((with_reducible refine cmp_nePT ?_); with_reducible assumption) | ((with_reducible refine cmp_eqLL ?_); with_reducible assumption) | ((with_reducible refine cmp_eqLN ?_); with_reducible assumption) | ((with_reducible refine cmp_neLN ?_); with_reducible assumption) | ((with_reducible refine cmp_neP ?_); with_reducible assumption) | ((with_reducible refine cmp_eqN ?_); with_reducible assumption) | with_reducible exact cmp_notB | with_reducible exact cmp_neB | with_reducible exact cmp_eqB | with_reducible exact cmp_inL | with_reducible exact cmp_inF | with_reducible exact cmp_inT | with_reducible exact cmp_inP | with_reducible exact cmp_niL | with_reducible exact cmp_niF | with_reducible exact cmp_niT | with_reducible exact cmp_niP | exact cmp_lt | exact cmp_le | exact cmp_gt | exact cmp_ge | exact cmp_eqI | exact cmp_neI | exact cmp_isN | exact cmp_notN | ((refine cmp_neLL ?_); with_reducible assumption) | ((refine cmp_neTT ?_); with_reducible assumption) | ((refine cmp_nePT ?_); with_reducible assumption) | ((refine cmp_eqLL ?_); with_reducible assumption) | ((refine cmp_eqLN ?_); with_reducible assumption) | ((refine cmp_neLN ?_); with_reducible assumption) | ((refine cmp_neP ?_); with_reducible assumption) | ((refine cmp_eqN ?_); with_reducible assumption) | exact cmp_notB | exact cmp_neB | exact cmp_eqB | exact cmp_inL | exact cmp_inF | exact cmp_inT | exact cmp_inP | exact cmp_niL | exact cmp_niF | exact cmp_niT | exact cmp_niP)
local macro_rules | `(tactic| walk_at "ci") => `(tactic| first | exact cmpi_lt | exact cmpi_le | exact cmpi_gt | exact cmpi_ge)
local macro_rules | `(tactic| walk_at "sl") => `(tactic| first | ((refine sl_t ?_); walk_at "imm") | ((refine sl_p ?_); walk_at "imm") | ((refine sl_l ?_); walk_at "imm") | ((refine sl_f ?_); walk_at "imm"))
local macro_rules | `(tactic| walk_at "mark") => `(tactic| first | exact nomark _ | with_unfolding_all rfl)
local macro_rules | `(tactic| walk_at "boot") => `(tactic| first | with_reducible exact PyProof.Rows.boot_int | with_reducible exact PyProof.Rows.boot_bool | with_reducible exact PyProof.Rows.boot_tuple | with_reducible exact PyProof.Rows.boot_list | with_reducible exact PyProof.Rows.boot_str | with_reducible exact PyProof.Rows.boot_dict)
local macro_rules | `(tactic| walk_at "kit") => `(tactic| first | with_reducible exact kit_ii | with_reducible exact kit_ib | with_reducible exact kit_it | with_reducible exact kit_tt | with_reducible exact kit_ti | with_reducible exact kit_bb | with_reducible exact kit_bi | with_reducible exact kit_ll | with_reducible exact kit_dd | with_reducible exact kit_ss)
local macro_rules | `(tactic| walk_at "vis") => `(tactic| first | exact Or.inl rfl | exact Or.inr (Or.inl rfl) | exact Or.inr (Or.inr rfl))
local macro_rules | `(tactic| walk_at "pin") => `(tactic| first | decide | (simp only [watch, List.map_nil, List.map_cons, List.nil_append, List.append_nil, List.cons_append]; decide))
local macro_rules | `(tactic| walk_at "loc") => `(tactic| first | exact Or.inl rfl | exact Or.inr rfl)
local macro_rules | `(tactic| walk_at "key") => `(tactic| first | with_reducible exact key0 | with_reducible exact key1 | with_reducible exact key2 | with_reducible exact key3)
local macro_rules | `(tactic| walk_at "dg") => `(tactic| (
  (with_reducible refine' wo_dget ?h1 ?h2 ?h3 ?h4 ?h5 ?h6 ?h7 ?_ ?h9 ?h10 ?h11); (case h1 => with_reducible assumption); (case h2 => with_reducible assumption); (case h5 => walk_at "key"); (case h3 => rfl); (case h4 => exact kN); (case h6 => rfl); (case h7 => trivial); (case h9 => walk_at "vis"); (case h10 => decide); (case h11 => decide)))
local macro_rules | `(tactic| walk_at "ob") => `(tactic| first
  | (refine ⟨Nat.le_of_ble_eq_true rfl, ?_⟩; try dsimp only [List.set])
  | (refine ⟨_, rfl, Nat.le_of_ble_eq_true rfl, ?_⟩; try dsimp only [List.set])
  | (refine ⟨_, rfl, trivial, Nat.le_of_ble_eq_true rfl, Nat.le_of_ble_eq_true rfl, ?_⟩; try dsimp only [List.set])
  | (refine ⟨_, _, rfl, Nat.le_of_ble_eq_true rfl, Nat.le_of_ble_eq_true rfl, ?_⟩; try dsimp only [List.set])
  | (refine ⟨_, _, _, rfl, Nat.le_of_ble_eq_true rfl, Nat.le_of_ble_eq_true rfl, Nat.le_of_ble_eq_true rfl, ?_⟩; try dsimp only [List.set])
  | refine ⟨fun _ => ?_, fun h => Bool.noConfusion h⟩
  | refine ⟨fun h => Bool.noConfusion h, fun _ => ?_⟩
  | refine ⟨_, rfl, ?_⟩
  | refine ⟨_, _, rfl, rfl, ?_⟩
  | refine ⟨_, _, _, _, rfl, rfl, rfl, ?_⟩
  | (refine ⟨_, _, _, ?dd, rfl, rfl, rfl, ?hh, ?_⟩; (case hh => walk_at "kit"))
  | (refine ⟨_, _, ?dd, rfl, rfl, ?hh, ?_⟩; (case hh => first | walk_at "add" | walk_at "mul" | walk_at "cmp"))
  | (refine ⟨_, ?dd, rfl, ?hh, ?_⟩; (case hh => walk_at "sl"))
  | (refine ⟨_, _, ?dd, rfl, rfl, ?hh, ?ii, ?_⟩; (case hh => first | with_reducible assumption | with_reducible exact at2_0 | with_reducible exact at2_1 | with_reducible exact at3_0 | with_reducible exact at3_1 | with_reducible exact at3_2); (case ii => trivial))
  | (refine ⟨fun _ => ?_, ?hx⟩; (case hx => (intro h; exfalso; (first | ((simp only [decide_eq_false_iff_not, decide_eq_true_eq, Bool.not_eq_true', Bool.not_eq_false'] at h); omega) | ((simp at h); done)))))
  | (refine ⟨?hx, fun _ => ?_⟩; (case hx => (intro h; exfalso; (first | ((simp only [decide_eq_false_iff_not, decide_eq_true_eq, Bool.not_eq_true', Bool.not_eq_false'] at h); omega) | ((simp at h); done)))))
  | ((with_reducible refine And.intro ?hh ?_); (case hh => walk_at "cost")))
local macro_rules | `(tactic| walk_at "gWSs") => `(tactic| first
  | with_reducible refine wss_nil ?_
  | with_reducible refine wss_one ?_
  | with_reducible refine wss_cons ?_)
local macro_rules | `(tactic| walk_at "gWS") => `(tactic| first
  | with_reducible refine ws_if ?_
  | with_reducible refine ws_ret ?_
  | ((with_reducible refine' ws_set ?h1 ?h2 ?h3 ?h4 ?_ ?h6 ?h7); (case h1 => with_reducible assumption); (case h2 => with_reducible assumption); (case h3 => walk_at "loc"); (case h4 => walk_at "pin"); (case h6 => rfl); (case h7 => exact .inl rfl))
  | ((with_reducible refine' ws_augI ?h1 ?h2 ?h3 ?h4 ?h5 ?_ ?h7); (case h1 => with_reducible assumption); (case h2 => with_reducible assumption); (case h3 => rfl); (case h4 => walk_at "loc"); (case h5 => walk_at "pin"); (case h7 => exact .inl rfl))
  | ((with_reducible refine' ws_asg2 ?h1 ?h2 ?h3 ?h4 ?h5 ?h6 ?h7 ?_ ?h9 ?h10 ?h11 ?h12); (case h1 => with_reducible assumption); (case h2 => with_reducible assumption); (case h3 => with_reducible assumption); (case h4 => walk_at "loc"); (case h5 => walk_at "loc"); (case h6 => walk_at "pin"); (case h7 => walk_at "pin"); (case h9 => exact .inl rfl); (case h10 => exact .inl rfl); (case h11 => rfl); (case h12 => rfl))
  | ((with_reducible refine' ws_dput ?h1 ?h2 ?_ ?h4 ?h5 ?h6 ?h7); (case h1 => with_reducible assumption); (case h2 => with_reducible assumption); (case h4 => rfl); (case h5 => walk_at "vis"); (case h6 => decide); (case h7 => decide))
  | ((with_reducible refine' ws_asg ?_ ?h2 ?h3 ?h4); (case h2 => rfl); (case h3 => rfl); (case h4 => rfl))
  | ((with_reducible refine ws_expr ?_ ?h2); (case h2 => rfl))
  | with_reducible refine ws_pass ?_)
local macro_rules | `(tactic| walk_at "gWG") => `(tactic| first
  | ((with_reducible refine' wg_name ?h1 ?h2 ?h3 ?h4 ?h5 ?_ ?h7); (case h1 => with_reducible assumption); (case h2 => with_reducible assumption); (case h3 => walk_at "loc"); (case h4 => walk_at "pin"); (case h5 => exact Nat.le_of_ble_eq_true rfl); (case h7 => exact .inl rfl); (try dsimp only [List.set]))
  | ((with_reducible refine' wg_pair ?a1 ?a2 ?a3 ?a4 ?a5 ?a6 ?a7 ?a8 ?a9 ?b1 ?_ ?b3 ?b4 ?b5 ?b6 ?b7); (case a1 => rfl); (case a2 => with_reducible assumption); (case a3 => with_reducible assumption); (case a4 => with_reducible assumption); (case a5 => walk_at "loc"); (case a6 => walk_at "loc"); (case a7 => walk_at "pin"); (case a8 => walk_at "pin"); (case a9 => exact Nat.le_of_ble_eq_true rfl); (case b1 => exact Nat.le_of_ble_eq_true rfl); (case b3 => exact .inl rfl); (case b4 => exact .inl rfl); (case b5 => exact fun t h => pg_tup rfl h); (case b6 => exact fun t u h1 h2 => pgs_cons h1 h2); (case b7 => exact fun t h => pgs_cons h pgs_nil); (try dsimp only [List.set]))
  | ((with_reducible refine' wg_tri ?a1 ?a2 ?a3 ?a4 ?a5 ?a6 ?a7 ?a8 ?b1 ?b2 ?b3 ?b4 ?b5 ?_ ?c1 ?c2 ?c3 ?c4 ?c5 ?c6 ?c7); (case a1 => rfl); (case a2 => with_reducible assumption); (case a3 => with_reducible assumption); (case a4 => with_reducible assumption); (case a5 => with_reducible assumption); (case a6 => walk_at "loc"); (case a7 => walk_at "loc"); (case a8 => walk_at "loc"); (case b1 => walk_at "pin"); (case b2 => walk_at "pin"); (case b3 => walk_at "pin"); (case b4 => exact ⟨Nat.le_of_ble_eq_true rfl, Nat.le_of_ble_eq_true rfl, Nat.le_of_ble_eq_true rfl⟩); (case b5 => first | exact ⟨trivial, trivial, trivial⟩ | exact ⟨trivial, imms_ints, trivial⟩); (case c1 => exact .inl rfl); (case c2 => exact .inl rfl); (case c3 => exact .inl rfl); (case c4 => exact fun t h => pg_tup rfl h); (case c5 => exact fun t u h1 h2 => pgs_cons h1 h2); (case c6 => exact fun t u h1 h2 => pgs_cons h1 h2); (case c7 => exact fun t h => pgs_cons h pgs_nil); (try dsimp only [List.set])))
local macro_rules | `(tactic| walk_at "gENm") => `(tactic| first
  | ((with_reducible refine' we_name ?h1 ?h2 ?h3 ?_ ?h5 ?h6 ?h7); (case h1 => with_reducible assumption); (case h2 => rfl); (case h3 => walk_at "imm"); (case h5 => walk_at "vis"); (case h6 => decide); (case h7 => decide))
  | ((with_reducible refine' we_move ?h1 ?h2 ?_ ?h5 ?h6 ?h7); (case h1 => with_reducible assumption); (case h2 => rfl); (case h5 => walk_at "vis"); (case h6 => decide); (case h7 => decide); (try dsimp only [List.set])))
local macro_rules | `(tactic| walk_at "gWE") => `(tactic| first
  | with_reducible refine we_of ?_)
local macro_rules | `(tactic| walk_at "gName") => `(tactic| first
  | ((with_reducible refine' wo_nameI ?h1 ?h2 ?h3 ?_ ?h5 ?h6 ?h7); (case h1 => with_reducible assumption); (case h2 => rfl); (case h3 => walk_at "imm"); (case h5 => walk_at "vis"); (case h6 => decide); (case h7 => decide))
  | ((with_reducible refine' wo_name ?h1 ?h2 ?_ ?h5 ?h6 ?h7); (case h1 => with_reducible assumption); (case h2 => rfl); (case h5 => walk_at "vis"); (case h6 => decide); (case h7 => decide))
  | ((with_reducible refine' wo_gint ?h1 ?h2 ?_ ?h4); (case h1 => rfl); (case h2 => with_reducible assumption); (case h4 => decide))
  | ((with_reducible refine' wo_tyn ?h1 ?h2 ?h3 ?_ ?h5 ?h6); (case h1 => rfl); (case h2 => with_reducible assumption); (case h3 => walk_at "boot"); (case h5 => decide); (case h6 => decide)))
local macro_rules | `(tactic| walk_at "gCon") => `(tactic| first
  | with_reducible refine wo_int ?_
  | with_reducible refine wo_non ?_
  | with_reducible refine wo_bl ?_
  | with_reducible refine wo_str ?_)
local macro_rules | `(tactic| walk_at "gBin") => `(tactic| first
  | with_reducible refine wo_addD ?_
  | with_reducible refine wo_sub ?_
  | with_reducible refine wo_mulD ?_
  | with_reducible refine wo_mod ?_
  | with_reducible refine wo_fdiv ?_
  | with_reducible refine wo_pow ?_
  | with_reducible refine wo_shl ?_)
local macro_rules | `(tactic| walk_at "gBool") => `(tactic| first
  | with_reducible refine wo_and ?_
  | with_reducible refine wo_or ?_
  | with_reducible refine wo_bone ?_)
local macro_rules | `(tactic| walk_at "gCmp") => `(tactic| first
  | ((with_reducible refine wo_chain ?_ ?h2); (case h2 => with_unfolding_all rfl))
  | ((with_reducible refine wo_cmpD ?h1 ?_); (case h1 => walk_at "mark")))
local macro_rules | `(tactic| walk_at "gSub") => `(tactic| first
  | walk_at "dg"
  | with_reducible refine wo_slD ?_
  | with_reducible refine wo_revL ?_
  | ((with_reducible refine wo_ix ?h1 ?_); (case h1 => exact fun _ _ => rfl)))
local macro_rules | `(tactic| walk_at "gCalN") => `(tactic| first
  | ((with_reducible refine wo_sortedS ?h1 ?h2 ?_ ?h4); (case h1 => rfl); (case h2 => with_reducible assumption); (case h4 => rfl))
  | ((with_reducible refine' wo_c0 ?h1 ?h2 ?h3 ?h4 ?_ ?h6 ?h7 ?h8); (case h1 => with_reducible assumption); (case h2 => with_reducible assumption); (case h3 => first | decide | exact Nat.le_refl _ | omega); (case h4 => rfl); (case h6 => decide); (case h7 => rfl); (case h8 => rfl))
  | ((with_reducible refine' wo_c1 ?h1 ?h2 ?h3 ?h4 ?_ ?h6 ?h7 ?h8); (case h1 => with_reducible assumption); (case h2 => with_reducible assumption); (case h3 => first | decide | exact Nat.le_refl _ | omega); (case h4 => rfl); (case h6 => decide); (case h7 => rfl); (case h8 => rfl))
  | ((with_reducible refine wo_len ?h1 ?h2 ?_ ?h4); (case h1 => rfl); (case h2 => with_reducible assumption); (case h4 => rfl))
  | ((with_reducible refine wo_min2 rfl ?h1 ?h2 ?_ ?h4 ?h5); (case h1 => rfl); (case h2 => with_reducible assumption); (case h4 => rfl); (case h5 => rfl))
  | ((with_reducible refine wo_max2 rfl ?h1 ?h2 ?_ ?h4 ?h5); (case h1 => rfl); (case h2 => with_reducible assumption); (case h4 => rfl); (case h5 => rfl))
  | ((with_reducible refine wo_abs ?h1 ?h2 ?_ ?h4); (case h1 => rfl); (case h2 => with_reducible assumption); (case h4 => rfl))
  | ((with_reducible refine wo_intI ?h1 ?h2 ?_ ?h4); (case h1 => rfl); (case h2 => with_reducible assumption); (case h4 => rfl))
  | ((have hmode : PtMode := by with_reducible assumption); (with_reducible refine wo_tupleF ?h1 ?h2 ?_ ?h4); (case h1 => rfl); (case h2 => with_reducible assumption); (case h4 => rfl))
  | ((with_reducible refine wo_tuple ?h1 ?h2 ?_ ?h4); (case h1 => rfl); (case h2 => with_reducible assumption); (case h4 => rfl))
  | ((with_reducible refine wo_listR1 rfl ?h1 ?h2 ?h3 ?h5 ?_ ?h4 ?h6); (case h1 => rfl); (case h2 => with_reducible assumption); (case h3 => rfl); (case h5 => with_reducible assumption); (case h4 => rfl); (case h6 => rfl))
  | ((with_reducible refine wo_list ?h1 ?h2 ?_ ?h4); (case h1 => rfl); (case h2 => with_reducible assumption); (case h4 => rfl))
  | ((with_reducible refine wo_all ?h0 ?h1 ?h2 ?_ ?h4); (case h0 => rfl); (case h1 => rfl); (case h2 => with_reducible assumption); (case h4 => rfl))
  | ((with_reducible refine wo_isi2 ?h1 ?h2 ?_ ?h4 ?h5); (case h1 => rfl); (case h2 => with_reducible assumption); (case h4 => rfl); (case h5 => rfl)))
local macro_rules | `(tactic| walk_at "gCalA") => `(tactic| first
  | ((with_reducible refine' wo_dpop ?h1 ?h2 ?h3 ?h4 ?h5 ?h6 ?_ ?h8 ?h9 ?h10 ?h11); (case h1 => with_reducible assumption); (case h2 => with_reducible assumption); (case h5 => walk_at "key"); (case h3 => rfl); (case h4 => exact kN); (case h6 => rfl); (case h8 => exact fun t ht => pe_bm PySem.F.plainAttrs_list PySem.F.slot_list_pop PySem.F.type_list_pop mt_popAt ht (pa_cons pe_int pa_nil)); (case h9 => walk_at "vis"); (case h10 => decide); (case h11 => decide))
  | ((with_reducible refine' wo_append ?h1 ?h2 ?_ ?h4 ?h5 ?h6); (case h1 => with_reducible assumption); (case h2 => exact ⟨_, rfl⟩); (case h4 => exact pe_slot (by with_reducible assumption)); (case h5 => exact pe_bm PySem.F.plainAttrs_list PySem.F.slot_list_append PySem.F.type_list_append mt_append (pe_slot (by with_reducible assumption)) pa_w); (case h6 => rfl))
  | ((with_reducible refine' wo_insert ?h2 ?_ ?h4 ?h5 ?h6 ?h7); (case h4 => rfl); (case h5 => exact pe_bm PySem.F.plainAttrs_list PySem.F.slot_list_insert PySem.F.type_list_insert mt_insert (pe_slot (by with_reducible assumption)) pa_w); (case h2 => exact ⟨_, rfl⟩); (case h6 => rfl); (case h7 => rfl))
  | ((with_reducible refine' wo_popAt ?h1 ?_ ?h3 ?h4); (case h3 => exact pe_bm PySem.F.plainAttrs_list PySem.F.slot_list_pop PySem.F.type_list_pop mt_popAt (pe_slot (by with_reducible assumption)) pa_w); (case h1 => exact ⟨_, rfl⟩); (case h4 => rfl))
  | ((have hmode : PtMode := by with_reducible assumption); (with_reducible refine wo_tix ?_ ?h2 ?h3 ?h4 ?h5); (case h2 => rfl); (case h3 => rfl); (case h4 => rfl); (case h5 => rfl))
  | ((with_reducible refine' wo_indexI ?_ ?h5 ?h6); (case h5 => exact pe_bm PySem.F.plainAttrs_list PySem.F.slot_list_index PySem.F.type_list_index mt_index pe_w pa_w); (case h6 => rfl))
  | ((with_reducible refine' wo_pop ?h1 ?h2 ?h3 ?_ ?h5); (case h1 => rfl); (case h5 => exact pe_bm0 PySem.F.plainAttrs_list PySem.F.slot_list_pop PySem.F.type_list_pop mt_pop (pe_slot (by with_reducible assumption)))))
local macro_rules | `(tactic| walk_at "gWO") => `(tactic| first
  | with_reducible refine wo_not ?_
  | with_reducible refine wo_if ?_
  | with_reducible refine wo_lst ?_
  | with_reducible refine wo_tup ?_)
local macro_rules | `(tactic| walk_at "gWT") => `(tactic| first
  | ((with_reducible refine' wt_dne ?h1 ?h2 ?h3 ?h4 ?h5 ?h6 ?_ ?h9 ?h10 ?h11); (case h1 => with_reducible assumption); (case h2 => with_reducible assumption); (case h5 => walk_at "key"); (case h3 => rfl); (case h4 => exact kN); (case h6 => rfl); (case h9 => walk_at "vis"); (case h10 => decide); (case h11 => decide))
  | with_reducible refine wt_not ?_
  | with_reducible refine wt_bool ?_
  | ((with_reducible refine wt_chain ?_ ?h2); (case h2 => with_unfolding_all rfl))
  | ((with_reducible refine wt_cmpD ?h1 ?_); (case h1 => walk_at "mark"))
  | ((with_reducible refine wt_val ?_ ?h2); (case h2 => exact fun _ => rfl)))
local macro_rules | `(tactic| walk_at "gWW") => `(tactic| first
  | with_reducible refine ww_and ?_
  | with_reducible refine ww_and1 ?_
  | with_reducible refine ww_or ?_
  | with_reducible refine ww_or1 ?_)
local macro_rules | `(tactic| walk_at "gWA") => `(tactic| first
  | ((with_reducible refine wa_star ?_ ?h2); (case h2 => rfl))
  | ((with_reducible refine wa_cons ?_ ?h2); (case h2 => rfl))
  | with_reducible refine wa_nil ?_)
local macro_rules | `(tactic| walk_at "rest") => `(tactic| first
  | with_reducible refine wvs_cons ?_
  | with_reducible refine wvs_nil ?_
  | with_reducible refine wp_none ?_
  | with_reducible refine wp_some ?_
  | ((with_reducible refine' wtc_link ?h1 ?_); (case h1 => walk_at "ci"))
  | ((with_reducible refine' wtc_last ?h1 ?_); (case h1 => walk_at "ci")))
local macro_rules | `(tactic| walk_at "d") => `(tactic| first
  | ((with_reducible refine gWSs ?_); walk_at "gWSs")
  | ((with_reducible refine gWS ?_); walk_at "gWS")
  | ((with_reducible refine gWG ?_); walk_at "gWG")
  | ((with_reducible refine gENm ?_); walk_at "gENm")
  | ((with_reducible refine gWE ?_); walk_at "gWE")
  | ((with_reducible refine gName ?_); walk_at "gName")
  | ((with_reducible refine gCon ?_); walk_at "gCon")
  | ((with_reducible refine gBin ?_); walk_at "gBin")
  | ((with_reducible refine gBool ?_); walk_at "gBool")
  | ((with_reducible refine gCmp ?_); walk_at "gCmp")
  | ((with_reducible refine gSub ?_); walk_at "gSub")
  | ((with_reducible refine gCalN ?_); walk_at "gCalN")
  | ((with_reducible refine gCalA ?_); walk_at "gCalA")
  | ((with_reducible refine gWO ?_); walk_at "gWO")
  | ((with_reducible refine gWT ?_); walk_at "gWT")
  | ((with_reducible refine gWW ?_); walk_at "gWW")
  | ((with_reducible refine gWA ?_); walk_at "gWA")
  | walk_at "rest"
  | walk_at "ob")
local macro_rules | `(tactic| walk_at "go") => `(tactic| repeat walk_at "d")

open KP
def halfF (m : Int) (st : List Int) (p : Nat) : List Int := st.take (p + 1) ++ (st.getD p 0 + (gapF m st p + 1) / 2) :: st.drop (p + 1)
def ct_halfway : Ct := ⟨Int × List Int × Nat, fun a ds => ds = [.int a.1, stT a.2.1, .int (a.2.2 : Nat)] ∧ OkS a.1 a.2.1 ∧ a.2.2 < a.2.1.length, fun a d _ => d = if gapF a.1 a.2.1 a.2.2 = 0 then .non else stT (halfF a.1 a.2.1 a.2.2)⟩
section
variable {P : Program} {w : World} {K : PySem.W.Frag} {mg : Str → Option Value} {base : Heap}
theorem cal_halfway (Z : Fz K mg) : Cal P w K mg base 5 "halfway" (toSp K 0 ct_halfway) := by
  refine cal_of Z.d_halfway sc_halfway (fun a ds h => by rw [h.1]; rfl) (by decide) ?_
  intro f cdv A outer s H E hr (a : Int × List Int × Nat ) ds hp X
  have hNd : X.N.Nodup := sc_halfway.nd
  have hN0 : X.N[0]? = some ("many" : Str) := rfl
  have hN1 : X.N[1]? = some ("state" : Str) := rfl
  have hN2 : X.N[2]? = some ("place" : Str) := rfl
  have hN3 : X.N[3]? = some ("gap" : Str) := rfl
  have hR : Room 4 X.A := hr
  have hu64 : X.A.units + 64 < cLine := by have := hR.un; omega
  have hu1 : X.A.units + 1 < cLine := by have := hR.un; omega
  have c_need_state : Cal X.prog X.w X.K X.mg X.base 4 "need_state" (toSp X.K 0 ct_need_state) := cal_need_state Z
  have c_need_place : Cal X.prog X.w X.K X.mg X.base 3 "need_place" (toSp X.K 0 ct_need_place) := cal_need_place Z
  have c_gap_by : Cal X.prog X.w X.K X.mg X.base 1 "gap_by" (toSp X.K 0 ct_gap_by) := cal_gap_by Z
  obtain ⟨hds, hp⟩ := hp
  subst hds
  show WSs X [] (_ :: _) [ some (D.int a.1), some (stT a.2.1), some (D.int (a.2.2 : Nat)), none] _
  obtain ⟨m, st, p⟩ := a
  obtain ⟨ok, hlt⟩ := hp
  dsimp only at ok hlt ⊢
  have hsl := ok.len
  have atp : atI (st.map D.int) ((p : Nat) : Int) = some (.int (st.getD p 0)) := by
    rw [ix_nat (by omega), Int.toNat_natCast, List.getElem?_map, List.getElem?_eq_getElem hlt, List.getD_eq_getElem?_getD, List.getElem?_eq_getElem hlt]
    rfl
  walk_at "go"
  refine ⟨(m, st), ⟨rfl, ok⟩, fun d hd => ?_⟩
  subst hd
  walk_at "go"
  refine ⟨(st, (p : Nat)), ⟨rfl, by dsimp only; omega, by dsimp only; omega, hsl⟩, fun d hd => ?_⟩
  subst hd
  walk_at "go"
  refine ⟨(m, st, p), ⟨rfl, hlt, hsl⟩, fun d hd => ?_⟩
  have hd : d = .int (gapF m st p) := hd
  subst hd
  walk_at "go"
  refine ⟨fun h => ?_, fun h => ?_⟩
  · have h := of_decide_eq_true h
    walk_at "go"
    refine ⟨[], rfl, ?_⟩
    show D.non = if gapF m st p = 0 then D.non else _
    rw [if_pos h]
  · have h := of_decide_eq_false h
    walk_at "go"
    have e1 : (((p : Nat) : Int) + 1).toNat = p + 1 := by omega
    rw [cutD_to (by omega), e1, ← List.map_take]
    refine ⟨imms_ints, ?_⟩
    walk_at "go"
    rw [cutD_from (by omega), e1, ← List.map_drop]
    refine ⟨imms_ints, ?_⟩
    walk_at "go"
    refine ⟨(halfF m st p).map D.int, ?_, by rw [List.length_map]; unfold halfF; simp; omega, ?_⟩
    · rw [valsOf_app, valsOf, valsOf_app]
      unfold halfF
      simp [valsOf]
    walk_at "go"
    refine ⟨[], rfl, ?_⟩
    show _ = if gapF m st p = 0 then D.non else stT (halfF m st p)
    rw [if_neg h]
    rfl
end
end K23


namespace K23
open PySem PySem.Spec L2 DL Ln
open PyProof.Rows (envOfC)
local macro_rules | `(tactic| walk_at "imm") => `(tactic| first | assumption | trivial | exact imms_ints | exact imms_pairs | (simp only [Imm, Imms]; done) | exact ⟨trivial, trivial⟩ | exact ⟨trivial, imms_ints⟩ | exact imms_cut imms_ints | exact imms_app imms_ints ⟨trivial, trivial⟩ | exact imms_app (imms_cut imms_ints) ⟨trivial, trivial⟩ | exact imms_app (imms_app (imms_cut imms_ints) ⟨trivial, trivial⟩) (imms_cut imms_ints))
local macro_rules | `(tactic| walk_at "add") => `(tactic| first | exact AddD.int | exact AddD.lst (by walk_at "imm") (by walk_at "imm") (by first | assumption | (simp; omega)) | ((refine AddD.tup ?at1 ?at2 ?at3 ?at4 ?at5); (case at1 => rfl); (case at2 => rfl); (case at3 => walk_at "imm"); (case at4 => walk_at "imm"); (case at5 => first | with_reducible assumption | (simp; omega))))
local macro_rules | `(tactic| walk_at "cost") => `(tactic| first | with_reducible assumption | (with_reducible exact cpow (by omega) (by omega) (by omega) (by omega)) | (with_reducible exact cdivw (by omega) (by omega)) | (with_reducible exact cmul1 (by omega) (by omega)) | (with_reducible exact cmul2 (by omega) (by omega)) | with_reducible exact imms_ints | omega)
local macro_rules | `(tactic| walk_at "mul") => `(tactic| ((refine MulD.int ?_); walk_at "cost"))
local macro_rules | `(tactic| walk_at "cmp") => `(tactic| first | with_reducible exact cmp_lt | with_reducible exact cmp_le | with_reducible exact cmp_gt | with_reducible exact cmp_ge | with_reducible exact cmp_eqI | with_reducible exact cmp_neI | with_reducible exact cmp_isN | with_reducible exact cmp_notN | ((with_reducible refine cmp_neLL ?_); with_reducible assumption) | ((with_reducible refine cmp_neTT ?_); with_reducible assumption) | ((with_reducible refine cmp_nePT ?_); with_reducible assumption) | ((with_reducible refine cmp_eqLL ?_); with_reducible assumption) | ((with_reducible refine cmp_eqLN ?_); with_reducible assumption) | ((with_reducible refine cmp_neLN ?_); with_reducible assumption) | ((with_reducible refine cmp_neP ?_); with_reducible assumption) | ((with_reducible refine cmp_eqN ?_); with_reducible assumption) | with_reducible exact cmp_notB | with_reducible exact cmp_neB | with_reducible exact cmp_eqB | with_reducible exact cmp_inL | with_reducible exact cmp_inF | with_reducible exact cmp_inT | with_reducible exact cmp_inP | with_reducible exact cmp_niL | with_reducible exact cmp_niF | with_reducible exact cmp_niT | with_reducible exact cmp_niP | exact cmp_lt | exact cmp_le | exact cmp_gt | exact cmp_ge | exact cmp_eqI | exact cmp_neI | exact cmp_isN | exact cmp_notN | ((refine cmp_neLL ?_); with_reducible assumption) | ((refine cmp_neTT ?_); with_reducible assumption) | ((refine cmp_nePT ?_); with_reducible assumption) | ((refine cmp_eqLL ?_); with_reducible assumption) | ((refine cmp_eqLN ?_); with_reducible assumption) | ((refine cmp_neLN ?_); with_reducible assumption) | ((refine cmp_neP ?_); with_reducible assumption) | ((refine cmp_eqN ?_); with_reducible assumption) | exact cmp_notB | exact cmp_neB | exact cmp_eqB | exact cmp_inL | exact cmp_inF | exact cmp_inT | exact cmp_inP | exact cmp_niL | exact cmp_niF | exact cmp_niT | exact cmp_niP)
local macro_rules | `(tactic| walk_at "ci") => `(tactic| first | exact cmpi_lt | exact cmpi_le | exact cmpi_gt | exact cmpi_ge)
local macro_rules | `(tactic| walk_at "sl") => `(tactic| first | ((refine sl_t ?_); walk_at "imm") | ((refine sl_p ?_); walk_at "imm") | ((refine sl_l ?_); walk_at "imm") | ((refine sl_f ?_); walk_at "imm"))
local macro_rules | `(tactic| walk_at "mark") => `(tactic| first | exact nomark _ | with_unfolding_all rfl)
local macro_rules | `(tactic| walk_at "boot") => `(tactic| first | with_reducible exact PyProof.Rows.boot_int | with_reducible exact PyProof.Rows.boot_bool | with_reducible exact PyProof.Rows.boot_tuple | with_reducible exact PyProof.Rows.boot_list | with_reducible exact PyProof.Rows.boot_str | with_reducible exact PyProof.Rows.boot_dict)
local macro_rules | `(tactic| walk_at "kit") => `(tactic| first | with_reducible exact kit_ii | with_reducible exact kit_ib | with_reducible exact kit_it | with_reducible exact kit_tt | with_reducible exact kit_ti | with_reducible exact kit_bb | with_reducible exact kit_bi | with_reducible exact kit_ll | with_reducible exact kit_dd | with_reducible exact kit_ss)
local macro_rules | `(tactic| walk_at "vis") => `(tactic| first | exact Or.inl rfl | exact Or.inr (Or.inl rfl) | exact Or.inr (Or.inr rfl))
local macro_rules | `(tactic| walk_at "pin") => `(tactic| first | decide | (simp only [watch, List.map_nil, List.map_cons, List.nil_append, List.append_nil, List.cons_append]; decide))
local macro_rules | `(tactic| walk_at "loc") => `(tactic| first | exact Or.inl rfl | exact Or.inr rfl)
local macro_rules | `(tactic| walk_at "key") => `(tactic| first | with_reducible exact key0 | with_reducible exact key1 | with_reducible exact key2 | with_reducible exact key3)
local macro_rules | `(tactic| walk_at "dg") => `(tactic| (
  (with_reducible refine' wo_dget ?h1 ?h2 ?h3 ?h4 ?h5 ?h6 ?h7 ?_ ?h9 ?h10 ?h11); (case h1 => with_reducible assumption); (case h2 => with_reducible assumption); (case h5 => walk_at "key"); (case h3 => rfl); (case h4 => exact kN); (case h6 => rfl); (case h7 => trivial); (case h9 => walk_at "vis"); (case h10 => decide); (case h11 => decide)))
local macro_rules | `(tactic| walk_at "ob") => `(tactic| first
  | (refine ⟨Nat.le_of_ble_eq_true rfl, ?_⟩; try dsimp only [List.set])
  | (refine ⟨_, rfl, Nat.le_of_ble_eq_true rfl, ?_⟩; try dsimp only [List.set])
  | (refine ⟨_, rfl, trivial, Nat.le_of_ble_eq_true rfl, Nat.le_of_ble_eq_true rfl, ?_⟩; try dsimp only [List.set])
  | (refine ⟨_, _, rfl, Nat.le_of_ble_eq_true rfl, Nat.le_of_ble_eq_true rfl, ?_⟩; try dsimp only [List.set])
  | (refine ⟨_, _, _, rfl, Nat.le_of_ble_eq_true rfl, Nat.le_of_ble_eq_true rfl, Nat.le_of_ble_eq_true rfl, ?_⟩; try dsimp only [List.set])
  | refine ⟨fun _ => ?_, fun h => Bool.noConfusion h⟩
  | refine ⟨fun h => Bool.noConfusion h, fun _ => ?_⟩
  | refine ⟨_, rfl, ?_⟩
  | refine ⟨_, _, rfl, rfl, ?_⟩
  | refine ⟨_, _, _, _, rfl, rfl, rfl, ?_⟩
  | (refine ⟨_, _, _, ?dd, rfl, rfl, rfl, ?hh, ?_⟩; (case hh => walk_at "kit"))
  | (refine ⟨_, _, ?dd, rfl, rfl, ?hh, ?_⟩; (case hh => first | walk_at "add" | walk_at "mul" | walk_at "cmp"))
  | (refine ⟨_, ?dd, rfl, ?hh, ?_⟩; (case hh => walk_at "sl"))
  | (refine ⟨_, _, ?dd, rfl, rfl, ?hh, ?ii, ?_⟩; (case hh => first | with_reducible assumption | with_reducible exact at2_0 | with_reducible exact at2_1 | with_reducible exact at3_0 | with_reducible exact at3_1 | with_reducible exact at3_2); (case ii => trivial))
  | (refine ⟨fun _ => ?_, ?hx⟩; (case hx => (intro h; exfalso; (first | ((simp only [decide_eq_false_iff_not, decide_eq_true_eq, Bool.not_eq_true', Bool.not_eq_false'] at h); omega) | ((simp at h); done)))))
  | (refine ⟨?hx, fun _ => ?_⟩; (case hx => (intro h; exfalso; (first | ((simp only [decide_eq_false_iff_not, decide_eq_true_eq, Bool.not_eq_true', Bool.not_eq_false'] at h); omega) | ((simp at h); done)))))
  | ((with_reducible refine And.intro ?hh ?_); (case hh => walk_at "cost")))
local macro_rules | `(tactic| walk_at "gWSs") => `(tactic| first
  | with_reducible refine wss_nil ?_
  | with_reducible refine wss_one ?_
  | with_reducible refine wss_cons ?_)
local macro_rules | `(tactic| walk_at "gWS") => `(tactic| first
  | with_reducible refine ws_if ?_
  | with_reducible refine ws_ret ?_
  | ((with_reducible refine' ws_set ?h1 ?h2 ?h3 ?h4 ?_ ?h6 ?h7); (case h1 => with_reducible assumption); (case h2 => with_reducible assumption); (case h3 => walk_at "loc"); (case h4 => walk_at "pin"); (case h6 => rfl); (case h7 => exact .inl rfl))
  | ((with_reducible refine' ws_augI ?h1 ?h2 ?h3 ?h4 ?h5 ?_ ?h7); (case h1 => with_reducible assumption); (case h2 => with_reducible assumption); (case h3 => rfl); (case h4 => walk_at "loc"); (case h5 => walk_at "pin"); (case h7 => exact .inl rfl))
  | ((with_reducible refine' ws_asg2 ?h1 ?h2 ?h3 ?h4 ?h5 ?h6 ?h7 ?_ ?h9 ?h10 ?h11 ?h12); (case h1 => with_reducible assumption); (case h2 => with_reducible assumption); (case h3 => with_reducible assumption); (case h4 => walk_at "loc"); (case h5 => walk_at "loc"); (case h6 => walk_at "pin"); (case h7 => walk_at "pin"); (case h9 => exact .inl rfl); (case h10 => exact .inl rfl); (case h11 => rfl); (case h12 => rfl))
  | ((with_reducible refine' ws_dput ?h1 ?h2 ?_ ?h4 ?h5 ?h6 ?h7); (case h1 => with_reducible assumption); (case h2 => with_reducible assumption); (case h4 => rfl); (case h5 => walk_at "vis"); (case h6 => decide); (case h7 => decide))
  | ((with_reducible refine' ws_asg ?_ ?h2 ?h3 ?h4); (case h2 => rfl); (case h3 => rfl); (case h4 => rfl))
  | ((with_reducible refine ws_expr ?_ ?h2); (case h2 => rfl))
  | with_reducible refine ws_pass ?_)
local macro_rules | `(tactic| walk_at "gWG") => `(tactic| first
  | ((with_reducible refine' wg_name ?h1 ?h2 ?h3 ?h4 ?h5 ?_ ?h7); (case h1 => with_reducible assumption); (case h2 => with_reducible assumption); (case h3 => walk_at "loc"); (case h4 => walk_at "pin"); (case h5 => exact Nat.le_of_ble_eq_true rfl); (case h7 => exact .inl rfl); (try dsimp only [List.set]))
  | ((with_reducible refine' wg_pair ?a1 ?a2 ?a3 ?a4 ?a5 ?a6 ?a7 ?a8 ?a9 ?b1 ?_ ?b3 ?b4 ?b5 ?b6 ?b7); (case a1 => rfl); (case a2 => with_reducible assumption); (case a3 => with_reducible assumption); (case a4 => with_reducible assumption); (case a5 => walk_at "loc"); (case a6 => walk_at "loc"); (case a7 => walk_at "pin"); (case a8 => walk_at "pin"); (case a9 => exact Nat.le_of_ble_eq_true rfl); (case b1 => exact Nat.le_of_ble_eq_true rfl); (case b3 => exact .inl rfl); (case b4 => exact .inl rfl); (case b5 => exact fun t h => pg_tup rfl h); (case b6 => exact fun t u h1 h2 => pgs_cons h1 h2); (case b7 => exact fun t h => pgs_cons h pgs_nil); (try dsimp only [List.set]))
  | ((with_reducible refine' wg_tri ?a1 ?a2 ?a3 ?a4 ?a5 ?a6 ?a7 ?a8 ?b1 ?b2 ?b3 ?b4 ?b5 ?_ ?c1 ?c2 ?c3 ?c4 ?c5 ?c6 ?c7); (case a1 => rfl); (case a2 => with_reducible assumption); (case a3 => with_reducible assumption); (case a4 => with_reducible assumption); (case a5 => with_reducible assumption); (case a6 => walk_at "loc"); (case a7 => walk_at "loc"); (case a8 => walk_at "loc"); (case b1 => walk_at "pin"); (case b2 => walk_at "pin"); (case b3 => walk_at "pin"); (case b4 => exact ⟨Nat.le_of_ble_eq_true rfl, Nat.le_of_ble_eq_true rfl, Nat.le_of_ble_eq_true rfl⟩); (case b5 => first | exact ⟨trivial, trivial, trivial⟩ | exact ⟨trivial, imms_ints, trivial⟩); (case c1 => exact .inl rfl); (case c2 => exact .inl rfl); (case c3 => exact .inl rfl); (case c4 => exact fun t h => pg_tup rfl h); (case c5 => exact fun t u h1 h2 => pgs_cons h1 h2); (case c6 => exact fun t u h1 h2 => pgs_cons h1 h2); (case c7 => exact fun t h => pgs_cons h pgs_nil); (try dsimp only [List.set])))
local macro_rules | `(tactic| walk_at "gENm") => `(tactic| first
  | ((with_reducible refine' we_name ?h1 ?h2 ?h3 ?_ ?h5 ?h6 ?h7); (case h1 => with_reducible assumption); (case h2 => rfl); (case h3 => walk_at "imm"); (case h5 => walk_at "vis"); (case h6 => decide); (case h7 => decide))
  | ((with_reducible refine' we_move ?h1 ?h2 ?_ ?h5 ?h6 ?h7); (case h1 => with_reducible assumption); (case h2 => rfl); (case h5 => walk_at "vis"); (case h6 => decide); (case h7 => decide); (try dsimp only [List.set])))
local macro_rules | `(tactic| walk_at "gWE") => `(tactic| first
  | with_reducible refine we_of ?_)
local macro_rules | `(tactic| walk_at "gName") => `(tactic| first
  | ((with_reducible refine' wo_nameI ?h1 ?h2 ?h3 ?_ ?h5 ?h6 ?h7); (case h1 => with_reducible assumption); (case h2 => rfl); (case h3 => walk_at "imm"); (case h5 => walk_at "vis"); (case h6 => decide); (case h7 => decide))
  | ((with_reducible refine' wo_name ?h1 ?h2 ?_ ?h5 ?h6 ?h7); (case h1 => with_reducible assumption); (case h2 => rfl); (case h5 => walk_at "vis"); (case h6 => decide); (case h7 => decide))
  | ((with_reducible refine' wo_gint ?h1 ?h2 ?_ ?h4); (case h1 => rfl); (case h2 => with_reducible assumption); (case h4 => decide))
  | ((with_reducible refine' wo_tyn ?h1 ?h2 ?h3 ?_ ?h5 ?h6); (case h1 => rfl); (case h2 => with_reducible assumption); (case h3 => walk_at "boot"); (case h5 => decide); (case h6 => decide)))
local macro_rules | `(tactic| walk_at "gCon") => `(tactic| first
  | with_reducible refine wo_int ?_
  | with_reducible refine wo_non ?_
  | with_reducible refine wo_bl ?_
  | with_reducible refine wo_str ?_)
local macro_rules | `(tactic| walk_at "gBin") => `(tactic| first
  | with_reducible refine wo_addD ?_
  | with_reducible refine wo_sub ?_
  | with_reducible refine wo_mulD ?_
  | with_reducible refine wo_mod ?_
  | with_reducible refine wo_fdiv ?_
  | with_reducible refine wo_pow ?_
  | with_reducible refine wo_shl ?_)
local macro_rules | `(tactic| walk_at "gBool") => `(tactic| first
  | with_reducible refine wo_and ?_
  | with_reducible refine wo_or ?_
  | with_reducible refine wo_bone ?_)
local macro_rules | `(tactic| walk_at "gCmp") => `(tactic| first
  | ((with_reducible refine wo_chain ?_ ?h2); (case h2 => with_unfolding_all rfl))
  | ((with_reducible refine wo_cmpD ?h1 ?_); (case h1 => walk_at "mark")))
local macro_rules | `(tactic| walk_at "gSub") => `(tactic| first
  | walk_at "dg"
  | with_reducible refine wo_slD ?_
  | with_reducible refine wo_revL ?_
  | ((with_reducible refine wo_ix ?h1 ?_); (case h1 => exact fun _ _ => rfl)))
local macro_rules | `(tactic| walk_at "gCalN") => `(tactic| first
  | ((with_reducible refine wo_sortedS ?h1 ?h2 ?_ ?h4); (case h1 => rfl); (case h2 => with_reducible assumption); (case h4 => rfl))
  | ((with_reducible refine' wo_c0 ?h1 ?h2 ?h3 ?h4 ?_ ?h6 ?h7 ?h8); (case h1 => with_reducible assumption); (case h2 => with_reducible assumption); (case h3 => first | decide | exact Nat.le_refl _ | omega); (case h4 => rfl); (case h6 => decide); (case h7 => rfl); (case h8 => rfl))
  | ((with_reducible refine' wo_c1 ?h1 ?h2 ?h3 ?h4 ?_ ?h6 ?h7 ?h8); (case h1 => with_reducible assumption); (case h2 => with_reducible assumption); (case h3 => first | decide | exact Nat.le_refl _ | omega); (case h4 => rfl); (case h6 => decide); (case h7 => rfl); (case h8 => rfl))
  | ((with_reducible refine wo_len ?h1 ?h2 ?_ ?h4); (case h1 => rfl); (case h2 => with_reducible assumption); (case h4 => rfl))
  | ((with_reducible refine wo_min2 rfl ?h1 ?h2 ?_ ?h4 ?h5); (case h1 => rfl); (case h2 => with_reducible assumption); (case h4 => rfl); (case h5 => rfl))
  | ((with_reducible refine wo_max2 rfl ?h1 ?h2 ?_ ?h4 ?h5); (case h1 => rfl); (case h2 => with_reducible assumption); (case h4 => rfl); (case h5 => rfl))
  | ((with_reducible refine wo_abs ?h1 ?h2 ?_ ?h4); (case h1 => rfl); (case h2 => with_reducible assumption); (case h4 => rfl))
  | ((with_reducible refine wo_intI ?h1 ?h2 ?_ ?h4); (case h1 => rfl); (case h2 => with_reducible assumption); (case h4 => rfl))
  | ((have hmode : PtMode := by with_reducible assumption); (with_reducible refine wo_tupleF ?h1 ?h2 ?_ ?h4); (case h1 => rfl); (case h2 => with_reducible assumption); (case h4 => rfl))
  | ((with_reducible refine wo_tuple ?h1 ?h2 ?_ ?h4); (case h1 => rfl); (case h2 => with_reducible assumption); (case h4 => rfl))
  | ((with_reducible refine wo_listR1 rfl ?h1 ?h2 ?h3 ?h5 ?_ ?h4 ?h6); (case h1 => rfl); (case h2 => with_reducible assumption); (case h3 => rfl); (case h5 => with_reducible assumption); (case h4 => rfl); (case h6 => rfl))
  | ((with_reducible refine wo_list ?h1 ?h2 ?_ ?h4); (case h1 => rfl); (case h2 => with_reducible assumption); (case h4 => rfl))
  | ((with_reducible refine wo_all ?h0 ?h1 ?h2 ?_ ?h4); (case h0 => rfl); (case h1 => rfl); (case h2 => with_reducible assumption); (case h4 => rfl))
  | ((with_reducible refine wo_isi2 ?h1 ?h2 ?_ ?h4 ?h5); (case h1 => rfl); (case h2 => with_reducible assumption); (case h4 => rfl); (case h5 => rfl)))
local macro_rules | `(tactic| walk_at "gCalA") => `(tactic| first
  | ((with_reducible refine' wo_dpop ?h1 ?h2 ?h3 ?h4 ?h5 ?h6 ?_ ?h8 ?h9 ?h10 ?h11); (case h1 => with_reducible assumption); (case h2 => with_reducible assumption); (case h5 => walk_at "key"); (case h3 => rfl); (case h4 => exact kN); (case h6 => rfl); (case h8 => exact fun t ht => pe_bm PySem.F.plainAttrs_list PySem.F.slot_list_pop PySem.F.type_list_pop mt_popAt ht (pa_cons pe_int pa_nil)); (case h9 => walk_at "vis"); (case h10 => decide); (case h11 => decide))
  | ((with_reducible refine' wo_append ?h1 ?h2 ?_ ?h4 ?h5 ?h6); (case h1 => with_reducible assumption); (case h2 => exact ⟨_, rfl⟩); (case h4 => exact pe_slot (by with_reducible assumption)); (case h5 => exact pe_bm PySem.F.plainAttrs_list PySem.F.slot_list_append PySem.F.type_list_append mt_append (pe_slot (by with_reducible assumption)) pa_w); (case h6 => rfl))
  | ((with_reducible refine' wo_insert ?h2 ?_ ?h4 ?h5 ?h6 ?h7); (case h4 => rfl); (case h5 => exact pe_bm PySem.F.plainAttrs_list PySem.F.slot_list_insert PySem.F.type_list_insert mt_insert (pe_slot (by with_reducible assumption)) pa_w); (case h2 => exact ⟨_, rfl⟩); (case h6 => rfl); (case h7 => rfl))
  | ((with_reducible refine' wo_popAt ?h1 ?_ ?h3 ?h4); (case h3 => exact pe_bm PySem.F.plainAttrs_list PySem.F.slot_list_pop PySem.F.type_list_pop mt_popAt (pe_slot (by with_reducible assumption)) pa_w); (case h1 => exact ⟨_, rfl⟩); (case h4 => rfl))
  | ((have hmode : PtMode := by with_reducible assumption); (with_reducible refine wo_tix ?_ ?h2 ?h3 ?h4 ?h5); (case h2 => rfl); (case h3 => rfl); (case h4 => rfl); (case h5 => rfl))
  | ((with_reducible refine' wo_indexI ?_ ?h5 ?h6); (case h5 => exact pe_bm PySem.F.plainAttrs_list PySem.F.slot_list_index PySem.F.type_list_index mt_index pe_w pa_w); (case h6 => rfl))
  | ((with_reducible refine' wo_pop ?h1 ?h2 ?h3 ?_ ?h5); (case h1 => rfl); (case h5 => exact pe_bm0 PySem.F.plainAttrs_list PySem.F.slot_list_pop PySem.F.type_list_pop mt_pop (pe_slot (by with_reducible assumption)))))
local macro_rules | `(tactic| walk_at "gWO") => `(tactic| first
  | with_reducible refine wo_not ?_
  | with_reducible refine wo_if ?_
  | with_reducible refine wo_lst ?_
  | with_reducible refine wo_tup ?_)
local macro_rules | `(tactic| walk_at "gWT") => `(tactic| first
  | ((with_reducible refine' wt_dne ?h1 ?h2 ?h3 ?h4 ?h5 ?h6 ?_ ?h9 ?h10 ?h11); (case h1 => with_reducible assumption); (case h2 => with_reducible assumption); (case h5 => walk_at "key"); (case h3 => rfl); (case h4 => exact kN); (case h6 => rfl); (case h9 => walk_at "vis"); (case h10 => decide); (case h11 => decide))
  | with_reducible refine wt_not ?_
  | with_reducible refine wt_bool ?_
  | ((with_reducible refine wt_chain ?_ ?h2); (case h2 => with_unfolding_all rfl))
  | ((with_reducible refine wt_cmpD ?h1 ?_); (case h1 => walk_at "mark"))
  | ((with_reducible refine wt_val ?_ ?h2); (case h2 => exact fun _ => rfl)))
local macro_rules | `(tactic| walk_at "gWW") => `(tactic| first
  | with_reducible refine ww_and ?_
  | with_reducible refine ww_and1 ?_
  | with_reducible refine ww_or ?_
  | with_reducible refine ww_or1 ?_)
local macro_rules | `(tactic| walk_at "gWA") => `(tactic| first
  | ((with_reducible refine wa_star ?_ ?h2); (case h2 => rfl))
  | ((with_reducible refine wa_cons ?_ ?h2); (case h2 => rfl))
  | with_reducible refine wa_nil ?_)
local macro_rules | `(tactic| walk_at "rest") => `(tactic| first
  | with_reducible refine wvs_cons ?_
  | with_reducible refine wvs_nil ?_
  | with_reducible refine wp_none ?_
  | with_reducible refine wp_some ?_
  | ((with_reducible refine' wtc_link ?h1 ?_); (case h1 => walk_at "ci"))
  | ((with_reducible refine' wtc_last ?h1 ?_); (case h1 => walk_at "ci")))
local macro_rules | `(tactic| walk_at "d") => `(tactic| first
  | ((with_reducible refine gWSs ?_); walk_at "gWSs")
  | ((with_reducible refine gWS ?_); walk_at "gWS")
  | ((with_reducible refine gWG ?_); walk_at "gWG")
  | ((with_reducible refine gENm ?_); walk_at "gENm")
  | ((with_reducible refine gWE ?_); walk_at "gWE")
  | ((with_reducible refine gName ?_); walk_at "gName")
  | ((with_reducible refine gCon ?_); walk_at "gCon")
  | ((with_reducible refine gBin ?_); walk_at "gBin")
  | ((with_reducible refine gBool ?_); walk_at "gBool")
  | ((with_reducible refine gCmp ?_); walk_at "gCmp")
  | ((with_reducible refine gSub ?_); walk_at "gSub")
  | ((with_reducible refine gCalN ?_); walk_at "gCalN")
  | ((with_reducible refine gCalA ?_); walk_at "gCalA")
  | ((with_reducible refine gWO ?_); walk_at "gWO")
  | ((with_reducible refine gWT ?_); walk_at "gWT")
  | ((with_reducible refine gWW ?_); walk_at "gWW")
  | ((with_reducible refine gWA ?_); walk_at "gWA")
  | walk_at "rest"
  | walk_at "ob")
local macro_rules | `(tactic| walk_at "go") => `(tactic| repeat walk_at "d")

open KP
def ct_law_mixed : Ct := ⟨Sta × Int × List Int, fun a ds => ds = [sD a.1, .lst (a.2.2.map D.int)] ∧ SOk a.2.1 a.1 ∧ a.2.2.length ≤ 1000 ∧ a.2.1 ≤ 900000000000, fun a d ds => ∃ (ys : List Int) (s : Sta), d = .lst (ys.map D.int) ∧ ys.Perm a.2.2 ∧ ds = [sD s] ∧ SOk (a.2.1 + a.2.2.length) s⟩
def ct_law_is_whole : Ct := ⟨Int, fun i ds => ds = [.int i] ∧ True, fun i d _ => d = .bl true⟩
def ct_law_mv_is_state : Ct := ⟨List Int × Int, fun a ds => ds = [stT a.1, .int a.2] ∧ OkS a.2 a.1, fun a d _ => d = .bl true⟩
def ct_law_mv_drawn : Ct := ⟨Sta × Int × Int × Int, fun a ds => ds = [sD a.1, .int a.2.2.1, .int a.2.2.2] ∧ SOk a.2.1 a.1 ∧ (1 ≤ a.2.2.1 ∧ a.2.2.1 ≤ 20) ∧ (1 ≤ a.2.2.2 ∧ a.2.2.2 ≤ 20) ∧ a.2.1 ≤ 800000000000, fun a d ds => ∃ (st : List Int) (s : Sta), d = stT st ∧ OkS a.2.2.1 st ∧ st.length ≤ a.2.2.2.toNat ∧ ds = [sD s] ∧ SOk (a.2.1 + 20) s⟩
section
variable {P : Program} {w : World} {K : PySem.W.Frag} {mg : Str → Option Value} {base : Heap}
theorem cal_law_mixed (Z : Fz K mg) : Cal P w K mg base 3 "_law_mixed" (toSp K 1 ct_law_mixed) := by
  refine cal_of Z.d_law_mixed sc_law_mixed (fun a ds h => by rw [h.1]; rfl) (by decide) ?_
  intro f cdv A outer s H E hr (a : Sta × Int × List Int ) ds hp X
  have hNd : X.N.Nodup := sc_law_mixed.nd
  have hN0 : X.N[0]? = some ("state" : Str) := rfl
  have hN1 : X.N[1]? = some ("several" : Str) := rfl
  have hN2 : X.N[2]? = some ("left" : Str) := rfl
  have hN3 : X.N[3]? = some ("found" : Str) := rfl
  have hR : Room 2 X.A := hr
  have hu64 : X.A.units + 64 < cLine := by have := hR.un; omega
  have hu1 : X.A.units + 1 < cLine := by have := hR.un; omega
  have m_list : X.mg "list" = none := Z.b_list
  have c_law_draw : Cal X.prog X.w X.K X.mg X.base 2 "_law_draw" (toSp X.K 1 ct_law_draw) := cal_law_draw Z
  have m_len : X.mg "len" = none := Z.b_len
  obtain ⟨hds, hp⟩ := hp
  subst hds
  show WSs X [0] (_ :: _) [ some (sD a.1), some (.lst (a.2.2.map D.int)), none, none] _
  obtain ⟨s, n, xs⟩ := a
  obtain ⟨ok, hl, hn⟩ := hp
  dsimp only at ok hl hn ⊢
  refine wss_cons ?_
  refine' ws_par rfl hNd hN2 hN3 (by decide) (by decide) (by decide) rfl rfl ?_ ?hw ?hs
  case hw => rfl
  case hs => rfl
  walk_at "go"
  refine ws_while PassesOwn.never (fun m E' => ∃ (l f : List Int) (s' : Sta), m = l.length ∧ (f ++ l).Perm xs ∧ SOk (n + f.length) s' ∧ E' = [some (sD s'), some (.lst (xs.map D.int)), some (.lst (l.map D.int)), some (.lst (f.map D.int))]) ⟨_, xs, [], s, rfl, List.Perm.refl _, ok.mono (by simp), rfl⟩ ?_
  rintro m E' ⟨l, f, s', rfl, hpm, ok', rfl⟩
  have hlen := hpm.length_eq
  rw [List.length_append] at hlen
  walk_at "go"
  refine ⟨fun h => ?_, fun h => ?_⟩
  · have hne : l ≠ [] := by simpa using h
    have hpos : 0 < l.length := List.length_pos_iff.mpr hne
    walk_at "go"
    rw [List.length_map]
    refine ⟨(_, _, _), ⟨rfl, by with_reducible assumption, by dsimp only; (try simp only [ncast]); omega, by dsimp only; omega⟩, ?_⟩
    rintro _ _ ⟨r, s1, rfl, hr, hd, oks1⟩
    cases hd
    dsimp only at hr oks1
    try simp only [ncast] at hr
    dsimp only [List.set]
    obtain ⟨j, rfl⟩ : ∃ j : Nat, r = j := ⟨r.toNat, by omega⟩
    have hj : j < l.length := by omega
    refine ⟨j, .int l[j], l.map D.int, rfl, rfl, imms_ints, by rw [List.getElem?_map, List.getElem?_eq_getElem hj]; rfl, by rw [List.length_map]; omega, ?_⟩
    walk_at "go"
    refine ⟨by rw [List.length_map]; omega, ?_⟩
    refine ⟨(l.eraseIdx j).length, by rw [List.length_eraseIdx]; simp [hj]; omega, l.eraseIdx j, f ++ [l[j]], s1, rfl, ?_, oks1.mono (by simp; omega), ?_⟩
    · rw [List.append_assoc]
      refine List.Perm.trans (List.Perm.append_left f ?_) hpm
      exact cons_erase hj
    · simp [map_erase]
  · have he : l = [] := by simpa using h
    subst he
    rw [List.append_nil] at hpm
    walk_at "go"
    refine ⟨[sD s'], rfl, f, s', rfl, hpm, rfl, ?_⟩
    have := hpm.length_eq
    exact ok'.mono (by dsimp only; omega)
theorem cal_law_is_whole (Z : Fz K mg) : Cal P w K mg base 1 "_law_is_whole" (toSp K 0 ct_law_is_whole) := by
  refine cal_of Z.d_law_is_whole sc_law_is_whole (fun a ds h => by rw [h.1]; rfl) (by decide) ?_
  intro f cdv A outer s H E hr (a : Int ) ds hp X
  have hNd : X.N.Nodup := sc_law_is_whole.nd
  have hN0 : X.N[0]? = some ("item" : Str) := rfl
  have hR : Room 0 X.A := hr
  have hu64 : X.A.units + 64 < cLine := by have := hR.un; omega
  have hu1 : X.A.units + 1 < cLine := by have := hR.un; omega
  have m_isinstance : X.mg "isinstance" = none := Z.b_isinstance
  have m_int : X.mg "int" = none := Z.b_int
  have m_bool : X.mg "bool" = none := Z.b_bool
  obtain ⟨hds, hp⟩ := hp
  subst hds
  show WSs X [] (_ :: _) [ some (D.int a)] _
  walk_at "go"
  exact ⟨[], rfl, rfl⟩
theorem cal_law_mv_is_state (Z : Fz K mg) : Cal P w K mg base 2 "_law_mv_is_state" (toSp K 0 ct_law_mv_is_state) := by
  refine cal_of Z.d_law_mv_is_state sc_law_mv_is_state (fun a ds h => by rw [h.1]; rfl) (by decide) ?_
  intro f cdv A outer s H E hr (a : List Int × Int ) ds hp X
  have hNd : X.N.Nodup := sc_law_mv_is_state.nd
  have hN0 : X.N[0]? = some ("value" : Str) := rfl
  have hN1 : X.N[1]? = some ("many" : Str) := rfl
  have hN2 : X.N[2]? = some ("item" : Str) := rfl
  have hN3 : X.N[3]? = some ("spot" : Str) := rfl
  have hR : Room 1 X.A := hr
  have hu64 : X.A.units + 64 < cLine := by have := hR.un; omega
  have hu1 : X.A.units + 1 < cLine := by have := hR.un; omega
  have m_isinstance : X.mg "isinstance" = none := Z.b_isinstance
  have m_tuple : X.mg "tuple" = none := Z.b_tuple
  have m_range : X.mg "range" = none := Z.b_range
  have m_len : X.mg "len" = none := Z.b_len
  have c_law_is_whole : Cal X.prog X.w X.K X.mg X.base 1 "_law_is_whole" (toSp X.K 0 ct_law_is_whole) := cal_law_is_whole Z
  obtain ⟨hds, hp⟩ := hp
  subst hds
  show WSs X [] (_ :: _) [ some (stT a.1), some (D.int a.2), none, none] _
  obtain ⟨st, m⟩ := a
  dsimp only at hp ⊢
  have hsl := hp.len
  walk_at "go"
  refine ⟨_, _, _, rfl, rfl, cmp_eq hu64 shp_tupI (shp_tupI (l := [])), ?_⟩
  have en : deq (stT st) (.tup []) = false := by
    show deq (.tup (st.map D.int)) (.tup (([] : List Int).map D.int)) = false
    rw [deq_tt rfl rfl, deqs_ints]
    exact decide_eq_false hp.ne
  rw [en]
  walk_at "go"
  refine' wo_lcX (own := [("item", 2)]) rfl hNd ?ok ?hg ?_ ?hs
  case ok => exact (show BlkOk ["value", "many", "item", "spot"] (defScope s_law_mv_is_state) _ [("item", 2)] from ⟨rfl, by decide +kernel, by decide +kernel, by decide +kernel, by decide +kernel⟩)
  case hs => exact fun _ => rfl
  case hg => exact blk_name hNd hN2 rfl
  refine wi_tup ?_
  walk_at "go"
  rw [List.length_map]
  refine ⟨Int, st, D.int, fun _ => none, rfl, by omega, fun j h => src_ints h, (fun p h => nomatch h), ?_, ?_⟩
  · intro x hx
    have x0 := hp.lo x hx
    have x1 := hp.hi x hx
    refine ⟨_, tgb_name (by decide) (Nat.le_of_ble_eq_true rfl), fun s H C cl fp => ?_⟩
    dsimp only [List.set]
    refine wif_one ?_
    walk_at "go"
    refine ⟨x, ⟨rfl, trivial⟩, fun d hd => ?_⟩
    subst hd
    walk_at "go"
    exact ⟨rfl, rfl⟩
  · rw [show st.filterMap (fun _ => (none : Option D)) = [] from by simp]
    walk_at "go"
    refine ⟨_, _, _, rfl, rfl, cmp_neE hu64 (shp_lstI (l := [])), ?_⟩
    walk_at "go"
    refine' wo_lcX (own := [("spot", 3)]) rfl hNd ?ok ?hg ?_ ?hs
    case ok => exact (show BlkOk ["value", "many", "item", "spot"] (defScope s_law_mv_is_state) _ [("spot", 3)] from ⟨rfl, by decide +kernel, by decide +kernel, by decide +kernel, by decide +kernel⟩)
    case hs => exact fun _ => rfl
    case hg => exact blk_name hNd hN3 rfl
    refine wi_range2 (by exact rfl) m_range ?_ (by rfl) (by rfl) (by rfl) (by rfl)
    walk_at "go"
    rw [List.length_map]
    refine ⟨by omega, ?_⟩
    refine ⟨Nat, List.range (st.length - 1), fun i => .int (1 + (i : Int)), fun _ => none, by simp <;> omega, by omega, fun j h => by simp, (fun p h => nomatch h), ?_, ?_⟩
    · intro i hi
      rw [List.mem_range] at hi
      refine ⟨_, tgb_name (by decide) (Nat.le_of_ble_eq_true rfl), fun s H C cl fp => ?_⟩
      dsimp only [List.set]
      refine wif_one ?_
      have a1 : atI (st.map D.int) (1 + (i : Int)) = some (.int st[i + 1]) := by
        rw [ix_nat (by omega), show (1 + (i : Int)).toNat = i + 1 from by omega, List.getElem?_map, List.getElem?_eq_getElem (by omega)]
        rfl
      have a2 : atI (st.map D.int) (1 + (i : Int) - 1) = some (.int st[i]) := by
        rw [ix_nat (by omega), show (1 + (i : Int) - 1).toNat = i from by omega, List.getElem?_map, List.getElem?_eq_getElem (by omega)]
        rfl
      have hlt : st[i] < st[i + 1] := List.pairwise_iff_getElem.mp hp.inc i (i + 1) (by omega) (by omega) (by omega)
      walk_at "go"
      exact ⟨rfl, rfl⟩
    · rw [show (List.range (st.length - 1)).filterMap (fun _ => (none : Option D)) = [] from by simp]
      walk_at "go"
      refine ⟨_, _, _, rfl, rfl, cmp_eqE hu64 (shp_lstI (l := [])), ?_⟩
      walk_at "go"
      exact ⟨[], rfl, rfl⟩
theorem cal_law_mv_drawn (Z : Fz K mg) : Cal P w K mg base 4 "_law_mv_drawn" (toSp K 1 ct_law_mv_drawn) := by
  refine cal_of Z.d_law_mv_drawn sc_law_mv_drawn (fun a ds h => by rw [h.1]; rfl) (by decide) ?_
  intro f cdv A outer s H E hr (a : Sta × Int × Int × Int ) ds hp X
  have hNd : X.N.Nodup := sc_law_mv_drawn.nd
  have hN0 : X.N[0]? = some ("state" : Str) := rfl
  have hN1 : X.N[1]? = some ("many" : Str) := rfl
  have hN2 : X.N[2]? = some ("size" : Str) := rfl
  have hR : Room 3 X.A := hr
  have hu64 : X.A.units + 64 < cLine := by have := hR.un; omega
  have hu1 : X.A.units + 1 < cLine := by have := hR.un; omega
  have m_tuple : X.mg "tuple" = none := Z.b_tuple
  have m_sorted : X.mg "sorted" = none := Z.b_sorted
  have c_law_mixed : Cal X.prog X.w X.K X.mg X.base 3 "_law_mixed" (toSp X.K 1 ct_law_mixed) := cal_law_mixed Z
  have m_list : X.mg "list" = none := Z.b_list
  have m_range : X.mg "range" = none := Z.b_range
  obtain ⟨hds, hp⟩ := hp
  subst hds
  show WSs X [0] (_ :: _) [ some (sD a.1), some (D.int a.2.2.1), some (D.int a.2.2.2)] _
  obtain ⟨s, n, m, sz⟩ := a
  obtain ⟨ok, ⟨m0, m1⟩, ⟨z0, z1⟩, hn⟩ := hp
  dsimp only at ok m0 m1 z0 z1 hn ⊢
  walk_at "go"
  have hul : (upto m.toNat).length = m.toNat := by simp [upto]
  refine ⟨(s, n, upto m.toNat), ⟨rfl, ok, by dsimp only; omega, by dsimp only; omega⟩, ?_⟩
  rintro _ _ ⟨ys, s1, rfl, hpm, hd, ok1⟩
  cases hd
  dsimp only at hpm ok1
  rw [hul] at ok1
  dsimp only [List.set]
  walk_at "go"
  rw [cutD_to (by omega), ← List.map_take]
  refine ⟨_, rfl, fun ns hp2 hs2 => ?_⟩
  walk_at "go"
  have nd : ns.Nodup := (hp2.nodup_iff).mpr ((List.take_sublist _ _).nodup (hpm.nodup_iff.mpr (by
    unfold upto
    exact List.pairwise_map.mpr (List.nodup_range.imp fun h e => h (by omega)))))
  have mem : ∀ x ∈ ns, 0 ≤ x ∧ x < m := fun x hx => by
    have h1 := hpm.mem_iff.mp (List.take_subset _ _ (hp2.mem_iff.mp hx))
    unfold upto at h1
    obtain ⟨i, hi, rfl⟩ := List.mem_map.mp h1
    rw [List.mem_range] at hi
    omega
  have len : ns.length = min sz.toNat m.toNat := by
    rw [hp2.length_eq, List.length_take, hpm.length_eq, hul]
  refine ⟨[sD s1], rfl, ns, s1, rfl, ⟨m0, by dsimp only; omega, fun e => ?_, ?_, fun x hx => (mem x hx).1, fun x hx => (mem x hx).2, by omega⟩, by dsimp only; omega, rfl, ok1.mono (by dsimp only; omega)⟩
  · rw [e] at len
    simp at len
    omega
  · exact (hs2.and nd).imp fun ⟨h1, h2⟩ => by omega
end
end K23


namespace K23
open PySem PySem.Spec L2 DL Ln
open PyProof.Rows (envOfC)
local macro_rules | `(tactic| walk_at "imm") => `(tactic| first | assumption | trivial | exact imms_ints | exact imms_pairs | (simp only [Imm, Imms]; done) | exact ⟨trivial, trivial⟩ | exact ⟨trivial, imms_ints⟩ | exact imms_cut imms_ints | exact imms_app imms_ints ⟨trivial, trivial⟩ | exact imms_app (imms_cut imms_ints) ⟨trivial, trivial⟩ | exact imms_app (imms_app (imms_cut imms_ints) ⟨trivial, trivial⟩) (imms_cut imms_ints))
local macro_rules | `(tactic| walk_at "add") => `(tactic| first | exact AddD.int | exact AddD.lst (by walk_at "imm") (by walk_at "imm") (by first | assumption | (simp; omega)) | ((refine AddD.tup ?at1 ?at2 ?at3 ?at4 ?at5); (case at1 => rfl); (case at2 => rfl); (case at3 => walk_at "imm"); (case at4 => walk_at "imm"); (case at5 => first | with_reducible assumption | (simp; omega))))
local macro_rules | `(tactic| walk_at "cost") => `(tactic| first | with_reducible assumption | (with_reducible exact cpow (by omega) (by omega) (by omega) (by omega)) | (with_reducible exact cdivw (by omega) (by omega)) | (with_reducible exact cmul1 (by omega) (by omega)) | (with_reducible exact cmul2 (by omega) (by omega)) | with_reducible exact imms_ints | omega)
local macro_rules | `(tactic| walk_at "mul") => `(tactic| ((refine MulD.int ?_); walk_at "cost"))
local macro_rules | `(tactic| walk_at "cmp") => `(tactic| first | with_reducible exact cmp_lt | with_reducible exact cmp_le | with_reducible exact cmp_gt | with_reducible exact cmp_ge | with_reducible exact cmp_eqI | with_reducible exact cmp_neI | with_reducible exact cmp_isN | with_reducible exact cmp_notN | ((with_reducible refine cmp_neLL ?_); with_reducible assumption) | ((with_reducible refine cmp_neTT ?_); with_reducible assumption) | ((with_reducible refine cmp_nePT ?_); with_reducible assumption) | ((with_reducible refine cmp_eqLL ?_); with_reducible assumption) | ((with_reducible refine cmp_eqLN ?_); with_reducible assumption) | ((with_reducible refine cmp_neLN ?_); with_reducible assumption) | ((with_reducible refine cmp_neP ?_); with_reducible assumption) | ((with_reducible refine cmp_eqN ?_); with_reducible assumption) | with_reducible exact cmp_notB | with_reducible exact cmp_neB | with_reducible exact cmp_eqB | with_reducible exact cmp_inL | with_reducible exact cmp_inF | with_reducible exact cmp_inT | with_reducible exact cmp_inP | with_reducible exact cmp_niL | with_reducible exact cmp_niF | with_reducible exact cmp_niT | with_reducible exact cmp_niP | exact cmp_lt | exact cmp_le | exact cmp_gt | exact cmp_ge | exact cmp_eqI | exact cmp_neI | exact cmp_isN | exact cmp_notN | ((refine cmp_neLL ?_); with_reducible assumption) | ((refine cmp_neTT ?_); with_reducible assumption) | ((refine cmp_nePT ?_); with_reducible assumption) | ((refine cmp_eqLL ?_); with_reducible assumption) | ((refine cmp_eqLN ?_); with_reducible assumption) | ((refine cmp_neLN ?_); with_reducible assumption) | ((refine cmp_neP ?_); with_reducible assumption) | ((refine cmp_eqN ?_); with_reducible assumption) | exact cmp_notB | exact cmp_neB | exact cmp_eqB | exact cmp_inL | exact cmp_inF | exact cmp_inT | exact cmp_inP | exact cmp_niL | exact cmp_niF | exact cmp_niT | exact cmp_niP)
local macro_rules | `(tactic| walk_at "ci") => `(tactic| first | exact cmpi_lt | exact cmpi_le | exact cmpi_gt | exact cmpi_ge)
local macro_rules | `(tactic| walk_at "sl") => `(tactic| first | ((refine sl_t ?_); walk_at "imm") | ((refine sl_p ?_); walk_at "imm") | ((refine sl_l ?_); walk_at "imm") | ((refine sl_f ?_); walk_at "imm"))
local macro_rules | `(tactic| walk_at "mark") => `(tactic| first | exact nomark _ | with_unfolding_all rfl)
local macro_rules | `(tactic| walk_at "boot") => `(tactic| first | with_reducible exact PyProof.Rows.boot_int | with_reducible exact PyProof.Rows.boot_bool | with_reducible exact PyProof.Rows.boot_tuple | with_reducible exact PyProof.Rows.boot_list | with_reducible exact PyProof.Rows.boot_str | with_reducible exact PyProof.Rows.boot_dict)
local macro_rules | `(tactic| walk_at "kit") => `(tactic| first | with_reducible exact kit_ii | with_reducible exact kit_ib | with_reducible exact kit_it | with_reducible exact kit_tt | with_reducible exact kit_ti | with_reducible exact kit_bb | with_reducible exact kit_bi | with_reducible exact kit_ll | with_reducible exact kit_dd | with_reducible exact kit_ss)
local macro_rules | `(tactic| walk_at "vis") => `(tactic| first | exact Or.inl rfl | exact Or.inr (Or.inl rfl) | exact Or.inr (Or.inr rfl))
local macro_rules | `(tactic| walk_at "pin") => `(tactic| first | decide | (simp only [watch, List.map_nil, List.map_cons, List.nil_append, List.append_nil, List.cons_append]; decide))
local macro_rules | `(tactic| walk_at "loc") => `(tactic| first | exact Or.inl rfl | exact Or.inr rfl)
local macro_rules | `(tactic| walk_at "key") => `(tactic| first | with_reducible exact key0 | with_reducible exact key1 | with_reducible exact key2 | with_reducible exact key3)
local macro_rules | `(tactic| walk_at "dg") => `(tactic| (
  (with_reducible refine' wo_dget ?h1 ?h2 ?h3 ?h4 ?h5 ?h6 ?h7 ?_ ?h9 ?h10 ?h11); (case h1 => with_reducible assumption); (case h2 => with_reducible assumption); (case h5 => walk_at "key"); (case h3 => rfl); (case h4 => exact kN); (case h6 => rfl); (case h7 => trivial); (case h9 => walk_at "vis"); (case h10 => decide); (case h11 => decide)))
local macro_rules | `(tactic| walk_at "ob") => `(tactic| first
  | (refine ⟨Nat.le_of_ble_eq_true rfl, ?_⟩; try dsimp only [List.set])
  | (refine ⟨_, rfl, Nat.le_of_ble_eq_true rfl, ?_⟩; try dsimp only [List.set])
  | (refine ⟨_, rfl, trivial, Nat.le_of_ble_eq_true rfl, Nat.le_of_ble_eq_true rfl, ?_⟩; try dsimp only [List.set])
  | (refine ⟨_, _, rfl, Nat.le_of_ble_eq_true rfl, Nat.le_of_ble_eq_true rfl, ?_⟩; try dsimp only [List.set])
  | (refine ⟨_, _, _, rfl, Nat.le_of_ble_eq_true rfl, Nat.le_of_ble_eq_true rfl, Nat.le_of_ble_eq_true rfl, ?_⟩; try dsimp only [List.set])
  | refine ⟨fun _ => ?_, fun h => Bool.noConfusion h⟩
  | refine ⟨fun h => Bool.noConfusion h, fun _ => ?_⟩
  | refine ⟨_, rfl, ?_⟩
  | refine ⟨_, _, rfl, rfl, ?_⟩
  | refine ⟨_, _, _, _, rfl, rfl, rfl, ?_⟩
  | (refine ⟨_, _, _, ?dd, rfl, rfl, rfl, ?hh, ?_⟩; (case hh => walk_at "kit"))
  | (refine ⟨_, _, ?dd, rfl, rfl, ?hh, ?_⟩; (case hh => first | walk_at "add" | walk_at "mul" | walk_at "cmp"))
  | (refine ⟨_, ?dd, rfl, ?hh, ?_⟩; (case hh => walk_at "sl"))
  | (refine ⟨_, _, ?dd, rfl, rfl, ?hh, ?ii, ?_⟩; (case hh => first | with_reducible assumption | with_reducible exact at2_0 | with_reducible exact at2_1 | with_reducible exact at3_0 | with_reducible exact at3_1 | with_reducible exact at3_2); (case ii => trivial))
  | (refine ⟨fun _ => ?_, ?hx⟩; (case hx => (intro h; exfalso; (first | ((simp only [decide_eq_false_iff_not, decide_eq_true_eq, Bool.not_eq_true', Bool.not_eq_false'] at h); omega) | ((simp at h); done)))))
  | (refine ⟨?hx, fun _ => ?_⟩; (case hx => (intro h; exfalso; (first | ((simp only [decide_eq_false_iff_not, decide_eq_true_eq, Bool.not_eq_true', Bool.not_eq_false'] at h); omega) | ((simp at h); done)))))
  | ((with_reducible refine And.intro ?hh ?_); (case hh => walk_at "cost")))
local macro_rules | `(tactic| walk_at "gWSs") => `(tactic| first
  | with_reducible refine wss_nil ?_
  | with_reducible refine wss_one ?_
  | with_reducible refine wss_cons ?_)
local macro_rules | `(tactic| walk_at "gWS") => `(tactic| first
  | with_reducible refine ws_if ?_
  | with_reducible refine ws_ret ?_
  | ((with_reducible refine' ws_set ?h1 ?h2 ?h3 ?h4 ?_ ?h6 ?h7); (case h1 => with_reducible assumption); (case h2 => with_reducible assumption); (case h3 => walk_at "loc"); (case h4 => walk_at "pin"); (case h6 => rfl); (case h7 => exact .inl rfl))
  | ((with_reducible refine' ws_augI ?h1 ?h2 ?h3 ?h4 ?h5 ?_ ?h7); (case h1 => with_reducible assumption); (case h2 => with_reducible assumption); (case h3 => rfl); (case h4 => walk_at "loc"); (case h5 => walk_at "pin"); (case h7 => exact .inl rfl))
  | ((with_reducible refine' ws_asg2 ?h1 ?h2 ?h3 ?h4 ?h5 ?h6 ?h7 ?_ ?h9 ?h10 ?h11 ?h12); (case h1 => with_reducible assumption); (case h2 => with_reducible assumption); (case h3 => with_reducible assumption); (case h4 => walk_at "loc"); (case h5 => walk_at "loc"); (case h6 => walk_at "pin"); (case h7 => walk_at "pin"); (case h9 => exact .inl rfl); (case h10 => exact .inl rfl); (case h11 => rfl); (case h12 => rfl))
  | ((with_reducible refine' ws_dput ?h1 ?h2 ?_ ?h4 ?h5 ?h6 ?h7); (case h1 => with_reducible assumption); (case h2 => with_reducible assumption); (case h4 => rfl); (case h5 => walk_at "vis"); (case h6 => decide); (case h7 => decide))
  | ((with_reducible refine' ws_asg ?_ ?h2 ?h3 ?h4); (case h2 => rfl); (case h3 => rfl); (case h4 => rfl))
  | ((with_reducible refine ws_expr ?_ ?h2); (case h2 => rfl))
  | with_reducible refine ws_pass ?_)
local macro_rules | `(tactic| walk_at "gWG") => `(tactic| first
  | ((with_reducible refine' wg_name ?h1 ?h2 ?h3 ?h4 ?h5 ?_ ?h7); (case h1 => with_reducible assumption); (case h2 => with_reducible assumption); (case h3 => walk_at "loc"); (case h4 => walk_at "pin"); (case h5 => exact Nat.le_of_ble_eq_true rfl); (case h7 => exact .inl rfl); (try dsimp only [List.set]))
  | ((with_reducible refine' wg_pair ?a1 ?a2 ?a3 ?a4 ?a5 ?a6 ?a7 ?a8 ?a9 ?b1 ?_ ?b3 ?b4 ?b5 ?b6 ?b7); (case a1 => rfl); (case a2 => with_reducible assumption); (case a3 => with_reducible assumption); (case a4 => with_reducible assumption); (case a5 => walk_at "loc"); (case a6 => walk_at "loc"); (case a7 => walk_at "pin"); (case a8 => walk_at "pin"); (case a9 => exact Nat.le_of_ble_eq_true rfl); (case b1 => exact Nat.le_of_ble_eq_true rfl); (case b3 => exact .inl rfl); (case b4 => exact .inl rfl); (case b5 => exact fun t h => pg_tup rfl h); (case b6 => exact fun t u h1 h2 => pgs_cons h1 h2); (case b7 => exact fun t h => pgs_cons h pgs_nil); (try dsimp only [List.set]))
  | ((with_reducible refine' wg_tri ?a1 ?a2 ?a3 ?a4 ?a5 ?a6 ?a7 ?a8 ?b1 ?b2 ?b3 ?b4 ?b5 ?_ ?c1 ?c2 ?c3 ?c4 ?c5 ?c6 ?c7); (case a1 => rfl); (case a2 => with_reducible assumption); (case a3 => with_reducible assumption); (case a4 => with_reducible assumption); (case a5 => with_reducible assumption); (case a6 => walk_at "loc"); (case a7 => walk_at "loc"); (case a8 => walk_at "loc"); (case b1 => walk_at "pin"); (case b2 => walk_at "pin"); (case b3 => walk_at "pin"); (case b4 => exact ⟨Nat.le_of_ble_eq_true rfl, Nat.le_of_ble_eq_true rfl, Nat.le_of_ble_eq_true rfl⟩); (case b5 => first | exact ⟨trivial, trivial, trivial⟩ | exact ⟨trivial, imms_ints, trivial⟩); (case c1 => exact .inl rfl); (case c2 => exact .inl rfl); (case c3 => exact .inl rfl); (case c4 => exact fun t h => pg_tup rfl h); (case c5 => exact fun t u h1 h2 => pgs_cons h1 h2); (case c6 => exact fun t u h1 h2 => pgs_cons h1 h2); (case c7 => exact fun t h => pgs_cons h pgs_nil); (try dsimp only [List.set])))
local macro_rules | `(tactic| walk_at "gENm") => `(tactic| first
  | ((with_reducible refine' we_name ?h1 ?h2 ?h3 ?_ ?h5 ?h6 ?h7); (case h1 => with_reducible assumption); (case h2 => rfl); (case h3 => walk_at "imm"); (case h5 => walk_at "vis"); (case h6 => decide); (case h7 => decide))
  | ((with_reducible refine' we_move ?h1 ?h2 ?_ ?h5 ?h6 ?h7); (case h1 => with_reducible assumption); (case h2 => rfl); (case h5 => walk_at "vis"); (case h6 => decide); (case h7 => decide); (try dsimp only [List.set])))
local macro_rules | `(tactic| walk_at "gWE") => `(tactic| first
  | with_reducible refine we_of ?_)
local macro_rules | `(tactic| walk_at "gName") => `(tactic| first
  | ((with_reducible refine' wo_nameI ?h1 ?h2 ?h3 ?_ ?h5 ?h6 ?h7); (case h1 => with_reducible assumption); (case h2 => rfl); (case h3 => walk_at "imm"); (case h5 => walk_at "vis"); (case h6 => decide); (case h7 => decide))
  | ((with_reducible refine' wo_name ?h1 ?h2 ?_ ?h5 ?h6 ?h7); (case h1 => with_reducible assumption); (case h2 => rfl); (case h5 => walk_at "vis"); (case h6 => decide); (case h7 => decide))
  | ((with_reducible refine' wo_gint ?h1 ?h2 ?_ ?h4); (case h1 => rfl); (case h2 => with_reducible assumption); (case h4 => decide))
  | ((with_reducible refine' wo_tyn ?h1 ?h2 ?h3 ?_ ?h5 ?h6); (case h1 => rfl); (case h2 => with_reducible assumption); (case h3 => walk_at "boot"); (case h5 => decide); (case h6 => decide)))
local macro_rules | `(tactic| walk_at "gCon") => `(tactic| first
  | with_reducible refine wo_int ?_
  | with_reducible refine wo_non ?_
  | with_reducible refine wo_bl ?_
  | with_reducible refine wo_str ?_)
local macro_rules | `(tactic| walk_at "gBin") => `(tactic| first
  | with_reducible refine wo_addD ?_
  | with_reducible refine wo_sub ?_
  | with_reducible refine wo_mulD ?_
  | with_reducible refine wo_mod ?_
  | with_reducible refine wo_fdiv ?_
  | with_reducible refine wo_pow ?_
  | with_reducible refine wo_shl ?_)
local macro_rules | `(tactic| walk_at "gBool") => `(tactic| first
  | with_reducible refine wo_and ?_
  | with_reducible refine wo_or ?_
  | with_reducible refine wo_bone ?_)
local macro_rules | `(tactic| walk_at "gCmp") => `(tactic| first
  | ((with_reducible refine wo_chain ?_ ?h2); (case h2 => with_unfolding_all rfl))
  | ((with_reducible refine wo_cmpD ?h1 ?_); (case h1 => walk_at "mark")))
local macro_rules | `(tactic| walk_at "gSub") => `(tactic| first
  | walk_at "dg"
  | with_reducible refine wo_slD ?_
  | with_reducible refine wo_revL ?_
  | ((with_reducible refine wo_ix ?h1 ?_); (case h1 => exact fun _ _ => rfl)))
local macro_rules | `(tactic| walk_at "gCalN") => `(tactic| first
  | ((with_reducible refine wo_sortedS ?h1 ?h2 ?_ ?h4); (case h1 => rfl); (case h2 => with_reducible assumption); (case h4 => rfl))
  | ((with_reducible refine' wo_c0 ?h1 ?h2 ?h3 ?h4 ?_ ?h6 ?h7 ?h8); (case h1 => with_reducible assumption); (case h2 => with_reducible assumption); (case h3 => first | decide | exact Nat.le_refl _ | omega); (case h4 => rfl); (case h6 => decide); (case h7 => rfl); (case h8 => rfl))
  | ((with_reducible refine' wo_c1 ?h1 ?h2 ?h3 ?h4 ?_ ?h6 ?h7 ?h8); (case h1 => with_reducible assumption); (case h2 => with_reducible assumption); (case h3 => first | decide | exact Nat.le_refl _ | omega); (case h4 => rfl); (case h6 => decide); (case h7 => rfl); (case h8 => rfl))
  | ((with_reducible refine wo_len ?h1 ?h2 ?_ ?h4); (case h1 => rfl); (case h2 => with_reducible assumption); (case h4 => rfl))
  | ((with_reducible refine wo_min2 rfl ?h1 ?h2 ?_ ?h4 ?h5); (case h1 => rfl); (case h2 => with_reducible assumption); (case h4 => rfl); (case h5 => rfl))
  | ((with_reducible refine wo_max2 rfl ?h1 ?h2 ?_ ?h4 ?h5); (case h1 => rfl); (case h2 => with_reducible assumption); (case h4 => rfl); (case h5 => rfl))
  | ((with_reducible refine wo_abs ?h1 ?h2 ?_ ?h4); (case h1 => rfl); (case h2 => with_reducible assumption); (case h4 => rfl))
  | ((with_reducible refine wo_intI ?h1 ?h2 ?_ ?h4); (case h1 => rfl); (case h2 => with_reducible assumption); (case h4 => rfl))
  | ((have hmode : PtMode := by with_reducible assumption); (with_reducible refine wo_tupleF ?h1 ?h2 ?_ ?h4); (case h1 => rfl); (case h2 => with_reducible assumption); (case h4 => rfl))
  | ((with_reducible refine wo_tuple ?h1 ?h2 ?_ ?h4); (case h1 => rfl); (case h2 => with_reducible assumption); (case h4 => rfl))
  | ((with_reducible refine wo_listR1 rfl ?h1 ?h2 ?h3 ?h5 ?_ ?h4 ?h6); (case h1 => rfl); (case h2 => with_reducible assumption); (case h3 => rfl); (case h5 => with_reducible assumption); (case h4 => rfl); (case h6 => rfl))
  | ((with_reducible refine wo_list ?h1 ?h2 ?_ ?h4); (case h1 => rfl); (case h2 => with_reducible assumption); (case h4 => rfl))
  | ((with_reducible refine wo_all ?h0 ?h1 ?h2 ?_ ?h4); (case h0 => rfl); (case h1 => rfl); (case h2 => with_reducible assumption); (case h4 => rfl))
  | ((with_reducible refine wo_isi2 ?h1 ?h2 ?_ ?h4 ?h5); (case h1 => rfl); (case h2 => with_reducible assumption); (case h4 => rfl); (case h5 => rfl)))
local macro_rules | `(tactic| walk_at "gCalA") => `(tactic| first
  | ((with_reducible refine' wo_dpop ?h1 ?h2 ?h3 ?h4 ?h5 ?h6 ?_ ?h8 ?h9 ?h10 ?h11); (case h1 => with_reducible assumption); (case h2 => with_reducible assumption); (case h5 => walk_at "key"); (case h3 => rfl); (case h4 => exact kN); (case h6 => rfl); (case h8 => exact fun t ht => pe_bm PySem.F.plainAttrs_list PySem.F.slot_list_pop PySem.F.type_list_pop mt_popAt ht (pa_cons pe_int pa_nil)); (case h9 => walk_at "vis"); (case h10 => decide); (case h11 => decide))
  | ((with_reducible refine' wo_append ?h1 ?h2 ?_ ?h4 ?h5 ?h6); (case h1 => with_reducible assumption); (case h2 => exact ⟨_, rfl⟩); (case h4 => exact pe_slot (by with_reducible assumption)); (case h5 => exact pe_bm PySem.F.plainAttrs_list PySem.F.slot_list_append PySem.F.type_list_append mt_append (pe_slot (by with_reducible assumption)) pa_w); (case h6 => rfl))
  | ((with_reducible refine' wo_insert ?h2 ?_ ?h4 ?h5 ?h6 ?h7); (case h4 => rfl); (case h5 => exact pe_bm PySem.F.plainAttrs_list PySem.F.slot_list_insert PySem.F.type_list_insert mt_insert (pe_slot (by with_reducible assumption)) pa_w); (case h2 => exact ⟨_, rfl⟩); (case h6 => rfl); (case h7 => rfl))
  | ((with_reducible refine' wo_popAt ?h1 ?_ ?h3 ?h4); (case h3 => exact pe_bm PySem.F.plainAttrs_list PySem.F.slot_list_pop PySem.F.type_list_pop mt_popAt (pe_slot (by with_reducible assumption)) pa_w); (case h1 => exact ⟨_, rfl⟩); (case h4 => rfl))
  | ((have hmode : PtMode := by with_reducible assumption); (with_reducible refine wo_tix ?_ ?h2 ?h3 ?h4 ?h5); (case h2 => rfl); (case h3 => rfl); (case h4 => rfl); (case h5 => rfl))
  | ((with_reducible refine' wo_indexI ?_ ?h5 ?h6); (case h5 => exact pe_bm PySem.F.plainAttrs_list PySem.F.slot_list_index PySem.F.type_list_index mt_index pe_w pa_w); (case h6 => rfl))
  | ((with_reducible refine' wo_pop ?h1 ?h2 ?h3 ?_ ?h5); (case h1 => rfl); (case h5 => exact pe_bm0 PySem.F.plainAttrs_list PySem.F.slot_list_pop PySem.F.type_list_pop mt_pop (pe_slot (by with_reducible assumption)))))
local macro_rules | `(tactic| walk_at "gWO") => `(tactic| first
  | with_reducible refine wo_not ?_
  | with_reducible refine wo_if ?_
  | with_reducible refine wo_lst ?_
  | with_reducible refine wo_tup ?_)
local macro_rules | `(tactic| walk_at "gWT") => `(tactic| first
  | ((with_reducible refine' wt_dne ?h1 ?h2 ?h3 ?h4 ?h5 ?h6 ?_ ?h9 ?h10 ?h11); (case h1 => with_reducible assumption); (case h2 => with_reducible assumption); (case h5 => walk_at "key"); (case h3 => rfl); (case h4 => exact kN); (case h6 => rfl); (case h9 => walk_at "vis"); (case h10 => decide); (case h11 => decide))
  | with_reducible refine wt_not ?_
  | with_reducible refine wt_bool ?_
  | ((with_reducible refine wt_chain ?_ ?h2); (case h2 => with_unfolding_all rfl))
  | ((with_reducible refine wt_cmpD ?h1 ?_); (case h1 => walk_at "mark"))
  | ((with_reducible refine wt_val ?_ ?h2); (case h2 => exact fun _ => rfl)))
local macro_rules | `(tactic| walk_at "gWW") => `(tactic| first
  | with_reducible refine ww_and ?_
  | with_reducible refine ww_and1 ?_
  | with_reducible refine ww_or ?_
  | with_reducible refine ww_or1 ?_)
local macro_rules | `(tactic| walk_at "gWA") => `(tactic| first
  | ((with_reducible refine wa_star ?_ ?h2); (case h2 => rfl))
  | ((with_reducible refine wa_cons ?_ ?h2); (case h2 => rfl))
  | with_reducible refine wa_nil ?_)
local macro_rules | `(tactic| walk_at "rest") => `(tactic| first
  | with_reducible refine wvs_cons ?_
  | with_reducible refine wvs_nil ?_
  | with_reducible refine wp_none ?_
  | with_reducible refine wp_some ?_
  | ((with_reducible refine' wtc_link ?h1 ?_); (case h1 => walk_at "ci"))
  | ((with_reducible refine' wtc_last ?h1 ?_); (case h1 => walk_at "ci")))
local macro_rules | `(tactic| walk_at "d") => `(tactic| first
  | ((with_reducible refine gWSs ?_); walk_at "gWSs")
  | ((with_reducible refine gWS ?_); walk_at "gWS")
  | ((with_reducible refine gWG ?_); walk_at "gWG")
  | ((with_reducible refine gENm ?_); walk_at "gENm")
  | ((with_reducible refine gWE ?_); walk_at "gWE")
  | ((with_reducible refine gName ?_); walk_at "gName")
  | ((with_reducible refine gCon ?_); walk_at "gCon")
  | ((with_reducible refine gBin ?_); walk_at "gBin")
  | ((with_reducible refine gBool ?_); walk_at "gBool")
  | ((with_reducible refine gCmp ?_); walk_at "gCmp")
  | ((with_reducible refine gSub ?_); walk_at "gSub")
  | ((with_reducible refine gCalN ?_); walk_at "gCalN")
  | ((with_reducible refine gCalA ?_); walk_at "gCalA")
  | ((with_reducible refine gWO ?_); walk_at "gWO")
  | ((with_reducible refine gWT ?_); walk_at "gWT")
  | ((with_reducible refine gWW ?_); walk_at "gWW")
  | ((with_reducible refine gWA ?_); walk_at "gWA")
  | walk_at "rest"
  | walk_at "ob")
local macro_rules | `(tactic| walk_at "go") => `(tactic| repeat walk_at "d")

open KP
def ct_goes (n : Nat) : Ct := ⟨Int × List Int, fun a ds => ds = [.int a.1, stT a.2, .int (n : Nat)] ∧ OkS a.1 a.2 ∧ a.2.length + n < 1000, fun a d _ => d = .bl (goesB a.1 n a.2)⟩
section
variable {P : Program} {w : World} {K : PySem.W.Frag} {mg : Str → Option Value} {base : Heap}
theorem nots {st : List Int} {m : Int} {p : Nat} (hp : p < st.length) : atI (st.map D.int ++ [D.int m]) ((p : Int) + 1) = some (.int (st.getD (p + 1) m)) := by
  rw [ix_nat (by omega), show ((p : Int) + 1).toNat = p + 1 from by omega]
  rcases Nat.lt_or_ge (p + 1) st.length with h | h
  · rw [List.getElem?_append_left (by simpa using h), List.getElem?_map, List.getElem?_eq_getElem h, List.getD_eq_getElem?_getD, List.getElem?_eq_getElem h]
    rfl
  · have e : p + 1 = st.length := by omega
    rw [List.getElem?_append_right (by simpa using h), List.length_map, e, Nat.sub_self, List.getD_eq_getElem?_getD, List.getElem?_eq_none_iff.mpr (Nat.le_refl _)]
    rfl
theorem at_st {st : List Int} {p : Nat} (hp : p < st.length) : atI (st.map D.int) (p : Int) = some (.int (st.getD p 0)) := by
  rw [ix_nat (by omega), Int.toNat_natCast, List.getElem?_map, List.getElem?_eq_getElem hp, List.getD_eq_getElem?_getD, List.getElem?_eq_getElem hp]
  rfl
theorem put_cut {st : List Int} {p : Nat} {l : Int} : cutD (st.map D.int) none (some ((p : Int) + 1)) ++ [D.int l] ++ cutD (st.map D.int) (some ((p : Int) + 1)) none = (KP.putF st p l).map D.int := by
  rw [cutD_to (by omega), cutD_from (by omega), show ((p : Int) + 1).toNat = p + 1 from by omega]
  unfold KP.putF
  simp
theorem cal_goes (Z : Fz K mg) : ∀ n : Nat, Cal P w K mg base (n + 1) "_law_k23_goes_on" (toSp K 0 (ct_goes n)) := by
  intro n
  induction n with
  | zero =>
    refine cal_of Z.d_law_k23_goes_on sc_law_k23_goes_on (fun a ds h => by rw [h.1]; rfl) (by decide) ?_
    intro f cdv A outer s H E hr (a : Int × List Int) ds hp X
    have hNd : X.N.Nodup := sc_law_k23_goes_on.nd
    have hN2 : X.N[2]? = some ("left" : Str) := rfl
    obtain ⟨hds, hp⟩ := hp
    subst hds
    show WSs X [] (_ :: _) [some (D.int a.1), some (stT a.2), some (D.int ((0 : Nat) : Int)), none, none, none, none] _
    walk_at "go"
    exact ⟨[], rfl, rfl⟩
  | succ n ih =>
    refine cal_of Z.d_law_k23_goes_on sc_law_k23_goes_on (fun a ds h => by rw [h.1]; rfl) (by decide) ?_
    intro f cdv A outer s H E hr (a : Int × List Int) ds hp X
    have hNd : X.N.Nodup := sc_law_k23_goes_on.nd
    have hN0 : X.N[0]? = some ("many" : Str) := rfl
    have hN1 : X.N[1]? = some ("here" : Str) := rfl
    have hN2 : X.N[2]? = some ("left" : Str) := rfl
    have hN3 : X.N[3]? = some ("spot_here" : Str) := rfl
    have hN4 : X.N[4]? = some ("end" : Str) := rfl
    have hN5 : X.N[5]? = some ("fine" : Str) := rfl
    have hN6 : X.N[6]? = some ("label" : Str) := rfl
    have hR : Room (n + 1) X.A := hr
    have hu64 : X.A.units + 64 < cLine := by have := hR.un; omega
    have m_range : X.mg "range" = none := Z.b_range
    have m_len : X.mg "len" = none := Z.b_len
    have c_goes : Cal X.prog X.w X.K X.mg X.base (n + 1) "_law_k23_goes_on" (toSp X.K 0 (ct_goes n)) := ih
    obtain ⟨hds, hp⟩ := hp
    subst hds
    obtain ⟨m, st⟩ := a
    obtain ⟨ok, hl⟩ := hp
    dsimp only at ok hl
    show WSs X [] (_ :: _) [some (D.int m), some (stT st), some (D.int ((n + 1 : Nat) : Int)), none, none, none, none] _
    walk_at "go"
    refine ws_for PassesOwn.never rfl ?_
    refine wi_range1 (by exact rfl) m_range ?_ (by rfl) (by rfl)
    walk_at "go"
    rw [List.length_map, Int.toNat_natCast]
    refine ⟨by omega, fun j E' => (∀ p, p < j → (List.range (gapF m st p).toNat).any (fun i => goesB m n (KP.putF st p (st.getD p 0 + 1 + (i : Int)))) = true) ∧ ∃ o3 o4 o5 o6, E' = [some (D.int m), some (stT st), some (D.int ((n + 1 : Nat) : Int)), o3, o4, o5, o6], ⟨fun p h => absurd h (Nat.not_lt_zero p), none, none, none, none, rfl⟩, (fun _ _ _ _ p h => nomatch h), ?_, ?_⟩
    · rintro j E' hj ⟨hall, o3, o4, o5, o6, rfl⟩
      dsimp only
      rw [show 0 + (j : Int) = (j : Int) from by omega]
      have at1 := nots (m := m) hj
      have at2 := at_st hj
      refine' wg_name hNd hN3 (.inl rfl) (by decide) (Nat.le_of_ble_eq_true rfl) ?_ (.inl rfl)
      dsimp only [List.set]
      refine wss_cons ?_
      refine' ws_par rfl hNd hN4 hN5 (by decide) (by decide) (by decide) rfl rfl ?_ ?hw ?hs
      case hw => rfl
      case hs => rfl
      have s0 := ok.lo st[j] (List.getElem_mem hj)
      have s1 := ok.hi st[j] (List.getElem_mem hj)
      have es : st.getD j 0 = st[j] := by rw [List.getD_eq_getElem?_getD, List.getElem?_eq_getElem hj]; rfl
      have m2 := ok.m2
      have s2 : 0 ≤ st.getD (j + 1) m ∧ st.getD (j + 1) m ≤ m := by
        rcases Nat.lt_or_ge (j + 1) st.length with h | h
        · have e2 : st.getD (j + 1) m = st[j + 1] := by rw [List.getD_eq_getElem?_getD, List.getElem?_eq_getElem h]; rfl
          have := ok.lo st[j + 1] (List.getElem_mem h)
          have := ok.hi st[j + 1] (List.getElem_mem h)
          omega
        · have e2 : st.getD (j + 1) m = m := by rw [List.getD_eq_getElem?_getD, List.getElem?_eq_none_iff.mpr h]; rfl
          omega
      walk_at "go"
      refine ⟨_, _, _, rfl, rfl, AddD.tup rfl rfl imms_ints ⟨trivial, trivial⟩ (by simp; omega), ?_⟩
      walk_at "go"
      refine ws_for PassesOwn.never rfl ?_
      refine wi_range2 (by exact rfl) m_range ?_ (by rfl) (by rfl) (by rfl) (by rfl)
      walk_at "go"
      rw [show (st.getD (j + 1) m - (st.getD j 0 + 1)).toNat = (gapF m st j).toNat from by unfold gapF; congr 1; omega]
      refine ⟨fun i E' => ∃ o6, E' = [some (D.int m), some (stT st), some (D.int ((n + 1 : Nat) : Int)), some (.int (j : Int)), some (.int (st.getD (j + 1) m)), some (.bl ((List.range i).any fun i => goesB m n (KP.putF st j (st.getD j 0 + 1 + (i : Int))))), o6], ⟨_, rfl⟩, (fun _ _ _ _ p h => nomatch h), ?_, ?_⟩
      · rintro i E' hi ⟨o6, rfl⟩
        have hput := putF_ok ok hj (i := (i : Int)) (by omega) (by omega) (by omega)
        have hlp : (KP.putF st j (st.getD j 0 + 1 + (i : Int))).length = st.length + 1 := putF_len hj
        have hc1 : (cutD (st.map D.int) none (some ((j : Int) + 1))).length + [D.int (st.getD j 0 + 1 + (i : Int))].length ≤ 100000 := by
          rw [cutD_to (by omega)]; simp; omega
        have hc2 : (cutD (st.map D.int) none (some ((j : Int) + 1)) ++ [D.int (st.getD j 0 + 1 + (i : Int))]).length + (cutD (st.map D.int) (some ((j : Int) + 1)) none).length ≤ 100000 := by
          rw [cutD_to (by omega), cutD_from (by omega)]; simp; omega
        have stp : (List.range (i + 1)).any (fun i => goesB m n (KP.putF st j (st.getD j 0 + 1 + (i : Int)))) = ((List.range i).any (fun i => goesB m n (KP.putF st j (st.getD j 0 + 1 + (i : Int)))) || goesB m n (KP.putF st j (st.getD j 0 + 1 + (i : Int)))) := by
          rw [List.range_succ, List.any_append]
          simp
        walk_at "go"
        refine ⟨fun h => ?_, fun h => ?_⟩
        · have h : (List.range i).any (fun i => goesB m n (KP.putF st j (st.getD j 0 + 1 + (i : Int)))) = false := by simpa using h
          rw [h] at stp
          walk_at "go"
          refine ⟨_, _, _, rfl, rfl, AddD.tup rfl rfl (imms_cut imms_ints) ⟨trivial, trivial⟩ hc1, ?_⟩
          walk_at "go"
          refine ⟨_, _, _, rfl, rfl, AddD.tup rfl rfl (imms_app (imms_cut imms_ints) ⟨trivial, trivial⟩) (imms_cut imms_ints) hc2, ?_⟩
          walk_at "go"
          refine ⟨(m, KP.putF st j (st.getD j 0 + 1 + (i : Int))), ⟨?_, hput, by dsimp only; omega⟩, fun d hd => ?_⟩
          · rw [put_cut]
            simp [stT]
          have hd : d = .bl (goesB m n (KP.putF st j (st.getD j 0 + 1 + (i : Int)))) := hd
          subst hd
          walk_at "go"
          exact ⟨_, by rw [stp]; rfl⟩
        · have h : (List.range i).any (fun i => goesB m n (KP.putF st j (st.getD j 0 + 1 + (i : Int)))) = true := by simpa using h
          rw [h] at stp
          refine wss_nil ⟨some (.int (st.getD j 0 + 1 + (i : Int))), ?_⟩
          rw [h, stp]
          rfl
      · rintro E' ⟨o6, rfl⟩
        walk_at "go"
        refine ⟨fun h => ?_, fun h => ?_⟩
        · have h : (List.range (gapF m st j).toNat).any (fun i => goesB m n (KP.putF st j (st.getD j 0 + 1 + (i : Int)))) = false := by simpa using h
          walk_at "go"
          refine ⟨[], rfl, ?_⟩
          show _ = D.bl (goesB m (n + 1) st)
          have : goesB m (n + 1) st = false := by
            unfold goesB
            rw [List.all_eq_false]
            exact ⟨j, List.mem_range.mpr hj, by rw [h]; decide⟩
          rw [this]
        · have h : (List.range (gapF m st j).toNat).any (fun i => goesB m n (KP.putF st j (st.getD j 0 + 1 + (i : Int)))) = true := by simpa using h
          refine wss_nil ⟨fun p hp => ?_, _, _, _, _, rfl⟩
          by_cases q : p = j
          · rw [q]; exact h
          · exact hall p (by omega)
    · rintro E' ⟨hall, o3, o4, o5, o6, rfl⟩
      walk_at "go"
      refine ⟨[], rfl, ?_⟩
      show _ = D.bl (goesB m (n + 1) st)
      have : goesB m (n + 1) st = true := by
        unfold goesB
        rw [List.all_eq_true]
        exact fun p hp => hall p (List.mem_range.mp hp)
      rw [this]
end
end K23


namespace K23
open PySem PySem.Spec L2 DL Ln
open PyProof.Rows (envOfC)
local macro_rules | `(tactic| walk_at "imm") => `(tactic| first | assumption | trivial | exact imms_ints | exact imms_pairs | (simp only [Imm, Imms]; done) | exact ⟨trivial, trivial⟩ | exact ⟨trivial, imms_ints⟩ | exact imms_cut imms_ints | exact imms_app imms_ints ⟨trivial, trivial⟩ | exact imms_app (imms_cut imms_ints) ⟨trivial, trivial⟩ | exact imms_app (imms_app (imms_cut imms_ints) ⟨trivial, trivial⟩) (imms_cut imms_ints))
local macro_rules | `(tactic| walk_at "add") => `(tactic| first | exact AddD.int | exact AddD.lst (by walk_at "imm") (by walk_at "imm") (by first | assumption | (simp; omega)) | ((refine AddD.tup ?at1 ?at2 ?at3 ?at4 ?at5); (case at1 => rfl); (case at2 => rfl); (case at3 => walk_at "imm"); (case at4 => walk_at "imm"); (case at5 => first | with_reducible assumption | (simp; omega))))
local macro_rules | `(tactic| walk_at "cost") => `(tactic| first | with_reducible assumption | (with_reducible exact cpow (by omega) (by omega) (by omega) (by omega)) | (with_reducible exact cdivw (by omega) (by omega)) | (with_reducible exact cmul1 (by omega) (by omega)) | (with_reducible exact cmul2 (by omega) (by omega)) | with_reducible exact imms_ints | omega)
local macro_rules | `(tactic| walk_at "mul") => `(tactic| ((refine MulD.int ?_); walk_at "cost"))
local macro_rules | `(tactic| walk_at "cmp") => `(tactic| first | with_reducible exact cmp_lt | with_reducible exact cmp_le | with_reducible exact cmp_gt | with_reducible exact cmp_ge | with_reducible exact cmp_eqI | with_reducible exact cmp_neI | with_reducible exact cmp_isN | with_reducible exact cmp_notN | ((with_reducible refine cmp_neLL ?_); with_reducible assumption) | ((with_reducible refine cmp_neTT ?_); with_reducible assumption) | ((with_reducible refine cmp_nePT ?_); with_reducible assumption) | ((with_reducible refine cmp_eqLL ?_); with_reducible assumption) | ((with_reducible refine cmp_eqLN ?_); with_reducible assumption) | ((with_reducible refine cmp_neLN ?_); with_reducible assumption) | ((with_reducible refine cmp_neP ?_); with_reducible assumption) | ((with_reducible refine cmp_eqN ?_); with_reducible assumption) | with_reducible exact cmp_notB | with_reducible exact cmp_neB | with_reducible exact cmp_eqB | with_reducible exact cmp_inL | with_reducible exact cmp_inF | with_reducible exact cmp_inT | with_reducible exact cmp_inP | with_reducible exact cmp_niL | with_reducible exact cmp_niF | with_reducible exact cmp_niT | with_reducible exact cmp_niP | exact cmp_lt | exact cmp_le | exact cmp_gt | exact cmp_ge | exact cmp_eqI | exact cmp_neI | exact cmp_isN | exact cmp_notN | ((refine cmp_neLL ?_); with_reducible assumption) | ((refine cmp_neTT ?_); with_reducible assumption) | ((refine cmp_nePT ?_); with_reducible assumption) | ((refine cmp_eqLL ?_); with_reducible assumption) | ((refine cmp_eqLN ?_); with_reducible assumption) | ((refine cmp_neLN ?_); with_reducible assumption) | ((refine cmp_neP ?_); with_reducible assumption) | ((refine cmp_eqN ?_); with_reducible assumption) | exact cmp_notB | exact cmp_neB | exact cmp_eqB | exact cmp_inL | exact cmp_inF | exact cmp_inT | exact cmp_inP | exact cmp_niL | exact cmp_niF | exact cmp_niT | exact cmp_niP)
local macro_rules | `(tactic| walk_at "ci") => `(tactic| first | exact cmpi_lt | exact cmpi_le | exact cmpi_gt | exact cmpi_ge)
local macro_rules | `(tactic| walk_at "sl") => `(tactic| first | ((refine sl_t ?_); walk_at "imm") | ((refine sl_p ?_); walk_at "imm") | ((refine sl_l ?_); walk_at "imm") | ((refine sl_f ?_); walk_at "imm"))
local macro_rules | `(tactic| walk_at "mark") => `(tactic| first | exact nomark _ | with_unfolding_all rfl)
local macro_rules | `(tactic| walk_at "boot") => `(tactic| first | with_reducible exact PyProof.Rows.boot_int | with_reducible exact PyProof.Rows.boot_bool | with_reducible exact PyProof.Rows.boot_tuple | with_reducible exact PyProof.Rows.boot_list | with_reducible exact PyProof.Rows.boot_str | with_reducible exact PyProof.Rows.boot_dict)
local macro_rules | `(tactic| walk_at "kit") => `(tactic| first | with_reducible exact kit_ii | with_reducible exact kit_ib | with_reducible exact kit_it | with_reducible exact kit_tt | with_reducible exact kit_ti | with_reducible exact kit_bb | with_reducible exact kit_bi | with_reducible exact kit_ll | with_reducible exact kit_dd | with_reducible exact kit_ss)
local macro_rules | `(tactic| walk_at "vis") => `(tactic| first | exact Or.inl rfl | exact Or.inr (Or.inl rfl) | exact Or.inr (Or.inr rfl))
local macro_rules | `(tactic| walk_at "pin") => `(tactic| first | decide | (simp only [watch, List.map_nil, List.map_cons, List.nil_append, List.append_nil, List.cons_append]; decide))
local macro_rules | `(tactic| walk_at "loc") => `(tactic| first | exact Or.inl rfl | exact Or.inr rfl)
local macro_rules | `(tactic| walk_at "key") => `(tactic| first | with_reducible exact key0 | with_reducible exact key1 | with_reducible exact key2 | with_reducible exact key3)
local macro_rules | `(tactic| walk_at "dg") => `(tactic| (
  (with_reducible refine' wo_dget ?h1 ?h2 ?h3 ?h4 ?h5 ?h6 ?h7 ?_ ?h9 ?h10 ?h11); (case h1 => with_reducible assumption); (case h2 => with_reducible assumption); (case h5 => walk_at "key"); (case h3 => rfl); (case h4 => exact kN); (case h6 => rfl); (case h7 => trivial); (case h9 => walk_at "vis"); (case h10 => decide); (case h11 => decide)))
local macro_rules | `(tactic| walk_at "ob") => `(tactic| first
  | (refine ⟨Nat.le_of_ble_eq_true rfl, ?_⟩; try dsimp only [List.set])
  | (refine ⟨_, rfl, Nat.le_of_ble_eq_true rfl, ?_⟩; try dsimp only [List.set])
  | (refine ⟨_, rfl, trivial, Nat.le_of_ble_eq_true rfl, Nat.le_of_ble_eq_true rfl, ?_⟩; try dsimp only [List.set])
  | (refine ⟨_, _, rfl, Nat.le_of_ble_eq_true rfl, Nat.le_of_ble_eq_true rfl, ?_⟩; try dsimp only [List.set])
  | (refine ⟨_, _, _, rfl, Nat.le_of_ble_eq_true rfl, Nat.le_of_ble_eq_true rfl, Nat.le_of_ble_eq_true rfl, ?_⟩; try dsimp only [List.set])
  | refine ⟨fun _ => ?_, fun h => Bool.noConfusion h⟩
  | refine ⟨fun h => Bool.noConfusion h, fun _ => ?_⟩
  | refine ⟨_, rfl, ?_⟩
  | refine ⟨_, _, rfl, rfl, ?_⟩
  | refine ⟨_, _, _, _, rfl, rfl, rfl, ?_⟩
  | (refine ⟨_, _, _, ?dd, rfl, rfl, rfl, ?hh, ?_⟩; (case hh => walk_at "kit"))
  | (refine ⟨_, _, ?dd, rfl, rfl, ?hh, ?_⟩; (case hh => first | walk_at "add" | walk_at "mul" | walk_at "cmp"))
  | (refine ⟨_, ?dd, rfl, ?hh, ?_⟩; (case hh => walk_at "sl"))
  | (refine ⟨_, _, ?dd, rfl, rfl, ?hh, ?ii, ?_⟩; (case hh => first | with_reducible assumption | with_reducible exact at2_0 | with_reducible exact at2_1 | with_reducible exact at3_0 | with_reducible exact at3_1 | with_reducible exact at3_2); (case ii => trivial))
  | (refine ⟨fun _ => ?_, ?hx⟩; (case hx => (intro h; exfalso; (first | ((simp only [decide_eq_false_iff_not, decide_eq_true_eq, Bool.not_eq_true', Bool.not_eq_false'] at h); omega) | ((simp at h); done)))))
  | (refine ⟨?hx, fun _ => ?_⟩; (case hx => (intro h; exfalso; (first | ((simp only [decide_eq_false_iff_not, decide_eq_true_eq, Bool.not_eq_true', Bool.not_eq_false'] at h); omega) | ((simp at h); done)))))
  | ((with_reducible refine And.intro ?hh ?_); (case hh => walk_at "cost")))
local macro_rules | `(tactic| walk_at "gWSs") => `(tactic| first
  | with_reducible refine wss_nil ?_
  | with_reducible refine wss_one ?_
  | with_reducible refine wss_cons ?_)
local macro_rules | `(tactic| walk_at "gWS") => `(tactic| first
  | with_reducible refine ws_if ?_
  | with_reducible refine ws_ret ?_
  | ((with_reducible refine' ws_set ?h1 ?h2 ?h3 ?h4 ?_ ?h6 ?h7); (case h1 => with_reducible assumption); (case h2 => with_reducible assumption); (case h3 => walk_at "loc"); (case h4 => walk_at "pin"); (case h6 => rfl); (case h7 => exact .inl rfl))
  | ((with_reducible refine' ws_augI ?h1 ?h2 ?h3 ?h4 ?h5 ?_ ?h7); (case h1 => with_reducible assumption); (case h2 => with_reducible assumption); (case h3 => rfl); (case h4 => walk_at "loc"); (case h5 => walk_at "pin"); (case h7 => exact .inl rfl))
  | ((with_reducible refine' ws_asg2 ?h1 ?h2 ?h3 ?h4 ?h5 ?h6 ?h7 ?_ ?h9 ?h10 ?h11 ?h12); (case h1 => with_reducible assumption); (case h2 => with_reducible assumption); (case h3 => with_reducible assumption); (case h4 => walk_at "loc"); (case h5 => walk_at "loc"); (case h6 => walk_at "pin"); (case h7 => walk_at "pin"); (case h9 => exact .inl rfl); (case h10 => exact .inl rfl); (case h11 => rfl); (case h12 => rfl))
  | ((with_reducible refine' ws_dput ?h1 ?h2 ?_ ?h4 ?h5 ?h6 ?h7); (case h1 => with_reducible assumption); (case h2 => with_reducible assumption); (case h4 => rfl); (case h5 => walk_at "vis"); (case h6 => decide); (case h7 => decide))
  | ((with_reducible refine' ws_asg ?_ ?h2 ?h3 ?h4); (case h2 => rfl); (case h3 => rfl); (case h4 => rfl))
  | ((with_reducible refine ws_expr ?_ ?h2); (case h2 => rfl))
  | with_reducible refine ws_pass ?_)
local macro_rules | `(tactic| walk_at "gWG") => `(tactic| first
  | ((with_reducible refine' wg_name ?h1 ?h2 ?h3 ?h4 ?h5 ?_ ?h7); (case h1 => with_reducible assumption); (case h2 => with_reducible assumption); (case h3 => walk_at "loc"); (case h4 => walk_at "pin"); (case h5 => exact Nat.le_of_ble_eq_true rfl); (case h7 => exact .inl rfl); (try dsimp only [List.set]))
  | ((with_reducible refine' wg_pair ?a1 ?a2 ?a3 ?a4 ?a5 ?a6 ?a7 ?a8 ?a9 ?b1 ?_ ?b3 ?b4 ?b5 ?b6 ?b7); (case a1 => rfl); (case a2 => with_reducible assumption); (case a3 => with_reducible assumption); (case a4 => with_reducible assumption); (case a5 => walk_at "loc"); (case a6 => walk_at "loc"); (case a7 => walk_at "pin"); (case a8 => walk_at "pin"); (case a9 => exact Nat.le_of_ble_eq_true rfl); (case b1 => exact Nat.le_of_ble_eq_true rfl); (case b3 => exact .inl rfl); (case b4 => exact .inl rfl); (case b5 => exact fun t h => pg_tup rfl h); (case b6 => exact fun t u h1 h2 => pgs_cons h1 h2); (case b7 => exact fun t h => pgs_cons h pgs_nil); (try dsimp only [List.set]))
  | ((with_reducible refine' wg_tri ?a1 ?a2 ?a3 ?a4 ?a5 ?a6 ?a7 ?a8 ?b1 ?b2 ?b3 ?b4 ?b5 ?_ ?c1 ?c2 ?c3 ?c4 ?c5 ?c6 ?c7); (case a1 => rfl); (case a2 => with_reducible assumption); (case a3 => with_reducible assumption); (case a4 => with_reducible assumption); (case a5 => with_reducible assumption); (case a6 => walk_at "loc"); (case a7 => walk_at "loc"); (case a8 => walk_at "loc"); (case b1 => walk_at "pin"); (case b2 => walk_at "pin"); (case b3 => walk_at "pin"); (case b4 => exact ⟨Nat.le_of_ble_eq_true rfl, Nat.le_of_ble_eq_true rfl, Nat.le_of_ble_eq_true rfl⟩); (case b5 => first | exact ⟨trivial, trivial, trivial⟩ | exact ⟨trivial, imms_ints, trivial⟩); (case c1 => exact .inl rfl); (case c2 => exact .inl rfl); (case c3 => exact .inl rfl); (case c4 => exact fun t h => pg_tup rfl h); (case c5 => exact fun t u h1 h2 => pgs_cons h1 h2); (case c6 => exact fun t u h1 h2 => pgs_cons h1 h2); (case c7 => exact fun t h => pgs_cons h pgs_nil); (try dsimp only [List.set])))
local macro_rules | `(tactic| walk_at "gENm") => `(tactic| first
  | ((with_reducible refine' we_name ?h1 ?h2 ?h3 ?_ ?h5 ?h6 ?h7); (case h1 => with_reducible assumption); (case h2 => rfl); (case h3 => walk_at "imm"); (case h5 => walk_at "vis"); (case h6 => decide); (case h7 => decide))
  | ((with_reducible refine' we_move ?h1 ?h2 ?_ ?h5 ?h6 ?h7); (case h1 => with_reducible assumption); (case h2 => rfl); (case h5 => walk_at "vis"); (case h6 => decide); (case h7 => decide); (try dsimp only [List.set])))
local macro_rules | `(tactic| walk_at "gWE") => `(tactic| first
  | with_reducible refine we_of ?_)
local macro_rules | `(tactic| walk_at "gName") => `(tactic| first
  | ((with_reducible refine' wo_nameI ?h1 ?h2 ?h3 ?_ ?h5 ?h6 ?h7); (case h1 => with_reducible assumption); (case h2 => rfl); (case h3 => walk_at "imm"); (case h5 => walk_at "vis"); (case h6 => decide); (case h7 => decide))
  | ((with_reducible refine' wo_name ?h1 ?h2 ?_ ?h5 ?h6 ?h7); (case h1 => with_reducible assumption); (case h2 => rfl); (case h5 => walk_at "vis"); (case h6 => decide); (case h7 => decide))
  | ((with_reducible refine' wo_gint ?h1 ?h2 ?_ ?h4); (case h1 => rfl); (case h2 => with_reducible assumption); (case h4 => decide))
  | ((with_reducible refine' wo_tyn ?h1 ?h2 ?h3 ?_ ?h5 ?h6); (case h1 => rfl); (case h2 => with_reducible assumption); (case h3 => walk_at "boot"); (case h5 => decide); (case h6 => decide)))
local macro_rules | `(tactic| walk_at "gCon") => `(tactic| first
  | with_reducible refine wo_int ?_
  | with_reducible refine wo_non ?_
  | with_reducible refine wo_bl ?_
  | with_reducible refine wo_str ?_)
local macro_rules | `(tactic| walk_at "gBin") => `(tactic| first
  | with_reducible refine wo_addD ?_
  | with_reducible refine wo_sub ?_
  | with_reducible refine wo_mulD ?_
  | with_reducible refine wo_mod ?_
  | with_reducible refine wo_fdiv ?_
  | with_reducible refine wo_pow ?_
  | with_reducible refine wo_shl ?_)
local macro_rules | `(tactic| walk_at "gBool") => `(tactic| first
  | with_reducible refine wo_and ?_
  | with_reducible refine wo_or ?_
  | with_reducible refine wo_bone ?_)
local macro_rules | `(tactic| walk_at "gCmp") => `(tactic| first
  | ((with_reducible refine wo_chain ?_ ?h2); (case h2 => with_unfolding_all rfl))
  | ((with_reducible refine wo_cmpD ?h1 ?_); (case h1 => walk_at "mark")))
local macro_rules | `(tactic| walk_at "gSub") => `(tactic| first
  | walk_at "dg"
  | with_reducible refine wo_slD ?_
  | with_reducible refine wo_revL ?_
  | ((with_reducible refine wo_ix ?h1 ?_); (case h1 => exact fun _ _ => rfl)))
local macro_rules | `(tactic| walk_at "gCalN") => `(tactic| first
  | ((with_reducible refine wo_sortedS ?h1 ?h2 ?_ ?h4); (case h1 => rfl); (case h2 => with_reducible assumption); (case h4 => rfl))
  | ((with_reducible refine' wo_c0 ?h1 ?h2 ?h3 ?h4 ?_ ?h6 ?h7 ?h8); (case h1 => with_reducible assumption); (case h2 => with_reducible assumption); (case h3 => first | decide | exact Nat.le_refl _ | omega); (case h4 => rfl); (case h6 => decide); (case h7 => rfl); (case h8 => rfl))
  | ((with_reducible refine' wo_c1 ?h1 ?h2 ?h3 ?h4 ?_ ?h6 ?h7 ?h8); (case h1 => with_reducible assumption); (case h2 => with_reducible assumption); (case h3 => first | decide | exact Nat.le_refl _ | omega); (case h4 => rfl); (case h6 => decide); (case h7 => rfl); (case h8 => rfl))
  | ((with_reducible refine wo_len ?h1 ?h2 ?_ ?h4); (case h1 => rfl); (case h2 => with_reducible assumption); (case h4 => rfl))
  | ((with_reducible refine wo_min2 rfl ?h1 ?h2 ?_ ?h4 ?h5); (case h1 => rfl); (case h2 => with_reducible assumption); (case h4 => rfl); (case h5 => rfl))
  | ((with_reducible refine wo_max2 rfl ?h1 ?h2 ?_ ?h4 ?h5); (case h1 => rfl); (case h2 => with_reducible assumption); (case h4 => rfl); (case h5 => rfl))
  | ((with_reducible refine wo_abs ?h1 ?h2 ?_ ?h4); (case h1 => rfl); (case h2 => with_reducible assumption); (case h4 => rfl))
  | ((with_reducible refine wo_intI ?h1 ?h2 ?_ ?h4); (case h1 => rfl); (case h2 => with_reducible assumption); (case h4 => rfl))
  | ((have hmode : PtMode := by with_reducible assumption); (with_reducible refine wo_tupleF ?h1 ?h2 ?_ ?h4); (case h1 => rfl); (case h2 => with_reducible assumption); (case h4 => rfl))
  | ((with_reducible refine wo_tuple ?h1 ?h2 ?_ ?h4); (case h1 => rfl); (case h2 => with_reducible assumption); (case h4 => rfl))
  | ((with_reducible refine wo_listR1 rfl ?h1 ?h2 ?h3 ?h5 ?_ ?h4 ?h6); (case h1 => rfl); (case h2 => with_reducible assumption); (case h3 => rfl); (case h5 => with_reducible assumption); (case h4 => rfl); (case h6 => rfl))
  | ((with_reducible refine wo_list ?h1 ?h2 ?_ ?h4); (case h1 => rfl); (case h2 => with_reducible assumption); (case h4 => rfl))
  | ((with_reducible refine wo_all ?h0 ?h1 ?h2 ?_ ?h4); (case h0 => rfl); (case h1 => rfl); (case h2 => with_reducible assumption); (case h4 => rfl))
  | ((with_reducible refine wo_isi2 ?h1 ?h2 ?_ ?h4 ?h5); (case h1 => rfl); (case h2 => with_reducible assumption); (case h4 => rfl); (case h5 => rfl)))
local macro_rules | `(tactic| walk_at "gCalA") => `(tactic| first
  | ((with_reducible refine' wo_dpop ?h1 ?h2 ?h3 ?h4 ?h5 ?h6 ?_ ?h8 ?h9 ?h10 ?h11); (case h1 => with_reducible assumption); (case h2 => with_reducible assumption); (case h5 => walk_at "key"); (case h3 => rfl); (case h4 => exact kN); (case h6 => rfl); (case h8 => exact fun t ht => pe_bm PySem.F.plainAttrs_list PySem.F.slot_list_pop PySem.F.type_list_pop mt_popAt ht (pa_cons pe_int pa_nil)); (case h9 => walk_at "vis"); (case h10 => decide); (case h11 => decide))
  | ((with_reducible refine' wo_append ?h1 ?h2 ?_ ?h4 ?h5 ?h6); (case h1 => with_reducible assumption); (case h2 => exact ⟨_, rfl⟩); (case h4 => exact pe_slot (by with_reducible assumption)); (case h5 => exact pe_bm PySem.F.plainAttrs_list PySem.F.slot_list_append PySem.F.type_list_append mt_append (pe_slot (by with_reducible assumption)) pa_w); (case h6 => rfl))
  | ((with_reducible refine' wo_insert ?h2 ?_ ?h4 ?h5 ?h6 ?h7); (case h4 => rfl); (case h5 => exact pe_bm PySem.F.plainAttrs_list PySem.F.slot_list_insert PySem.F.type_list_insert mt_insert (pe_slot (by with_reducible assumption)) pa_w); (case h2 => exact ⟨_, rfl⟩); (case h6 => rfl); (case h7 => rfl))
  | ((with_reducible refine' wo_popAt ?h1 ?_ ?h3 ?h4); (case h3 => exact pe_bm PySem.F.plainAttrs_list PySem.F.slot_list_pop PySem.F.type_list_pop mt_popAt (pe_slot (by with_reducible assumption)) pa_w); (case h1 => exact ⟨_, rfl⟩); (case h4 => rfl))
  | ((have hmode : PtMode := by with_reducible assumption); (with_reducible refine wo_tix ?_ ?h2 ?h3 ?h4 ?h5); (case h2 => rfl); (case h3 => rfl); (case h4 => rfl); (case h5 => rfl))
  | ((with_reducible refine' wo_indexI ?_ ?h5 ?h6); (case h5 => exact pe_bm PySem.F.plainAttrs_list PySem.F.slot_list_index PySem.F.type_list_index mt_index pe_w pa_w); (case h6 => rfl))
  | ((with_reducible refine' wo_pop ?h1 ?h2 ?h3 ?_ ?h5); (case h1 => rfl); (case h5 => exact pe_bm0 PySem.F.plainAttrs_list PySem.F.slot_list_pop PySem.F.type_list_pop mt_pop (pe_slot (by with_reducible assumption)))))
local macro_rules | `(tactic| walk_at "gWO") => `(tactic| first
  | with_reducible refine wo_not ?_
  | with_reducible refine wo_if ?_
  | with_reducible refine wo_lst ?_
  | with_reducible refine wo_tup ?_)
local macro_rules | `(tactic| walk_at "gWT") => `(tactic| first
  | ((with_reducible refine' wt_dne ?h1 ?h2 ?h3 ?h4 ?h5 ?h6 ?_ ?h9 ?h10 ?h11); (case h1 => with_reducible assumption); (case h2 => with_reducible assumption); (case h5 => walk_at "key"); (case h3 => rfl); (case h4 => exact kN); (case h6 => rfl); (case h9 => walk_at "vis"); (case h10 => decide); (case h11 => decide))
  | with_reducible refine wt_not ?_
  | with_reducible refine wt_bool ?_
  | ((with_reducible refine wt_chain ?_ ?h2); (case h2 => with_unfolding_all rfl))
  | ((with_reducible refine wt_cmpD ?h1 ?_); (case h1 => walk_at "mark"))
  | ((with_reducible refine wt_val ?_ ?h2); (case h2 => exact fun _ => rfl)))
local macro_rules | `(tactic| walk_at "gWW") => `(tactic| first
  | with_reducible refine ww_and ?_
  | with_reducible refine ww_and1 ?_
  | with_reducible refine ww_or ?_
  | with_reducible refine ww_or1 ?_)
local macro_rules | `(tactic| walk_at "gWA") => `(tactic| first
  | ((with_reducible refine wa_star ?_ ?h2); (case h2 => rfl))
  | ((with_reducible refine wa_cons ?_ ?h2); (case h2 => rfl))
  | with_reducible refine wa_nil ?_)
local macro_rules | `(tactic| walk_at "rest") => `(tactic| first
  | with_reducible refine wvs_cons ?_
  | with_reducible refine wvs_nil ?_
  | with_reducible refine wp_none ?_
  | with_reducible refine wp_some ?_
  | ((with_reducible refine' wtc_link ?h1 ?_); (case h1 => walk_at "ci"))
  | ((with_reducible refine' wtc_last ?h1 ?_); (case h1 => walk_at "ci")))
local macro_rules | `(tactic| walk_at "d") => `(tactic| first
  | ((with_reducible refine gWSs ?_); walk_at "gWSs")
  | ((with_reducible refine gWS ?_); walk_at "gWS")
  | ((with_reducible refine gWG ?_); walk_at "gWG")
  | ((with_reducible refine gENm ?_); walk_at "gENm")
  | ((with_reducible refine gWE ?_); walk_at "gWE")
  | ((with_reducible refine gName ?_); walk_at "gName")
  | ((with_reducible refine gCon ?_); walk_at "gCon")
  | ((with_reducible refine gBin ?_); walk_at "gBin")
  | ((with_reducible refine gBool ?_); walk_at "gBool")
  | ((with_reducible refine gCmp ?_); walk_at "gCmp")
  | ((with_reducible refine gSub ?_); walk_at "gSub")
  | ((with_reducible refine gCalN ?_); walk_at "gCalN")
  | ((with_reducible refine gCalA ?_); walk_at "gCalA")
  | ((with_reducible refine gWO ?_); walk_at "gWO")
  | ((with_reducible refine gWT ?_); walk_at "gWT")
  | ((with_reducible refine gWW ?_); walk_at "gWW")
  | ((with_reducible refine gWA ?_); walk_at "gWA")
  | walk_at "rest"
  | walk_at "ob")
local macro_rules | `(tactic| walk_at "go") => `(tactic| repeat walk_at "d")

open KP
def ct_law_k23_drawn : Ct := ⟨Sta × Int × Int × Nat, fun a ds => ds = [sD a.1, .int a.2.2.1, .int (a.2.2.2 : Nat)] ∧ SOk a.2.1 a.1 ∧ (1 ≤ a.2.2.1 ∧ a.2.2.1 < 1000000000000000000) ∧ (1 ≤ a.2.2.2 ∧ a.2.2.2 ≤ 50) ∧ a.2.1 ≤ 800000000000,
  fun a d ds => ∃ (st : List Int) (s : Sta), d = stT st ∧ OkS a.2.2.1 st ∧ st.length ≤ 10 ∧ ds = [sD s] ∧ SOk (a.2.1 + 20) s⟩
def ct_law_k23_kept : Ct := ⟨Sta × Int × Int × List Int × Nat, fun a ds => ds = [sD a.1, .int a.2.2.1, stT a.2.2.2.1, .int (a.2.2.2.2 : Nat)] ∧ SOk a.2.1 a.1 ∧ OkS a.2.2.1 a.2.2.2.1 ∧ All a.2.2.1 a.2.2.2.1 a.2.2.2.2 ∧ a.2.2.2.1.length ≤ 20 ∧ a.2.2.2.2 ≤ 59 ∧ a.2.1 ≤ 800000000000,
  fun a d ds => ∃ (s : Sta), d = .bl true ∧ ds = [sD s] ∧ SOk (a.2.1 + 200) s⟩
def ct_law_k23_stuck : Ct := ⟨Sta × Int × Int × List Int × Nat, fun a ds => ds = [sD a.1, .int a.2.2.1, stT a.2.2.2.1, .int (a.2.2.2.2 : Nat)] ∧ SOk a.2.1 a.1 ∧ OkS a.2.2.1 a.2.2.2.1 ∧ (∃ p, tightF a.2.2.1 a.2.2.2.1 a.2.2.2.2 = some p) ∧ a.2.2.2.1.length ≤ 20 ∧ a.2.2.2.2 ≤ 59 ∧ a.2.1 ≤ 800000000000,
  fun a d ds => ∃ (s : Sta), d = .bl true ∧ ds = [sD s] ∧ SOk (a.2.1 + 200) s⟩
section
variable {P : Program} {w : World} {K : PySem.W.Frag} {mg : Str → Option Value} {base : Heap}
theorem cal_law_k23_drawn (Z : Fz K mg) : Cal P w K mg base 3 "_law_k23_drawn" (toSp K 1 ct_law_k23_drawn) := by
  refine cal_of Z.d_law_k23_drawn sc_law_k23_drawn (fun a ds h => by rw [h.1]; rfl) (by decide) ?_
  intro f cdv A outer s H E hr (a : Sta × Int × Int × Nat ) ds hp X
  have hNd : X.N.Nodup := sc_law_k23_drawn.nd
  have hN0 : X.N[0]? = some ("state" : Str) := rfl
  have hN1 : X.N[1]? = some ("many" : Str) := rfl
  have hN2 : X.N[2]? = some ("turns" : Str) := rfl
  have hN3 : X.N[3]? = some ("found" : Str) := rfl
  have hN4 : X.N[4]? = some ("label" : Str) := rfl
  have hN5 : X.N[5]? = some ("turn" : Str) := rfl
  have hN6 : X.N[6]? = some ("here" : Str) := rfl
  have hR : Room 2 X.A := hr
  have hu64 : X.A.units + 64 < cLine := by have := hR.un; omega
  have hu1 : X.A.units + 1 < cLine := by have := hR.un; omega
  have m_range : X.mg "range" = none := Z.b_range
  have m_tuple : X.mg "tuple" = none := Z.b_tuple
  have c_law_draw : Cal X.prog X.w X.K X.mg X.base 2 "_law_draw" (toSp X.K 1 ct_law_draw) := cal_law_draw Z
  obtain ⟨hds, hp⟩ := hp
  subst hds
  show WSs X [0] (_ :: _) [ some (sD a.1), some (D.int a.2.2.1), some (D.int (a.2.2.2 : Nat)), none, none, none, none] _
  obtain ⟨s, n, m, tn⟩ := a
  obtain ⟨ok, ⟨m0, m1⟩, ⟨t0, t1⟩, hn⟩ := hp
  dsimp only at ok m0 m1 t0 t1 hn ⊢
  refine wss_cons ?_
  refine' ws_par rfl hNd hN3 hN4 (by decide) (by decide) (by decide) rfl rfl ?_ ?hw ?hs
  case hw => rfl
  case hs => rfl
  walk_at "go"
  refine ws_for PassesOwn.never rfl ?_
  refine wi_range1 (by exact rfl) m_range ?_ (by rfl) (by rfl)
  walk_at "go"
  refine ⟨(_, _, _), ⟨rfl, by with_reducible assumption, by dsimp only; (try simp only [ncast]); omega, by dsimp only; omega⟩, ?_⟩
  rintro _ _ ⟨r, s1, rfl, hr, hd, oks1⟩
  cases hd
  dsimp only at hr oks1
  try simp only [ncast] at hr
  dsimp only [List.set]
  walk_at "go"
  have pw : (0 : Int) < 2 ^ tn := Int.pow_pos (by decide)
  have pw1 : (2 : Int) ≤ 2 ^ tn := by
    obtain ⟨q, rfl⟩ : ∃ q, tn = q + 1 := ⟨tn - 1, by omega⟩
    have : (0 : Int) < 2 ^ q := Int.pow_pos (by decide)
    rw [Int.pow_succ]
    omega
  refine ⟨fun j E' => ∃ (f : List Int) (lab : Int) (s' : Sta) (o : Option D), f.Pairwise (fun a b => a < b) ∧ (∀ x ∈ f, 0 ≤ x ∧ x < lab) ∧ f.length = j ∧ (j = 0 → lab = 0) ∧ (0 < j → (0 : Int) ∈ f) ∧ 0 ≤ lab ∧ SOk (n + 1 + j) s' ∧ E' = [some (sD s'), some (.int m), some (.int (tn : Nat)), some (.lst (f.map D.int)), some (.int lab), o, none], ⟨[], 0, s1, none, List.Pairwise.nil, (fun x h => nomatch h), rfl, fun _ => rfl, fun h => absurd h (by omega), Int.le_refl _, oks1.mono (by simp), rfl⟩, (fun _ _ _ _ p h => nomatch h), ?_, ?_⟩
  · rintro j E' hj ⟨f, lab, s', o, hpw, hx, hfl, hz, hm, hl0, ok', rfl⟩
    have hjl : (j : Int) < 1 + r := by omega
    walk_at "go"
    refine ⟨by rw [List.length_map]; omega, ?_⟩
    walk_at "go"
    refine ⟨(_, _, _), ⟨rfl, by with_reducible assumption, by dsimp only; (try simp only [ncast]); omega, by dsimp only; omega⟩, ?_⟩
    rintro _ _ ⟨r2, s2, rfl, hr2, hd, oks2⟩
    cases hd
    dsimp only at hr2 oks2
    try simp only [ncast] at hr2
    dsimp only [List.set]
    walk_at "go"
    refine ⟨f ++ [lab], _, s2, _, ?_, ?_, by simp; omega, fun h => absurd h (by omega), fun _ => ?_, ?_, oks2.mono (by push_cast; omega), by rw [List.map_append]; rfl⟩
    · rw [List.pairwise_append]
      exact ⟨hpw, List.pairwise_singleton _ _, fun a ha b hb => by rw [List.mem_singleton.mp hb]; exact (hx a ha).2⟩
    · intro x h
      rw [Int.toNat_natCast]
      rcases List.mem_append.mp h with q | q
      · have := hx x q
        omega
      · rw [List.mem_singleton.mp q]
        omega
    · by_cases q : j = 0
      · rw [hz q]
        simp
      · exact List.mem_append_left _ (hm (by omega))
    · rw [Int.toNat_natCast]
      omega
  · rintro E' ⟨f, lab, s', o, hpw, hx, hfl, hz, hm, hl0, ok', rfl⟩
    have hjl : f.length ≤ 4 := by omega
    walk_at "go"
    refine' wo_lcX (own := [("here", 6)]) rfl hNd ?ok ?hg ?_ ?hs
    case ok => exact (show BlkOk ["state", "many", "turns", "found", "label", "turn", "here"] (defScope s_law_k23_drawn) _ [("here", 6)] from ⟨rfl, by decide +kernel, by decide +kernel, by decide +kernel, by decide +kernel⟩)
    case hs => exact fun _ => rfl
    case hg => exact blk_name hNd hN6 rfl
    refine wi_lst ?_
    walk_at "go"
    rw [List.length_map]
    refine ⟨Int, f, D.int, fun c => (if c < m then some c else none).map D.int, rfl, by omega, fun j h => src_ints h, (fun p h => by cases List.mem_singleton.mp h; rfl), ?_, ?_⟩
    · intro x hx
      refine ⟨_, tgb_name (by decide) (Nat.le_of_ble_eq_true rfl), fun s H C cl fp => ?_⟩
      dsimp only [List.set]
      refine wif_one ?_
      walk_at "go"
      refine ⟨fun h s H C cl fp => ?_, fun h => ⟨by rw [if_neg (of_decide_eq_false h)]; rfl, rfl⟩⟩
      walk_at "go"
      exact ⟨by rw [if_pos (of_decide_eq_true h)]; rfl, rfl⟩
    · rw [fm_ints]
      walk_at "go"
      have sub : (f.filterMap fun c => if c < m then some c else none) = f.filter fun c => decide (c < m) := by
        rw [← List.filterMap_eq_filter]
        congr 1
        funext c
        by_cases h : c < m <;> simp [h, Option.guard]
      rw [sub]
      refine ⟨[sD s'], rfl, _, s', rfl, ⟨m0, m1, ?_, hpw.filter _, fun x h => (hx x (List.mem_filter.mp h).1).1, fun x h => by simpa using (List.mem_filter.mp h).2, ?_⟩, ?_, rfl, ok'.mono (by dsimp only; omega)⟩
      · have h0 : (0 : Int) ∈ f := hm (by omega)
        have : (0 : Int) ∈ f.filter fun c => decide (c < m) := List.mem_filter.mpr ⟨h0, decide_eq_true (by omega)⟩
        exact List.ne_nil_of_mem this
      · exact Nat.le_trans (List.length_filter_le _ _) (by omega)
      · exact Nat.le_trans (List.length_filter_le _ _) (by omega)
end
end K23


namespace DL
open PySem PySem.Spec L2
section
variable {X : Cx} {n : List Nat} {E : EnvT}
theorem cmp_neB {a b : Bool} : CmpD X .NotEq (.bl a) (.bl b) (!decide (a = b)) := .mk op_ne fun Z H v1 v2 G1 G2 r1 r2 Q q => by
  cases r1
  cases r2
  refine ⟨rfl, ?_⟩
  have e : (!decide (V.bl a = V.bl b)) = !decide (a = b) := by cases a <;> cases b <;> rfl
  rw [e]
  exact q _ H [] (.bl _) Grow.refl
theorem cmp_eqB {a b : Bool} : CmpD X .Eq (.bl a) (.bl b) (decide (a = b)) := .mk op_eq fun Z H v1 v2 G1 G2 r1 r2 Q q => by
  cases r1
  cases r2
  refine ⟨rfl, ?_⟩
  have e : (decide (V.bl a = V.bl b)) = decide (a = b) := by cases a <;> cases b <;> rfl
  rw [e]
  exact q _ H [] (.bl _) Grow.refl
/-- three names as a target, things that own nothing -/
theorem wg_tri {i j l kk : Nat} {x y z : Str} {d1 d2 d3 : D} {k : EnvT → Prop} {px py pz pt : Pos} (hc : X.calm = true) (hN : X.N.Nodup) (hi : X.N[i]? = some x) (hj : X.N[j]? = some y) (hl : X.N[l]? = some z) (hx : Loc X.env.scope x) (hy : Loc X.env.scope y) (hz : Loc X.env.scope z)
    (hni : i ∉ n) (hnj : j ∉ n) (hnl : l ∉ n) (hE : i < E.length ∧ j < E.length ∧ l < E.length) (im : Imm d1 ∧ Imm d2 ∧ Imm d3)
    (h : k (((E.set i (some d1)).set j (some d2)).set l (some d3)))
    (hf : X.fn x = true ∨ X.env.scope.names.lookup x = some .local) (hf2 : X.fn y = true ∨ X.env.scope.names.lookup y = some .local) (hf3 : X.fn z = true ∨ X.env.scope.names.lookup z = some .local)
    (hp : ∀ t, PGs X [.Name x px, .Name y py, .Name z pz] t → PG X (.Tuple [.Name x px, .Name y py, .Name z pz] kk pt) (gTup X.K 3 t))
    (hp1 : ∀ t u, PG X (.Name x px) t → PGs X [.Name y py, .Name z pz] u → PGs X [.Name x px, .Name y py, .Name z pz] (gCons t u))
    (hp2 : ∀ t u, PG X (.Name y py) t → PGs X [.Name z pz] u → PGs X [.Name y py, .Name z pz] (gCons t u)) (hp3 : ∀ t, PG X (.Name z pz) t → PGs X [.Name z pz] (gCons t gNil)) :
    WG X n (.Tuple [.Name x px, .Name y py, .Name z pz] kk pt) (.tup [d1, d2, d3]) E k := by
  intro Z H σ F G v Q he r nd nz hk
  refine wpG_by (hp _ (hp1 _ _ (pg_name hN hi hx hf) (hp2 _ _ (pg_name hN hj hy hf2) (hp3 _ (pg_name hN hl hz hf3))))) ?_
  cases r with
  | tup hs rs =>
    cases rs with
    | cons r1 rs =>
      cases rs with
      | cons r2 rs =>
        cases rs with
        | cons r3 rs =>
          cases rs
          rename_i v1 G1 v2 G2 v3 G3
          have nF : ([] ++ F).Nodup := he.nd
          obtain ⟨F1, h1, m1⟩ := he.asg (r1.nils im.1) he.nd (fun a ha => nomatch ha) hE.1
          obtain ⟨F2, h2, m2⟩ := h1.asg (r2.nils im.2.1) h1.nd (fun a ha => nomatch ha) (by rw [List.length_set]; exact hE.2.1)
          obtain ⟨F3, h3, m3⟩ := h2.asg (r3.nils im.2.2) h2.nd (fun a ha => nomatch ha) (by rw [List.length_set, List.length_set]; exact hE.2.2)
          have sub : ∀ a ∈ F3, a ∈ F := fun a ha => by
            rcases m3 a ha with q | q
            · exact nomatch q
            · rcases m2 a q with q | q
              · exact nomatch q
              · rcases m1 a q with q | q
                · exact nomatch q
                · exact q
          refine ⟨_, _, rfl, hs, rfl, v1, [v2, v3], rfl, v2, [v3], rfl, v3, [], rfl, rfl, ?_⟩
          exact hk _ Z H _ F3 h ⟨h3, h3.nd, (fun a q => nomatch q), Stp.refl.sub fun a ha => List.mem_append_right _ (sub a ha), ((Pin.set hni).trans (Pin.set hnj)).trans (Pin.set hnl)⟩
end
end DL

namespace K23
open PySem PySem.Spec L2 DL Ln
open PyProof.Rows (envOfC)
local macro_rules | `(tactic| walk_at "imm") => `(tactic| first | assumption | trivial | exact imms_ints | exact imms_pairs | (simp only [Imm, Imms]; done) | exact ⟨trivial, trivial⟩ | exact ⟨trivial, imms_ints⟩ | exact imms_cut imms_ints | exact imms_app imms_ints ⟨trivial, trivial⟩ | exact imms_app (imms_cut imms_ints) ⟨trivial, trivial⟩ | exact imms_app (imms_app (imms_cut imms_ints) ⟨trivial, trivial⟩) (imms_cut imms_ints))
local macro_rules | `(tactic| walk_at "add") => `(tactic| first | exact AddD.int | exact AddD.lst (by walk_at "imm") (by walk_at "imm") (by first | assumption | (simp; omega)) | ((refine AddD.tup ?at1 ?at2 ?at3 ?at4 ?at5); (case at1 => rfl); (case at2 => rfl); (case at3 => walk_at "imm"); (case at4 => walk_at "imm"); (case at5 => first | with_reducible assumption | (simp; omega))))
local macro_rules | `(tactic| walk_at "cost") => `(tactic| first | with_reducible assumption | (with_reducible exact cpow (by omega) (by omega) (by omega) (by omega)) | (with_reducible exact cdivw (by omega) (by omega)) | (with_reducible exact cmul1 (by omega) (by omega)) | (with_reducible exact cmul2 (by omega) (by omega)) | with_reducible exact imms_ints | omega)
local macro_rules | `(tactic| walk_at "mul") => `(tactic| ((refine MulD.int ?_); walk_at "cost"))
local macro_rules | `(tactic| walk_at "cmp") => `(tactic| first | with_reducible exact cmp_lt | with_reducible exact cmp_le | with_reducible exact cmp_gt | with_reducible exact cmp_ge | with_reducible exact cmp_eqI | with_reducible exact cmp_neI | with_reducible exact cmp_isN | with_reducible exact cmp_notN | ((with_reducible refine cmp_neLL ?_); with_reducible assumption) | ((with_reducible refine cmp_neTT ?_); with_reducible assumption) | ((with_reducible refine cmp_nePT ?_); with_reducible assumption) | ((with_reducible refine cmp_eqLL ?_); with_reducible assumption) | ((with_reducible refine cmp_eqLN ?_); with_reducible assumption) | ((with_reducible refine cmp_neLN ?_); with_reducible assumption) | ((with_reducible refine cmp_neP ?_); with_reducible assumption) | ((with_reducible refine cmp_eqN ?_); with_reducible assumption) | with_reducible exact cmp_notB | with_reducible exact cmp_neB | with_reducible exact cmp_eqB | with_reducible exact cmp_inL | with_reducible exact cmp_inF | with_reducible exact cmp_inT | with_reducible exact cmp_inP | with_reducible exact cmp_niL | with_reducible exact cmp_niF | with_reducible exact cmp_niT | with_reducible exact cmp_niP | exact cmp_lt | exact cmp_le | exact cmp_gt | exact cmp_ge | exact cmp_eqI | exact cmp_neI | exact cmp_isN | exact cmp_notN | ((refine cmp_neLL ?_); with_reducible assumption) | ((refine cmp_neTT ?_); with_reducible assumption) | ((refine cmp_nePT ?_); with_reducible assumption) | ((refine cmp_eqLL ?_); with_reducible assumption) | ((refine cmp_eqLN ?_); with_reducible assumption) | ((refine cmp_neLN ?_); with_reducible assumption) | ((refine cmp_neP ?_); with_reducible assumption) | ((refine cmp_eqN ?_); with_reducible assumption) | exact cmp_notB | exact cmp_neB | exact cmp_eqB | exact cmp_inL | exact cmp_inF | exact cmp_inT | exact cmp_inP | exact cmp_niL | exact cmp_niF | exact cmp_niT | exact cmp_niP)
local macro_rules | `(tactic| walk_at "ci") => `(tactic| first | exact cmpi_lt | exact cmpi_le | exact cmpi_gt | exact cmpi_ge)
local macro_rules | `(tactic| walk_at "sl") => `(tactic| first | ((refine sl_t ?_); walk_at "imm") | ((refine sl_p ?_); walk_at "imm") | ((refine sl_l ?_); walk_at "imm") | ((refine sl_f ?_); walk_at "imm"))
local macro_rules | `(tactic| walk_at "mark") => `(tactic| first | exact nomark _ | with_unfolding_all rfl)
local macro_rules | `(tactic| walk_at "boot") => `(tactic| first | with_reducible exact PyProof.Rows.boot_int | with_reducible exact PyProof.Rows.boot_bool | with_reducible exact PyProof.Rows.boot_tuple | with_reducible exact PyProof.Rows.boot_list | with_reducible exact PyProof.Rows.boot_str | with_reducible exact PyProof.Rows.boot_dict)
local macro_rules | `(tactic| walk_at "kit") => `(tactic| first | with_reducible exact kit_ii | with_reducible exact kit_ib | with_reducible exact kit_it | with_reducible exact kit_tt | with_reducible exact kit_ti | with_reducible exact kit_bb | with_reducible exact kit_bi | with_reducible exact kit_ll | with_reducible exact kit_dd | with_reducible exact kit_ss)
local macro_rules | `(tactic| walk_at "vis") => `(tactic| first | exact Or.inl rfl | exact Or.inr (Or.inl rfl) | exact Or.inr (Or.inr rfl))
local macro_rules | `(tactic| walk_at "pin") => `(tactic| first | decide | (simp only [watch, List.map_nil, List.map_cons, List.nil_append, List.append_nil, List.cons_append]; decide))
local macro_rules | `(tactic| walk_at "loc") => `(tactic| first | exact Or.inl rfl | exact Or.inr rfl)
local macro_rules | `(tactic| walk_at "key") => `(tactic| first | with_reducible exact key0 | with_reducible exact key1 | with_reducible exact key2 | with_reducible exact key3)
local macro_rules | `(tactic| walk_at "dg") => `(tactic| (
  (with_reducible refine' wo_dget ?h1 ?h2 ?h3 ?h4 ?h5 ?h6 ?h7 ?_ ?h9 ?h10 ?h11); (case h1 => with_reducible assumption); (case h2 => with_reducible assumption); (case h5 => walk_at "key"); (case h3 => rfl); (case h4 => exact kN); (case h6 => rfl); (case h7 => trivial); (case h9 => walk_at "vis"); (case h10 => decide); (case h11 => decide)))
local macro_rules | `(tactic| walk_at "ob") => `(tactic| first
  | (refine ⟨Nat.le_of_ble_eq_true rfl, ?_⟩; try dsimp only [List.set])
  | (refine ⟨_, rfl, Nat.le_of_ble_eq_true rfl, ?_⟩; try dsimp only [List.set])
  | (refine ⟨_, rfl, trivial, Nat.le_of_ble_eq_true rfl, Nat.le_of_ble_eq_true rfl, ?_⟩; try dsimp only [List.set])
  | (refine ⟨_, _, rfl, Nat.le_of_ble_eq_true rfl, Nat.le_of_ble_eq_true rfl, ?_⟩; try dsimp only [List.set])
  | (refine ⟨_, _, _, rfl, Nat.le_of_ble_eq_true rfl, Nat.le_of_ble_eq_true rfl, Nat.le_of_ble_eq_true rfl, ?_⟩; try dsimp only [List.set])
  | refine ⟨fun _ => ?_, fun h => Bool.noConfusion h⟩
  | refine ⟨fun h => Bool.noConfusion h, fun _ => ?_⟩
  | refine ⟨_, rfl, ?_⟩
  | refine ⟨_, _, rfl, rfl, ?_⟩
  | refine ⟨_, _, _, _, rfl, rfl, rfl, ?_⟩
  | (refine ⟨_, _, _, ?dd, rfl, rfl, rfl, ?hh, ?_⟩; (case hh => walk_at "kit"))
  | (refine ⟨_, _, ?dd, rfl, rfl, ?hh, ?_⟩; (case hh => first | walk_at "add" | walk_at "mul" | walk_at "cmp"))
  | (refine ⟨_, ?dd, rfl, ?hh, ?_⟩; (case hh => walk_at "sl"))
  | (refine ⟨_, _, ?dd, rfl, rfl, ?hh, ?ii, ?_⟩; (case hh => first | with_reducible assumption | with_reducible exact at2_0 | with_reducible exact at2_1 | with_reducible exact at3_0 | with_reducible exact at3_1 | with_reducible exact at3_2); (case ii => trivial))
  | (refine ⟨fun _ => ?_, ?hx⟩; (case hx => (intro h; exfalso; (first | ((simp only [decide_eq_false_iff_not, decide_eq_true_eq, Bool.not_eq_true', Bool.not_eq_false'] at h); omega) | ((simp at h); done)))))
  | (refine ⟨?hx, fun _ => ?_⟩; (case hx => (intro h; exfalso; (first | ((simp only [decide_eq_false_iff_not, decide_eq_true_eq, Bool.not_eq_true', Bool.not_eq_false'] at h); omega) | ((simp at h); done)))))
  | ((with_reducible refine And.intro ?hh ?_); (case hh => walk_at "cost")))
local macro_rules | `(tactic| walk_at "gWSs") => `(tactic| first
  | with_reducible refine wss_nil ?_
  | with_reducible refine wss_one ?_
  | with_reducible refine wss_cons ?_)
local macro_rules | `(tactic| walk_at "gWS") => `(tactic| first
  | with_reducible refine ws_if ?_
  | with_reducible refine ws_ret ?_
  | ((with_reducible refine' ws_set ?h1 ?h2 ?h3 ?h4 ?_ ?h6 ?h7); (case h1 => with_reducible assumption); (case h2 => with_reducible assumption); (case h3 => walk_at "loc"); (case h4 => walk_at "pin"); (case h6 => rfl); (case h7 => exact .inl rfl))
  | ((with_reducible refine' ws_augI ?h1 ?h2 ?h3 ?h4 ?h5 ?_ ?h7); (case h1 => with_reducible assumption); (case h2 => with_reducible assumption); (case h3 => rfl); (case h4 => walk_at "loc"); (case h5 => walk_at "pin"); (case h7 => exact .inl rfl))
  | ((with_reducible refine' ws_asg2 ?h1 ?h2 ?h3 ?h4 ?h5 ?h6 ?h7 ?_ ?h9 ?h10 ?h11 ?h12); (case h1 => with_reducible assumption); (case h2 => with_reducible assumption); (case h3 => with_reducible assumption); (case h4 => walk_at "loc"); (case h5 => walk_at "loc"); (case h6 => walk_at "pin"); (case h7 => walk_at "pin"); (case h9 => exact .inl rfl); (case h10 => exact .inl rfl); (case h11 => rfl); (case h12 => rfl))
  | ((with_reducible refine' ws_dput ?h1 ?h2 ?_ ?h4 ?h5 ?h6 ?h7); (case h1 => with_reducible assumption); (case h2 => with_reducible assumption); (case h4 => rfl); (case h5 => walk_at "vis"); (case h6 => decide); (case h7 => decide))
  | ((with_reducible refine' ws_asg ?_ ?h2 ?h3 ?h4); (case h2 => rfl); (case h3 => rfl); (case h4 => rfl))
  | ((with_reducible refine ws_expr ?_ ?h2); (case h2 => rfl))
  | with_reducible refine ws_pass ?_)
local macro_rules | `(tactic| walk_at "gWG") => `(tactic| first
  | ((with_reducible refine' wg_name ?h1 ?h2 ?h3 ?h4 ?h5 ?_ ?h7); (case h1 => with_reducible assumption); (case h2 => with_reducible assumption); (case h3 => walk_at "loc"); (case h4 => walk_at "pin"); (case h5 => exact Nat.le_of_ble_eq_true rfl); (case h7 => exact .inl rfl); (try dsimp only [List.set]))
  | ((with_reducible refine' wg_pair ?a1 ?a2 ?a3 ?a4 ?a5 ?a6 ?a7 ?a8 ?a9 ?b1 ?_ ?b3 ?b4 ?b5 ?b6 ?b7); (case a1 => rfl); (case a2 => with_reducible assumption); (case a3 => with_reducible assumption); (case a4 => with_reducible assumption); (case a5 => walk_at "loc"); (case a6 => walk_at "loc"); (case a7 => walk_at "pin"); (case a8 => walk_at "pin"); (case a9 => exact Nat.le_of_ble_eq_true rfl); (case b1 => exact Nat.le_of_ble_eq_true rfl); (case b3 => exact .inl rfl); (case b4 => exact .inl rfl); (case b5 => exact fun t h => pg_tup rfl h); (case b6 => exact fun t u h1 h2 => pgs_cons h1 h2); (case b7 => exact fun t h => pgs_cons h pgs_nil); (try dsimp only [List.set]))
  | ((with_reducible refine' wg_tri ?a1 ?a2 ?a3 ?a4 ?a5 ?a6 ?a7 ?a8 ?b1 ?b2 ?b3 ?b4 ?b5 ?_ ?c1 ?c2 ?c3 ?c4 ?c5 ?c6 ?c7); (case a1 => rfl); (case a2 => with_reducible assumption); (case a3 => with_reducible assumption); (case a4 => with_reducible assumption); (case a5 => with_reducible assumption); (case a6 => walk_at "loc"); (case a7 => walk_at "loc"); (case a8 => walk_at "loc"); (case b1 => walk_at "pin"); (case b2 => walk_at "pin"); (case b3 => walk_at "pin"); (case b4 => exact ⟨Nat.le_of_ble_eq_true rfl, Nat.le_of_ble_eq_true rfl, Nat.le_of_ble_eq_true rfl⟩); (case b5 => first | exact ⟨trivial, trivial, trivial⟩ | exact ⟨trivial, imms_ints, trivial⟩); (case c1 => exact .inl rfl); (case c2 => exact .inl rfl); (case c3 => exact .inl rfl); (case c4 => exact fun t h => pg_tup rfl h); (case c5 => exact fun t u h1 h2 => pgs_cons h1 h2); (case c6 => exact fun t u h1 h2 => pgs_cons h1 h2); (case c7 => exact fun t h => pgs_cons h pgs_nil); (try dsimp only [List.set])))
local macro_rules | `(tactic| walk_at "gENm") => `(tactic| first
  | ((with_reducible refine' we_name ?h1 ?h2 ?h3 ?_ ?h5 ?h6 ?h7); (case h1 => with_reducible assumption); (case h2 => rfl); (case h3 => walk_at "imm"); (case h5 => walk_at "vis"); (case h6 => decide); (case h7 => decide))
  | ((with_reducible refine' we_move ?h1 ?h2 ?_ ?h5 ?h6 ?h7); (case h1 => with_reducible assumption); (case h2 => rfl); (case h5 => walk_at "vis"); (case h6 => decide); (case h7 => decide); (try dsimp only [List.set])))
local macro_rules | `(tactic| walk_at "gWE") => `(tactic| first
  | with_reducible refine we_of ?_)
local macro_rules | `(tactic| walk_at "gName") => `(tactic| first
  | ((with_reducible refine' wo_nameI ?h1 ?h2 ?h3 ?_ ?h5 ?h6 ?h7); (case h1 => with_reducible assumption); (case h2 => rfl); (case h3 => walk_at "imm"); (case h5 => walk_at "vis"); (case h6 => decide); (case h7 => decide))
  | ((with_reducible refine' wo_name ?h1 ?h2 ?_ ?h5 ?h6 ?h7); (case h1 => with_reducible assumption); (case h2 => rfl); (case h5 => walk_at "vis"); (case h6 => decide); (case h7 => decide))
  | ((with_reducible refine' wo_gint ?h1 ?h2 ?_ ?h4); (case h1 => rfl); (case h2 => with_reducible assumption); (case h4 => decide))
  | ((with_reducible refine' wo_tyn ?h1 ?h2 ?h3 ?_ ?h5 ?h6); (case h1 => rfl); (case h2 => with_reducible assumption); (case h3 => walk_at "boot"); (case h5 => decide); (case h6 => decide)))
local macro_rules | `(tactic| walk_at "gCon") => `(tactic| first
  | with_reducible refine wo_int ?_
  | with_reducible refine wo_non ?_
  | with_reducible refine wo_bl ?_
  | with_reducible refine wo_str ?_)
local macro_rules | `(tactic| walk_at "gBin") => `(tactic| first
  | with_reducible refine wo_addD ?_
  | with_reducible refine wo_sub ?_
  | with_reducible refine wo_mulD ?_
  | with_reducible refine wo_mod ?_
  | with_reducible refine wo_fdiv ?_
  | with_reducible refine wo_pow ?_
  | with_reducible refine wo_shl ?_)
local macro_rules | `(tactic| walk_at "gBool") => `(tactic| first
  | with_reducible refine wo_and ?_
  | with_reducible refine wo_or ?_
  | with_reducible refine wo_bone ?_)
local macro_rules | `(tactic| walk_at "gCmp") => `(tactic| first
  | ((with_reducible refine wo_chain ?_ ?h2); (case h2 => with_unfolding_all rfl))
  | ((with_reducible refine wo_cmpD ?h1 ?_); (case h1 => walk_at "mark")))
local macro_rules | `(tactic| walk_at "gSub") => `(tactic| first
  | walk_at "dg"
  | with_reducible refine wo_slD ?_
  | with_reducible refine wo_revL ?_
  | ((with_reducible refine wo_ix ?h1 ?_); (case h1 => exact fun _ _ => rfl)))
local macro_rules | `(tactic| walk_at "gCalN") => `(tactic| first
  | ((with_reducible refine wo_sortedS ?h1 ?h2 ?_ ?h4); (case h1 => rfl); (case h2 => with_reducible assumption); (case h4 => rfl))
  | ((with_reducible refine' wo_c0 ?h1 ?h2 ?h3 ?h4 ?_ ?h6 ?h7 ?h8); (case h1 => with_reducible assumption); (case h2 => with_reducible assumption); (case h3 => first | decide | exact Nat.le_refl _ | omega); (case h4 => rfl); (case h6 => decide); (case h7 => rfl); (case h8 => rfl))
  | ((with_reducible refine' wo_c1 ?h1 ?h2 ?h3 ?h4 ?_ ?h6 ?h7 ?h8); (case h1 => with_reducible assumption); (case h2 => with_reducible assumption); (case h3 => first | decide | exact Nat.le_refl _ | omega); (case h4 => rfl); (case h6 => decide); (case h7 => rfl); (case h8 => rfl))
  | ((with_reducible refine wo_len ?h1 ?h2 ?_ ?h4); (case h1 => rfl); (case h2 => with_reducible assumption); (case h4 => rfl))
  | ((with_reducible refine wo_min2 rfl ?h1 ?h2 ?_ ?h4 ?h5); (case h1 => rfl); (case h2 => with_reducible assumption); (case h4 => rfl); (case h5 => rfl))
  | ((with_reducible refine wo_max2 rfl ?h1 ?h2 ?_ ?h4 ?h5); (case h1 => rfl); (case h2 => with_reducible assumption); (case h4 => rfl); (case h5 => rfl))
  | ((with_reducible refine wo_abs ?h1 ?h2 ?_ ?h4); (case h1 => rfl); (case h2 => with_reducible assumption); (case h4 => rfl))
  | ((with_reducible refine wo_intI ?h1 ?h2 ?_ ?h4); (case h1 => rfl); (case h2 => with_reducible assumption); (case h4 => rfl))
  | ((have hmode : PtMode := by with_reducible assumption); (with_reducible refine wo_tupleF ?h1 ?h2 ?_ ?h4); (case h1 => rfl); (case h2 => with_reducible assumption); (case h4 => rfl))
  | ((with_reducible refine wo_tuple ?h1 ?h2 ?_ ?h4); (case h1 => rfl); (case h2 => with_reducible assumption); (case h4 => rfl))
  | ((with_reducible refine wo_listR1 rfl ?h1 ?h2 ?h3 ?h5 ?_ ?h4 ?h6); (case h1 => rfl); (case h2 => with_reducible assumption); (case h3 => rfl); (case h5 => with_reducible assumption); (case h4 => rfl); (case h6 => rfl))
  | ((with_reducible refine wo_list ?h1 ?h2 ?_ ?h4); (case h1 => rfl); (case h2 => with_reducible assumption); (case h4 => rfl))
  | ((with_reducible refine wo_all ?h0 ?h1 ?h2 ?_ ?h4); (case h0 => rfl); (case h1 => rfl); (case h2 => with_reducible assumption); (case h4 => rfl))
  | ((with_reducible refine wo_isi2 ?h1 ?h2 ?_ ?h4 ?h5); (case h1 => rfl); (case h2 => with_reducible assumption); (case h4 => rfl); (case h5 => rfl)))
local macro_rules | `(tactic| walk_at "gCalA") => `(tactic| first
  | ((with_reducible refine' wo_dpop ?h1 ?h2 ?h3 ?h4 ?h5 ?h6 ?_ ?h8 ?h9 ?h10 ?h11); (case h1 => with_reducible assumption); (case h2 => with_reducible assumption); (case h5 => walk_at "key"); (case h3 => rfl); (case h4 => exact kN); (case h6 => rfl); (case h8 => exact fun t ht => pe_bm PySem.F.plainAttrs_list PySem.F.slot_list_pop PySem.F.type_list_pop mt_popAt ht (pa_cons pe_int pa_nil)); (case h9 => walk_at "vis"); (case h10 => decide); (case h11 => decide))
  | ((with_reducible refine' wo_append ?h1 ?h2 ?_ ?h4 ?h5 ?h6); (case h1 => with_reducible assumption); (case h2 => exact ⟨_, rfl⟩); (case h4 => exact pe_slot (by with_reducible assumption)); (case h5 => exact pe_bm PySem.F.plainAttrs_list PySem.F.slot_list_append PySem.F.type_list_append mt_append (pe_slot (by with_reducible assumption)) pa_w); (case h6 => rfl))
  | ((with_reducible refine' wo_insert ?h2 ?_ ?h4 ?h5 ?h6 ?h7); (case h4 => rfl); (case h5 => exact pe_bm PySem.F.plainAttrs_list PySem.F.slot_list_insert PySem.F.type_list_insert mt_insert (pe_slot (by with_reducible assumption)) pa_w); (case h2 => exact ⟨_, rfl⟩); (case h6 => rfl); (case h7 => rfl))
  | ((with_reducible refine' wo_popAt ?h1 ?_ ?h3 ?h4); (case h3 => exact pe_bm PySem.F.plainAttrs_list PySem.F.slot_list_pop PySem.F.type_list_pop mt_popAt (pe_slot (by with_reducible assumption)) pa_w); (case h1 => exact ⟨_, rfl⟩); (case h4 => rfl))
  | ((have hmode : PtMode := by with_reducible assumption); (with_reducible refine wo_tix ?_ ?h2 ?h3 ?h4 ?h5); (case h2 => rfl); (case h3 => rfl); (case h4 => rfl); (case h5 => rfl))
  | ((with_reducible refine' wo_indexI ?_ ?h5 ?h6); (case h5 => exact pe_bm PySem.F.plainAttrs_list PySem.F.slot_list_index PySem.F.type_list_index mt_index pe_w pa_w); (case h6 => rfl))
  | ((with_reducible refine' wo_pop ?h1 ?h2 ?h3 ?_ ?h5); (case h1 => rfl); (case h5 => exact pe_bm0 PySem.F.plainAttrs_list PySem.F.slot_list_pop PySem.F.type_list_pop mt_pop (pe_slot (by with_reducible assumption)))))
local macro_rules | `(tactic| walk_at "gWO") => `(tactic| first
  | with_reducible refine wo_not ?_
  | with_reducible refine wo_if ?_
  | with_reducible refine wo_lst ?_
  | with_reducible refine wo_tup ?_)
local macro_rules | `(tactic| walk_at "gWT") => `(tactic| first
  | ((with_reducible refine' wt_dne ?h1 ?h2 ?h3 ?h4 ?h5 ?h6 ?_ ?h9 ?h10 ?h11); (case h1 => with_reducible assumption); (case h2 => with_reducible assumption); (case h5 => walk_at "key"); (case h3 => rfl); (case h4 => exact kN); (case h6 => rfl); (case h9 => walk_at "vis"); (case h10 => decide); (case h11 => decide))
  | with_reducible refine wt_not ?_
  | with_reducible refine wt_bool ?_
  | ((with_reducible refine wt_chain ?_ ?h2); (case h2 => with_unfolding_all rfl))
  | ((with_reducible refine wt_cmpD ?h1 ?_); (case h1 => walk_at "mark"))
  | ((with_reducible refine wt_val ?_ ?h2); (case h2 => exact fun _ => rfl)))
local macro_rules | `(tactic| walk_at "gWW") => `(tactic| first
  | with_reducible refine ww_and ?_
  | with_reducible refine ww_and1 ?_
  | with_reducible refine ww_or ?_
  | with_reducible refine ww_or1 ?_)
local macro_rules | `(tactic| walk_at "gWA") => `(tactic| first
  | ((with_reducible refine wa_star ?_ ?h2); (case h2 => rfl))
  | ((with_reducible refine wa_cons ?_ ?h2); (case h2 => rfl))
  | with_reducible refine wa_nil ?_)
local macro_rules | `(tactic| walk_at "rest") => `(tactic| first
  | with_reducible refine wvs_cons ?_
  | with_reducible refine wvs_nil ?_
  | with_reducible refine wp_none ?_
  | with_reducible refine wp_some ?_
  | ((with_reducible refine' wtc_link ?h1 ?_); (case h1 => walk_at "ci"))
  | ((with_reducible refine' wtc_last ?h1 ?_); (case h1 => walk_at "ci")))
local macro_rules | `(tactic| walk_at "d") => `(tactic| first
  | ((with_reducible refine gWSs ?_); walk_at "gWSs")
  | ((with_reducible refine gWS ?_); walk_at "gWS")
  | ((with_reducible refine gWG ?_); walk_at "gWG")
  | ((with_reducible refine gENm ?_); walk_at "gENm")
  | ((with_reducible refine gWE ?_); walk_at "gWE")
  | ((with_reducible refine gName ?_); walk_at "gName")
  | ((with_reducible refine gCon ?_); walk_at "gCon")
  | ((with_reducible refine gBin ?_); walk_at "gBin")
  | ((with_reducible refine gBool ?_); walk_at "gBool")
  | ((with_reducible refine gCmp ?_); walk_at "gCmp")
  | ((with_reducible refine gSub ?_); walk_at "gSub")
  | ((with_reducible refine gCalN ?_); walk_at "gCalN")
  | ((with_reducible refine gCalA ?_); walk_at "gCalA")
  | ((with_reducible refine gWO ?_); walk_at "gWO")
  | ((with_reducible refine gWT ?_); walk_at "gWT")
  | ((with_reducible refine gWW ?_); walk_at "gWW")
  | ((with_reducible refine gWA ?_); walk_at "gWA")
  | walk_at "rest"
  | walk_at "ob")
local macro_rules | `(tactic| walk_at "go") => `(tactic| repeat walk_at "d")

open KP
section
variable {P : Program} {w : World} {K : PySem.W.Frag} {mg : Str → Option Value} {base : Heap}
theorem half_put {m : Int} {st : List Int} {p : Nat} : halfF m st p = KP.putF st p (st.getD p 0 + 1 + ((gapF m st p + 1) / 2 - 1)) := by
  unfold halfF KP.putF
  congr 2
  omega
theorem cal_law_k23_kept (Z : Fz K mg) : Cal P w K mg base 6 "_law_k23_kept" (toSp K 1 ct_law_k23_kept) := by
  refine cal_of Z.d_law_k23_kept sc_law_k23_kept (fun a ds h => by rw [h.1]; rfl) (by decide) ?_
  intro f cdv A outer s H E hr (a : Sta × Int × Int × List Int × Nat ) ds hp X
  have hNd : X.N.Nodup := sc_law_k23_kept.nd
  have hN0 : X.N[0]? = some ("state" : Str) := rfl
  have hN1 : X.N[1]? = some ("many" : Str) := rfl
  have hN2 : X.N[2]? = some ("here" : Str) := rfl
  have hN3 : X.N[3]? = some ("left" : Str) := rfl
  have hN4 : X.N[4]? = some ("turn" : Str) := rfl
  have hR : Room 5 X.A := hr
  have hu64 : X.A.units + 64 < cLine := by have := hR.un; omega
  have hu1 : X.A.units + 1 < cLine := by have := hR.un; omega
  have m_range : X.mg "range" = none := Z.b_range
  have c_halfway : Cal X.prog X.w X.K X.mg X.base 5 "halfway" (toSp X.K 0 ct_halfway) := cal_halfway Z
  have c_law_pick : Cal X.prog X.w X.K X.mg X.base 3 "_law_pick" (toSp X.K 1 ct_law_pick) := cal_law_pick Z
  have c_law_mv_is_state : Cal X.prog X.w X.K X.mg X.base 2 "_law_mv_is_state" (toSp X.K 0 ct_law_mv_is_state) := cal_law_mv_is_state Z
  have c_tight_place : Cal X.prog X.w X.K X.mg X.base 5 "tight_place" (toSp X.K 0 ct_tight_place) := cal_tight_place Z
  have c_law_draw : Cal X.prog X.w X.K X.mg X.base 2 "_law_draw" (toSp X.K 1 ct_law_draw) := cal_law_draw Z
  have m_len : X.mg "len" = none := Z.b_len
  obtain ⟨hds, hp⟩ := hp
  subst hds
  show WSs X [0] (_ :: _) [ some (sD a.1), some (D.int a.2.2.1), some (stT a.2.2.2.1), some (D.int (a.2.2.2.2 : Nat)), none] _
  obtain ⟨s, n, m, st0, left⟩ := a
  obtain ⟨ok, okS, hall, hl0, hl1, hn⟩ := hp
  dsimp only at ok okS hall hl0 hl1 hn ⊢
  walk_at "go"
  refine ws_for PassesOwn.never rfl ?_
  refine wi_range1 (by exact rfl) m_range ?_ (by rfl) (by rfl)
  walk_at "go"
  rw [Int.toNat_natCast]
  refine ⟨fun j E' => ∃ (st : List Int) (s' : Sta) (o : Option D), OkS m st ∧ All m st (left - j) ∧ st.length = st0.length + j ∧ SOk (n + 2 * j) s' ∧ E' = [some (sD s'), some (.int m), some (stT st), some (.int (left : Nat)), o], ⟨st0, s, none, okS, hall, rfl, ok.mono (by simp), rfl⟩, (fun _ _ _ _ p h => nomatch h), ?_, ?_⟩
  · rintro j E' hj ⟨st, s', o, okst, ha, hlen, ok', rfl⟩
    obtain ⟨k, hk⟩ : ∃ k, left - j = k + 1 := ⟨left - j - 1, by omega⟩
    rw [hk] at ha
    have hne : 0 < st.length := List.length_pos_iff.mpr okst.ne
    have hlm : (st.map D.int).length = st.length := List.length_map ..
    have pw : (2 : Int) ^ (k + 1) = 2 * 2 ^ k := by rw [Int.pow_succ]; omega
    have pp : (0 : Int) < 2 ^ k := Int.pow_pos (by decide)
    walk_at "go"
    refine ⟨(_, _, _), ⟨rfl, by with_reducible assumption, by dsimp only; (try simp only [ncast]); omega, by dsimp only; omega⟩, ?_⟩
    rintro _ _ ⟨r, s1, rfl, hr, hd, oks1⟩
    cases hd
    dsimp only at hr oks1
    try simp only [ncast] at hr
    dsimp only [List.set]
    walk_at "go"
    refine ⟨(_, _, _, [.int 0, .int ((st.map D.int).length - 1), .int r]), ⟨rfl, by with_reducible assumption, rfl, ⟨trivial, trivial, trivial, trivial⟩, ⟨Nat.le_of_ble_eq_true rfl, Nat.le_of_ble_eq_true rfl⟩, by dsimp only; omega⟩, ?_⟩
    rintro x _ ⟨s2, hx, hd, ok2⟩
    cases hd
    dsimp only at hx ok2
    obtain ⟨p, rfl, hp⟩ : ∃ p : Nat, x = .int (p : Int) ∧ p < st.length := by
      rw [hlm] at hx hr
      rcases List.mem_cons.mp hx with q | q
      · exact ⟨0, q, hne⟩
      · rcases List.mem_cons.mp q with q | q
        · exact ⟨st.length - 1, by rw [q]; congr 1; omega, by omega⟩
        · rw [List.mem_singleton.mp q]
          exact ⟨r.toNat, by congr 1; omega, by omega⟩
    have hg := ha p hp
    dsimp only [List.set]
    walk_at "go"
    refine ⟨(m, st, p), ⟨rfl, okst, hp⟩, fun d hd => ?_⟩
    have hd : d = if gapF m st p = 0 then .non else stT (halfF m st p) := hd
    rw [if_neg (by omega), half_put] at hd
    subst hd
    have hput := putF_ok okst hp (i := (gapF m st p + 1) / 2 - 1) (by omega) (by omega) (by omega)
    have hall2 := all_put okst hp ha (i := (gapF m st p + 1) / 2 - 1) (by omega) (by omega)
    have hplen : (KP.putF st p (st.getD p 0 + 1 + ((gapF m st p + 1) / 2 - 1))).length = st.length + 1 := putF_len hp
    generalize KP.putF st p (st.getD p 0 + 1 + ((gapF m st p + 1) / 2 - 1)) = st2 at *
    walk_at "go"
    refine ⟨(st2, m), ⟨rfl, hput⟩, fun d hd => ?_⟩
    subst hd
    walk_at "go"
    refine ⟨(m, st2, k), ⟨by dsimp only; congr 4; omega, hput, by dsimp only; omega⟩, fun d hd => ?_⟩
    have hd : d = optD (tightF m st2 k) := hd
    rw [tight_none.mpr hall2] at hd
    subst hd
    walk_at "go"
    refine ⟨st2, s2, _, hput, by rw [show left - (j + 1) = k from by omega]; exact hall2, by omega, ok2.mono (by push_cast; omega), rfl⟩
  · rintro E' ⟨st, s', o, okst, ha, hlen, ok', rfl⟩
    walk_at "go"
    exact ⟨[sD s'], rfl, s', rfl, rfl, ok'.mono (by dsimp only; omega)⟩
theorem cal_law_k23_stuck (Z : Fz K mg) : Cal P w K mg base 6 "_law_k23_stuck" (toSp K 1 ct_law_k23_stuck) := by
  refine cal_of Z.d_law_k23_stuck sc_law_k23_stuck (fun a ds h => by rw [h.1]; rfl) (by decide) ?_
  intro f cdv A outer s H E hr (a : Sta × Int × Int × List Int × Nat ) ds hp X
  have hNd : X.N.Nodup := sc_law_k23_stuck.nd
  have hN0 : X.N[0]? = some ("state" : Str) := rfl
  have hN1 : X.N[1]? = some ("many" : Str) := rfl
  have hN2 : X.N[2]? = some ("here" : Str) := rfl
  have hN3 : X.N[3]? = some ("left" : Str) := rfl
  have hN4 : X.N[4]? = some ("turn" : Str) := rfl
  have hN5 : X.N[5]? = some ("spot_here" : Str) := rfl
  have hN6 : X.N[6]? = some ("gap" : Str) := rfl
  have hN7 : X.N[7]? = some ("step" : Str) := rfl
  have hR : Room 5 X.A := hr
  have hu64 : X.A.units + 64 < cLine := by have := hR.un; omega
  have hu1 : X.A.units + 1 < cLine := by have := hR.un; omega
  have m_range : X.mg "range" = none := Z.b_range
  have c_tight_place : Cal X.prog X.w X.K X.mg X.base 5 "tight_place" (toSp X.K 0 ct_tight_place) := cal_tight_place Z
  have c_law_pick : Cal X.prog X.w X.K X.mg X.base 3 "_law_pick" (toSp X.K 1 ct_law_pick) := cal_law_pick Z
  have c_law_is_whole : Cal X.prog X.w X.K X.mg X.base 1 "_law_is_whole" (toSp X.K 0 ct_law_is_whole) := cal_law_is_whole Z
  have m_len : X.mg "len" = none := Z.b_len
  have m_int : X.mg "int" = none := Z.b_int
  have c_law_draw : Cal X.prog X.w X.K X.mg X.base 2 "_law_draw" (toSp X.K 1 ct_law_draw) := cal_law_draw Z
  obtain ⟨hds, hp⟩ := hp
  subst hds
  show WSs X [0] (_ :: _) [ some (sD a.1), some (D.int a.2.2.1), some (stT a.2.2.2.1), some (D.int (a.2.2.2.2 : Nat)), none, none, none, none] _
  obtain ⟨s, n, m, st0, left⟩ := a
  obtain ⟨ok, okS, ⟨p0, hp0⟩, hl0, hl1, hn⟩ := hp
  dsimp only at ok okS hp0 hl0 hl1 hn ⊢
  walk_at "go"
  refine ws_for PassesOwn.never rfl ?_
  refine wi_range1 (by exact rfl) m_range ?_ (by rfl) (by rfl)
  walk_at "go"
  rw [Int.toNat_natCast]
  refine ⟨fun j E' => ∃ (st : List Int) (s' : Sta) (p : Nat) (o1 o2 o3 o4 : Option D), OkS m st ∧ tightF m st (left - j) = some p ∧ st.length = st0.length + j ∧ SOk (n + 2 * j) s' ∧ E' = [some (sD s'), some (.int m), some (stT st), some (.int (left : Nat)), o1, o2, o3, o4], ⟨st0, s, p0, none, none, none, none, okS, hp0, rfl, ok.mono (by simp), rfl⟩, (fun _ _ _ _ p h => nomatch h), ?_, ?_⟩
  · rintro j E' hj ⟨st, s', p, o1, o2, o3, o4, okst, ha, hlen, ok', rfl⟩
    obtain ⟨k, hk⟩ : ∃ k, left - j = k + 1 := ⟨left - j - 1, by omega⟩
    rw [hk] at ha
    obtain ⟨hp, hg⟩ := tight_some ha
    have hgn := gap_nn okst hp
    have hlm : (st.map D.int).length = st.length := List.length_map ..
    have at1 := nots (m := m) hp
    have at2 := at_st hp
    walk_at "go"
    refine ⟨(m, st, k + 1), ⟨by dsimp only; congr 4; omega, okst, by dsimp only; omega⟩, fun d hd => ?_⟩
    have hd : d = optD (tightF m st (k + 1)) := hd
    rw [ha] at hd
    have hd : d = .int (p : Int) := hd
    subst hd
    walk_at "go"
    refine ⟨(p : Int), ⟨rfl, trivial⟩, fun d hd => ?_⟩
    subst hd
    walk_at "go"
    refine ⟨_, _, _, rfl, rfl, AddD.tup rfl rfl imms_ints ⟨trivial, trivial⟩ (by simp; omega), ?_⟩
    walk_at "go"
    have eg : st.getD (p + 1) m - st.getD p 0 - 1 = gapF m st p := rfl
    rw [eg]
    refine ⟨fun h => ?_, fun h => ?_⟩
    · walk_at "go"
      exact ⟨[sD s'], rfl, s', rfl, rfl, ok'.mono (by dsimp only; omega)⟩
    have h := of_decide_eq_false h
    have pw : (2 : Int) ^ (k + 1) ≤ 2 ^ 59 := by
      have : (2 : Nat) ^ (k + 1) ≤ 2 ^ 59 := Nat.pow_le_pow_right (by decide) (by omega)
      exact_mod_cast this
    have pw2 : (2 : Int) ^ 59 = 576460752303423488 := by decide
    walk_at "go"
    refine ⟨(_, _, _), ⟨rfl, by with_reducible assumption, by dsimp only; (try simp only [ncast]); omega, by dsimp only; omega⟩, ?_⟩
    rintro _ _ ⟨r, s1, rfl, hr, hd, oks1⟩
    cases hd
    dsimp only at hr oks1
    try simp only [ncast] at hr
    dsimp only [List.set]
    walk_at "go"
    refine ⟨(_, _, _, [.int 1, .int (gapF m st p), .int ((gapF m st p + 1) / 2), .int (1 + r)]), ⟨rfl, by with_reducible assumption, rfl, ⟨trivial, trivial, trivial, trivial, trivial⟩, ⟨Nat.le_of_ble_eq_true rfl, Nat.le_of_ble_eq_true rfl⟩, by dsimp only; omega⟩, ?_⟩
    rintro x _ ⟨s2, hx, hd, ok2⟩
    cases hd
    dsimp only at hx ok2
    obtain ⟨i, rfl, hi0, hi1⟩ : ∃ i : Int, x = .int (1 + i) ∧ 0 ≤ i ∧ i < gapF m st p := by
      rcases List.mem_cons.mp hx with q | q
      · exact ⟨0, q, by omega, by omega⟩
      · rcases List.mem_cons.mp q with q | q
        · exact ⟨gapF m st p - 1, by rw [q]; congr 1; omega, by omega, by omega⟩
        · rcases List.mem_cons.mp q with q | q
          · exact ⟨(gapF m st p + 1) / 2 - 1, by rw [q]; congr 1; omega, by omega, by omega⟩
          · rw [List.mem_singleton.mp q]
            exact ⟨r, rfl, by omega, by omega⟩
    dsimp only [List.set]
    have hput := putF_ok okst hp (i := i) hi0 hi1 (by omega)
    have hplen : (KP.putF st p (st.getD p 0 + 1 + i)).length = st.length + 1 := putF_len hp
    obtain ⟨q, hq⟩ := tight_put ha (i := i)
    have hc1 : (cutD (st.map D.int) none (some ((p : Int) + 1))).length + [D.int (st.getD p 0 + (1 + i))].length ≤ 100000 := by
      rw [cutD_to (by omega)]; simp; omega
    have hc2 : (cutD (st.map D.int) none (some ((p : Int) + 1)) ++ [D.int (st.getD p 0 + (1 + i))]).length + (cutD (st.map D.int) (some ((p : Int) + 1)) none).length ≤ 100000 := by
      rw [cutD_to (by omega), cutD_from (by omega)]; simp; omega
    walk_at "go"
    refine ⟨_, _, _, rfl, rfl, AddD.tup rfl rfl (imms_cut imms_ints) ⟨trivial, trivial⟩ hc1, ?_⟩
    walk_at "go"
    refine ⟨_, _, _, rfl, rfl, AddD.tup rfl rfl (imms_app (imms_cut imms_ints) ⟨trivial, trivial⟩) (imms_cut imms_ints) hc2, ?_⟩
    walk_at "go"
    rw [put_cut, ← Int.add_assoc]
    exact ⟨KP.putF st p (st.getD p 0 + 1 + i), s2, q, _, _, _, _, hput, by rw [show left - (j + 1) = k from by omega]; exact hq, by omega, ok2.mono (by push_cast; omega), rfl⟩
  · rintro E' ⟨st, s', p, o1, o2, o3, o4, okst, ha, hlen, ok', rfl⟩
    rw [Nat.sub_self] at ha
    obtain ⟨hp, hg⟩ := tight_some ha
    have hgn := gap_nn okst hp
    simp at hg
    omega
end
end K23


namespace K23
open PySem PySem.Spec L2 DL Ln
open PyProof.Rows (envOfC)
local macro_rules | `(tactic| walk_at "imm") => `(tactic| first | assumption | trivial | exact imms_ints | exact imms_pairs | (simp only [Imm, Imms]; done) | exact ⟨trivial, trivial⟩ | exact ⟨trivial, imms_ints⟩ | exact imms_cut imms_ints | exact imms_app imms_ints ⟨trivial, trivial⟩ | exact imms_app (imms_cut imms_ints) ⟨trivial, trivial⟩ | exact imms_app (imms_app (imms_cut imms_ints) ⟨trivial, trivial⟩) (imms_cut imms_ints))
local macro_rules | `(tactic| walk_at "add") => `(tactic| first | exact AddD.int | exact AddD.lst (by walk_at "imm") (by walk_at "imm") (by first | assumption | (simp; omega)) | ((refine AddD.tup ?at1 ?at2 ?at3 ?at4 ?at5); (case at1 => rfl); (case at2 => rfl); (case at3 => walk_at "imm"); (case at4 => walk_at "imm"); (case at5 => first | with_reducible assumption | (simp; omega))))
local macro_rules | `(tactic| walk_at "cost") => `(tactic| first | with_reducible assumption | (with_reducible exact cpow (by omega) (by omega) (by omega) (by omega)) | (with_reducible exact cdivw (by omega) (by omega)) | (with_reducible exact cmul1 (by omega) (by omega)) | (with_reducible exact cmul2 (by omega) (by omega)) | with_reducible exact imms_ints | omega)
local macro_rules | `(tactic| walk_at "mul") => `(tactic| ((refine MulD.int ?_); walk_at "cost"))
local macro_rules | `(tactic| walk_at "cmp") => `(tactic| first | with_reducible exact cmp_lt | with_reducible exact cmp_le | with_reducible exact cmp_gt | with_reducible exact cmp_ge | with_reducible exact cmp_eqI | with_reducible exact cmp_neI | with_reducible exact cmp_isN | with_reducible exact cmp_notN | ((with_reducible refine cmp_neLL ?_); with_reducible assumption) | ((with_reducible refine cmp_neTT ?_); with_reducible assumption) | ((with_reducible refine cmp_nePT ?_); with_reducible assumption) | ((with_reducible refine cmp_eqLL ?_); with_reducible assumption) | ((with_reducible refine cmp_eqLN ?_); with_reducible assumption) | ((with_reducible refine cmp_neLN ?_); with_reducible assumption) | ((with_reducible refine cmp_neP ?_); with_reducible assumption) | ((with_reducible refine cmp_eqN ?_); with_reducible assumption) | with_reducible exact cmp_notB | with_reducible exact cmp_neB | with_reducible exact cmp_eqB | with_reducible exact cmp_inL | with_reducible exact cmp_inF | with_reducible exact cmp_inT | with_reducible exact cmp_inP | with_reducible exact cmp_niL | with_reducible exact cmp_niF | with_reducible exact cmp_niT | with_reducible exact cmp_niP)
local macro_rules | `(tactic| walk_at "ci") => `(tactic| first | exact cmpi_lt | exact cmpi_le | exact cmpi_gt | exact cmpi_ge)
local macro_rules | `(tactic| walk_at "sl") => `(tactic| first | ((refine sl_t ?_); walk_at "imm") | ((refine sl_p ?_); walk_at "imm") | ((refine sl_l ?_); walk_at "imm") | ((refine sl_f ?_); walk_at "imm"))
local macro_rules | `(tactic| walk_at "mark") => `(tactic| first | exact nomark _ | with_unfolding_all rfl)
local macro_rules | `(tactic| walk_at "boot") => `(tactic| first | with_reducible exact PyProof.Rows.boot_int | with_reducible exact PyProof.Rows.boot_bool | with_reducible exact PyProof.Rows.boot_tuple | with_reducible exact PyProof.Rows.boot_list | with_reducible exact PyProof.Rows.boot_str | with_reducible exact PyProof.Rows.boot_dict)
local macro_rules | `(tactic| walk_at "kit") => `(tactic| first | with_reducible exact kit_ii | with_reducible exact kit_ib | with_reducible exact kit_it | with_reducible exact kit_tt | with_reducible exact kit_ti | with_reducible exact kit_bb | with_reducible exact kit_bi | with_reducible exact kit_ll | with_reducible exact kit_dd | with_reducible exact kit_ss)
local macro_rules | `(tactic| walk_at "vis") => `(tactic| first | exact Or.inl rfl | exact Or.inr (Or.inl rfl) | exact Or.inr (Or.inr rfl))
local macro_rules | `(tactic| walk_at "pin") => `(tactic| first | decide | (simp only [watch, List.map_nil, List.map_cons, List.nil_append, List.append_nil, List.cons_append]; decide))
local macro_rules | `(tactic| walk_at "loc") => `(tactic| first | exact Or.inl rfl | exact Or.inr rfl)
local macro_rules | `(tactic| walk_at "key") => `(tactic| first | with_reducible exact key0 | with_reducible exact key1 | with_reducible exact key2 | with_reducible exact key3)
local macro_rules | `(tactic| walk_at "dg") => `(tactic| (
  (with_reducible refine' wo_dget ?h1 ?h2 ?h3 ?h4 ?h5 ?h6 ?h7 ?_ ?h9 ?h10 ?h11); (case h1 => with_reducible assumption); (case h2 => with_reducible assumption); (case h5 => walk_at "key"); (case h3 => rfl); (case h4 => exact kN); (case h6 => rfl); (case h7 => trivial); (case h9 => walk_at "vis"); (case h10 => decide); (case h11 => decide)))
local macro_rules | `(tactic| walk_at "ob") => `(tactic| first
  | (refine ⟨Nat.le_of_ble_eq_true rfl, ?_⟩; try dsimp only [List.set])
  | (refine ⟨_, rfl, Nat.le_of_ble_eq_true rfl, ?_⟩; try dsimp only [List.set])
  | (refine ⟨_, rfl, trivial, Nat.le_of_ble_eq_true rfl, Nat.le_of_ble_eq_true rfl, ?_⟩; try dsimp only [List.set])
  | (refine ⟨_, _, rfl, Nat.le_of_ble_eq_true rfl, Nat.le_of_ble_eq_true rfl, ?_⟩; try dsimp only [List.set])
  | (refine ⟨_, _, _, rfl, Nat.le_of_ble_eq_true rfl, Nat.le_of_ble_eq_true rfl, Nat.le_of_ble_eq_true rfl, ?_⟩; try dsimp only [List.set])
  | refine ⟨fun _ => ?_, fun h => Bool.noConfusion h⟩
  | refine ⟨fun h => Bool.noConfusion h, fun _ => ?_⟩
  | refine ⟨_, rfl, ?_⟩
  | refine ⟨_, _, rfl, rfl, ?_⟩
  | refine ⟨_, _, _, _, rfl, rfl, rfl, ?_⟩
  | (refine ⟨_, _, _, ?dd, rfl, rfl, rfl, ?hh, ?_⟩; (case hh => walk_at "kit"))
  | (refine ⟨_, _, ?dd, rfl, rfl, ?hh, ?_⟩; (case hh => first | walk_at "add" | walk_at "mul" | walk_at "cmp"))
  | (refine ⟨_, ?dd, rfl, ?hh, ?_⟩; (case hh => walk_at "sl"))
  | (refine ⟨_, _, ?dd, rfl, rfl, ?hh, ?ii, ?_⟩; (case hh => first | with_reducible assumption | with_reducible exact at2_0 | with_reducible exact at2_1 | with_reducible exact at3_0 | with_reducible exact at3_1 | with_reducible exact at3_2); (case ii => trivial))
  | (refine ⟨fun _ => ?_, ?hx⟩; (case hx => (intro h; exfalso; (first | ((simp only [decide_eq_false_iff_not, decide_eq_true_eq, Bool.not_eq_true', Bool.not_eq_false'] at h); omega) | ((simp at h); done)))))
  | (refine ⟨?hx, fun _ => ?_⟩; (case hx => (intro h; exfalso; (first | ((simp only [decide_eq_false_iff_not, decide_eq_true_eq, Bool.not_eq_true', Bool.not_eq_false'] at h); omega) | ((simp at h); done)))))
  | ((with_reducible refine And.intro ?hh ?_); (case hh => walk_at "cost")))
local macro_rules | `(tactic| walk_at "gWSs") => `(tactic| first
  | with_reducible refine wss_nil ?_
  | with_reducible refine wss_one ?_
  | with_reducible refine wss_cons ?_)
local macro_rules | `(tactic| walk_at "gWS") => `(tactic| first
  | with_reducible refine ws_if ?_
  | with_reducible refine ws_ret ?_
  | ((with_reducible refine' ws_set ?h1 ?h2 ?h3 ?h4 ?_ ?h6 ?h7); (case h1 => with_reducible assumption); (case h2 => with_reducible assumption); (case h3 => walk_at "loc"); (case h4 => walk_at "pin"); (case h6 => rfl); (case h7 => exact .inl rfl))
  | ((with_reducible refine' ws_augI ?h1 ?h2 ?h3 ?h4 ?h5 ?_ ?h7); (case h1 => with_reducible assumption); (case h2 => with_reducible assumption); (case h3 => rfl); (case h4 => walk_at "loc"); (case h5 => walk_at "pin"); (case h7 => exact .inl rfl))
  | ((with_reducible refine' ws_asg2 ?h1 ?h2 ?h3 ?h4 ?h5 ?h6 ?h7 ?_ ?h9 ?h10 ?h11 ?h12); (case h1 => with_reducible assumption); (case h2 => with_reducible assumption); (case h3 => with_reducible assumption); (case h4 => walk_at "loc"); (case h5 => walk_at "loc"); (case h6 => walk_at "pin"); (case h7 => walk_at "pin"); (case h9 => exact .inl rfl); (case h10 => exact .inl rfl); (case h11 => rfl); (case h12 => rfl))
  | ((with_reducible refine' ws_dput ?h1 ?h2 ?_ ?h4 ?h5 ?h6 ?h7); (case h1 => with_reducible assumption); (case h2 => with_reducible assumption); (case h4 => rfl); (case h5 => walk_at "vis"); (case h6 => decide); (case h7 => decide))
  | ((with_reducible refine' ws_asg ?_ ?h2 ?h3 ?h4); (case h2 => rfl); (case h3 => rfl); (case h4 => rfl))
  | ((with_reducible refine ws_expr ?_ ?h2); (case h2 => rfl))
  | with_reducible refine ws_pass ?_)
local macro_rules | `(tactic| walk_at "gWG") => `(tactic| first
  | ((with_reducible refine' wg_name ?h1 ?h2 ?h3 ?h4 ?h5 ?_ ?h7); (case h1 => with_reducible assumption); (case h2 => with_reducible assumption); (case h3 => walk_at "loc"); (case h4 => walk_at "pin"); (case h5 => exact Nat.le_of_ble_eq_true rfl); (case h7 => exact .inl rfl); (try dsimp only [List.set]))
  | ((with_reducible refine' wg_pair ?a1 ?a2 ?a3 ?a4 ?a5 ?a6 ?a7 ?a8 ?a9 ?b1 ?_ ?b3 ?b4 ?b5 ?b6 ?b7); (case a1 => rfl); (case a2 => with_reducible assumption); (case a3 => with_reducible assumption); (case a4 => with_reducible assumption); (case a5 => walk_at "loc"); (case a6 => walk_at "loc"); (case a7 => walk_at "pin"); (case a8 => walk_at "pin"); (case a9 => exact Nat.le_of_ble_eq_true rfl); (case b1 => exact Nat.le_of_ble_eq_true rfl); (case b3 => exact .inl rfl); (case b4 => exact .inl rfl); (case b5 => exact fun t h => pg_tup rfl h); (case b6 => exact fun t u h1 h2 => pgs_cons h1 h2); (case b7 => exact fun t h => pgs_cons h pgs_nil); (try dsimp only [List.set]))
  | ((with_reducible refine' wg_tri ?a1 ?a2 ?a3 ?a4 ?a5 ?a6 ?a7 ?a8 ?b1 ?b2 ?b3 ?b4 ?b5 ?_ ?c1 ?c2 ?c3 ?c4 ?c5 ?c6 ?c7); (case a1 => rfl); (case a2 => with_reducible assumption); (case a3 => with_reducible assumption); (case a4 => with_reducible assumption); (case a5 => with_reducible assumption); (case a6 => walk_at "loc"); (case a7 => walk_at "loc"); (case a8 => walk_at "loc"); (case b1 => walk_at "pin"); (case b2 => walk_at "pin"); (case b3 => walk_at "pin"); (case b4 => exact ⟨Nat.le_of_ble_eq_true rfl, Nat.le_of_ble_eq_true rfl, Nat.le_of_ble_eq_true rfl⟩); (case b5 => first | exact ⟨trivial, trivial, trivial⟩ | exact ⟨trivial, imms_ints, trivial⟩); (case c1 => exact .inl rfl); (case c2 => exact .inl rfl); (case c3 => exact .inl rfl); (case c4 => exact fun t h => pg_tup rfl h); (case c5 => exact fun t u h1 h2 => pgs_cons h1 h2); (case c6 => exact fun t u h1 h2 => pgs_cons h1 h2); (case c7 => exact fun t h => pgs_cons h pgs_nil); (try dsimp only [List.set])))
local macro_rules | `(tactic| walk_at "gENm") => `(tactic| first
  | ((with_reducible refine' we_name ?h1 ?h2 ?h3 ?_ ?h5 ?h6 ?h7); (case h1 => with_reducible assumption); (case h2 => rfl); (case h3 => walk_at "imm"); (case h5 => walk_at "vis"); (case h6 => decide); (case h7 => decide))
  | ((with_reducible refine' we_move ?h1 ?h2 ?_ ?h5 ?h6 ?h7); (case h1 => with_reducible assumption); (case h2 => rfl); (case h5 => walk_at "vis"); (case h6 => decide); (case h7 => decide); (try dsimp only [List.set])))
local macro_rules | `(tactic| walk_at "gWE") => `(tactic| first
  | with_reducible refine we_of ?_)
local macro_rules | `(tactic| walk_at "gName") => `(tactic| first
  | ((with_reducible refine' wo_nameI ?h1 ?h2 ?h3 ?_ ?h5 ?h6 ?h7); (case h1 => with_reducible assumption); (case h2 => rfl); (case h3 => walk_at "imm"); (case h5 => walk_at "vis"); (case h6 => decide); (case h7 => decide))
  | ((with_reducible refine' wo_name ?h1 ?h2 ?_ ?h5 ?h6 ?h7); (case h1 => with_reducible assumption); (case h2 => rfl); (case h5 => walk_at "vis"); (case h6 => decide); (case h7 => decide))
  | ((with_reducible refine' wo_gint ?h1 ?h2 ?_ ?h4); (case h1 => rfl); (case h2 => with_reducible assumption); (case h4 => decide))
  | ((with_reducible refine' wo_tyn ?h1 ?h2 ?h3 ?_ ?h5 ?h6); (case h1 => rfl); (case h2 => with_reducible assumption); (case h3 => walk_at "boot"); (case h5 => decide); (case h6 => decide)))
local macro_rules | `(tactic| walk_at "gCon") => `(tactic| first
  | with_reducible refine wo_int ?_
  | with_reducible refine wo_non ?_
  | with_reducible refine wo_bl ?_
  | with_reducible refine wo_str ?_)
local macro_rules | `(tactic| walk_at "gBin") => `(tactic| first
  | with_reducible refine wo_addD ?_
  | with_reducible refine wo_sub ?_
  | with_reducible refine wo_mulD ?_
  | with_reducible refine wo_mod ?_
  | with_reducible refine wo_fdiv ?_
  | with_reducible refine wo_pow ?_
  | with_reducible refine wo_shl ?_)
local macro_rules | `(tactic| walk_at "gBool") => `(tactic| first
  | with_reducible refine wo_and ?_
  | with_reducible refine wo_or ?_
  | with_reducible refine wo_bone ?_)
local macro_rules | `(tactic| walk_at "gCmp") => `(tactic| first
  | ((with_reducible refine wo_chain ?_ ?h2); (case h2 => with_unfolding_all rfl))
  | ((with_reducible refine wo_cmpD ?h1 ?_); (case h1 => walk_at "mark")))
local macro_rules | `(tactic| walk_at "gSub") => `(tactic| first
  | walk_at "dg"
  | with_reducible refine wo_slD ?_
  | with_reducible refine wo_revL ?_
  | ((with_reducible refine wo_ix ?h1 ?_); (case h1 => exact fun _ _ => rfl)))
local macro_rules | `(tactic| walk_at "gCalN") => `(tactic| first
  | ((with_reducible refine wo_sortedS ?h1 ?h2 ?_ ?h4); (case h1 => rfl); (case h2 => with_reducible assumption); (case h4 => rfl))
  | ((with_reducible refine' wo_c0 ?h1 ?h2 ?h3 ?h4 ?_ ?h6 ?h7 ?h8); (case h1 => with_reducible assumption); (case h2 => with_reducible assumption); (case h3 => first | decide | exact Nat.le_refl _ | omega); (case h4 => rfl); (case h6 => decide); (case h7 => rfl); (case h8 => rfl))
  | ((with_reducible refine' wo_c1 ?h1 ?h2 ?h3 ?h4 ?_ ?h6 ?h7 ?h8); (case h1 => with_reducible assumption); (case h2 => with_reducible assumption); (case h3 => first | decide | exact Nat.le_refl _ | omega); (case h4 => rfl); (case h6 => decide); (case h7 => rfl); (case h8 => rfl))
  | ((with_reducible refine wo_len ?h1 ?h2 ?_ ?h4); (case h1 => rfl); (case h2 => with_reducible assumption); (case h4 => rfl))
  | ((with_reducible refine wo_min2 rfl ?h1 ?h2 ?_ ?h4 ?h5); (case h1 => rfl); (case h2 => with_reducible assumption); (case h4 => rfl); (case h5 => rfl))
  | ((with_reducible refine wo_max2 rfl ?h1 ?h2 ?_ ?h4 ?h5); (case h1 => rfl); (case h2 => with_reducible assumption); (case h4 => rfl); (case h5 => rfl))
  | ((with_reducible refine wo_abs ?h1 ?h2 ?_ ?h4); (case h1 => rfl); (case h2 => with_reducible assumption); (case h4 => rfl))
  | ((with_reducible refine wo_intI ?h1 ?h2 ?_ ?h4); (case h1 => rfl); (case h2 => with_reducible assumption); (case h4 => rfl))
  | ((have hmode : PtMode := by with_reducible assumption); (with_reducible refine wo_tupleF ?h1 ?h2 ?_ ?h4); (case h1 => rfl); (case h2 => with_reducible assumption); (case h4 => rfl))
  | ((with_reducible refine wo_tuple ?h1 ?h2 ?_ ?h4); (case h1 => rfl); (case h2 => with_reducible assumption); (case h4 => rfl))
  | ((with_reducible refine wo_listR1 rfl ?h1 ?h2 ?h3 ?h5 ?_ ?h4 ?h6); (case h1 => rfl); (case h2 => with_reducible assumption); (case h3 => rfl); (case h5 => with_reducible assumption); (case h4 => rfl); (case h6 => rfl))
  | ((with_reducible refine wo_list ?h1 ?h2 ?_ ?h4); (case h1 => rfl); (case h2 => with_reducible assumption); (case h4 => rfl))
  | ((with_reducible refine wo_all ?h0 ?h1 ?h2 ?_ ?h4); (case h0 => rfl); (case h1 => rfl); (case h2 => with_reducible assumption); (case h4 => rfl))
  | ((with_reducible refine wo_isi2 ?h1 ?h2 ?_ ?h4 ?h5); (case h1 => rfl); (case h2 => with_reducible assumption); (case h4 => rfl); (case h5 => rfl)))
local macro_rules | `(tactic| walk_at "gCalA") => `(tactic| first
  | ((with_reducible refine' wo_dpop ?h1 ?h2 ?h3 ?h4 ?h5 ?h6 ?_ ?h8 ?h9 ?h10 ?h11); (case h1 => with_reducible assumption); (case h2 => with_reducible assumption); (case h5 => walk_at "key"); (case h3 => rfl); (case h4 => exact kN); (case h6 => rfl); (case h8 => exact fun t ht => pe_bm PySem.F.plainAttrs_list PySem.F.slot_list_pop PySem.F.type_list_pop mt_popAt ht (pa_cons pe_int pa_nil)); (case h9 => walk_at "vis"); (case h10 => decide); (case h11 => decide))
  | ((with_reducible refine' wo_append ?h1 ?h2 ?_ ?h4 ?h5 ?h6); (case h1 => with_reducible assumption); (case h2 => exact ⟨_, rfl⟩); (case h4 => exact pe_slot (by with_reducible assumption)); (case h5 => exact pe_bm PySem.F.plainAttrs_list PySem.F.slot_list_append PySem.F.type_list_append mt_append (pe_slot (by with_reducible assumption)) pa_w); (case h6 => rfl))
  | ((with_reducible refine' wo_insert ?h2 ?_ ?h4 ?h5 ?h6 ?h7); (case h4 => rfl); (case h5 => exact pe_bm PySem.F.plainAttrs_list PySem.F.slot_list_insert PySem.F.type_list_insert mt_insert (pe_slot (by with_reducible assumption)) pa_w); (case h2 => exact ⟨_, rfl⟩); (case h6 => rfl); (case h7 => rfl))
  | ((with_reducible refine' wo_popAt ?h1 ?_ ?h3 ?h4); (case h3 => exact pe_bm PySem.F.plainAttrs_list PySem.F.slot_list_pop PySem.F.type_list_pop mt_popAt (pe_slot (by with_reducible assumption)) pa_w); (case h1 => exact ⟨_, rfl⟩); (case h4 => rfl))
  | ((have hmode : PtMode := by with_reducible assumption); (with_reducible refine wo_tix ?_ ?h2 ?h3 ?h4 ?h5); (case h2 => rfl); (case h3 => rfl); (case h4 => rfl); (case h5 => rfl))
  | ((with_reducible refine' wo_indexI ?_ ?h5 ?h6); (case h5 => exact pe_bm PySem.F.plainAttrs_list PySem.F.slot_list_index PySem.F.type_list_index mt_index pe_w pa_w); (case h6 => rfl))
  | ((with_reducible refine' wo_pop ?h1 ?h2 ?h3 ?_ ?h5); (case h1 => rfl); (case h5 => exact pe_bm0 PySem.F.plainAttrs_list PySem.F.slot_list_pop PySem.F.type_list_pop mt_pop (pe_slot (by with_reducible assumption)))))
local macro_rules | `(tactic| walk_at "gWO") => `(tactic| first
  | with_reducible refine wo_not ?_
  | with_reducible refine wo_if ?_
  | with_reducible refine wo_lst ?_
  | with_reducible refine wo_tup ?_)
local macro_rules | `(tactic| walk_at "gWT") => `(tactic| first
  | ((with_reducible refine' wt_dne ?h1 ?h2 ?h3 ?h4 ?h5 ?h6 ?_ ?h9 ?h10 ?h11); (case h1 => with_reducible assumption); (case h2 => with_reducible assumption); (case h5 => walk_at "key"); (case h3 => rfl); (case h4 => exact kN); (case h6 => rfl); (case h9 => walk_at "vis"); (case h10 => decide); (case h11 => decide))
  | with_reducible refine wt_not ?_
  | with_reducible refine wt_bool ?_
  | ((with_reducible refine wt_chain ?_ ?h2); (case h2 => with_unfolding_all rfl))
  | ((with_reducible refine wt_cmpD ?h1 ?_); (case h1 => walk_at "mark"))
  | ((with_reducible refine wt_val ?_ ?h2); (case h2 => exact fun _ => rfl)))
local macro_rules | `(tactic| walk_at "gWW") => `(tactic| first
  | with_reducible refine ww_and ?_
  | with_reducible refine ww_and1 ?_
  | with_reducible refine ww_or ?_
  | with_reducible refine ww_or1 ?_)
local macro_rules | `(tactic| walk_at "gWA") => `(tactic| first
  | ((with_reducible refine wa_star ?_ ?h2); (case h2 => rfl))
  | ((with_reducible refine wa_cons ?_ ?h2); (case h2 => rfl))
  | with_reducible refine wa_nil ?_)
local macro_rules | `(tactic| walk_at "rest") => `(tactic| first
  | with_reducible refine wvs_cons ?_
  | with_reducible refine wvs_nil ?_
  | with_reducible refine wp_none ?_
  | with_reducible refine wp_some ?_
  | ((with_reducible refine' wtc_link ?h1 ?_); (case h1 => walk_at "ci"))
  | ((with_reducible refine' wtc_last ?h1 ?_); (case h1 => walk_at "ci")))
local macro_rules | `(tactic| walk_at "d") => `(tactic| first
  | ((with_reducible refine gWSs ?_); walk_at "gWSs")
  | ((with_reducible refine gWS ?_); walk_at "gWS")
  | ((with_reducible refine gWG ?_); walk_at "gWG")
  | ((with_reducible refine gENm ?_); walk_at "gENm")
  | ((with_reducible refine gWE ?_); walk_at "gWE")
  | ((with_reducible refine gName ?_); walk_at "gName")
  | ((with_reducible refine gCon ?_); walk_at "gCon")
  | ((with_reducible refine gBin ?_); walk_at "gBin")
  | ((with_reducible refine gBool ?_); walk_at "gBool")
  | ((with_reducible refine gCmp ?_); walk_at "gCmp")
  | ((with_reducible refine gSub ?_); walk_at "gSub")
  | ((with_reducible refine gCalN ?_); walk_at "gCalN")
  | ((with_reducible refine gCalA ?_); walk_at "gCalA")
  | ((with_reducible refine gWO ?_); walk_at "gWO")
  | ((with_reducible refine gWT ?_); walk_at "gWT")
  | ((with_reducible refine gWW ?_); walk_at "gWW")
  | ((with_reducible refine gWA ?_); walk_at "gWA")
  | walk_at "rest"
  | walk_at "ob")
local macro_rules | `(tactic| walk_at "go") => `(tactic| repeat walk_at "d")

open KP
def ct_law : Ct := ⟨List Int, fun ns ds => ds = [.fz (ns.map D.int)] ∧ ns.length ≤ 1000, fun ns d _ => d = .bl true⟩
section
variable {P : Program} {w : World} {K : PySem.W.Frag} {mg : Str → Option Value} {base : Heap}
theorem isNon_opt {o : Option Nat} : isNon (optD o) = decide (o = none) := by cases o <;> rfl
theorem ok_law {f : Addr} {fd : FuncData} (Z : Fz K mg) (F : FunD K "law" "law" (defArgs s_law) (defBody s_law) (defScope s_law) [] [] f fd) : FnOk P w K mg base CX0 7 f fd ["script"] (toSp K 0 ct_law) := by
  refine fn_ok F sc_law (fun a ds h => by rw [h.1]; rfl) (by decide) ?_
  intro cdv A outer s H E hr (a : List Int ) ds hp X
  have hNd : X.N.Nodup := sc_law.nd
  have hN0 : X.N[0]? = some ("script" : Str) := rfl
  have hN1 : X.N[1]? = some ("state" : Str) := rfl
  have hN2 : X.N[2]? = some ("lap" : Str) := rfl
  have hN3 : X.N[3]? = some ("many" : Str) := rfl
  have hN4 : X.N[4]? = some ("left" : Str) := rfl
  have hN5 : X.N[5]? = some ("here" : Str) := rfl
  have hN6 : X.N[6]? = some ("turns" : Str) := rfl
  have hN7 : X.N[7]? = some ("great" : Str) := rfl
  have hN8 : X.N[8]? = some ("items" : Str) := rfl
  have hN9 : X.N[9]? = some ("few" : Str) := rfl
  have hR : Room 6 X.A := hr
  have hu64 : X.A.units + 64 < cLine := by have := hR.un; omega
  have hu1 : X.A.units + 1 < cLine := by have := hR.un; omega
  have c_law_begun : Cal X.prog X.w X.K X.mg X.base 1 "_law_begun" (toSp X.K 0 ct_law_begun) := cal_law_begun Z
  have m_range : X.mg "range" = none := Z.b_range
  have c_law_mv_drawn : Cal X.prog X.w X.K X.mg X.base 4 "_law_mv_drawn" (toSp X.K 1 ct_law_mv_drawn) := cal_law_mv_drawn Z
  have c_law_pick : Cal X.prog X.w X.K X.mg X.base 3 "_law_pick" (toSp X.K 1 ct_law_pick) := cal_law_pick Z
  have m_min : X.mg "min" = none := Z.b_min
  have c_law_draw : Cal X.prog X.w X.K X.mg X.base 2 "_law_draw" (toSp X.K 1 ct_law_draw) := cal_law_draw Z
  have c_tight_place : Cal X.prog X.w X.K X.mg X.base 5 "tight_place" (toSp X.K 0 ct_tight_place) := cal_tight_place Z
  have m_len : X.mg "len" = none := Z.b_len
  have c_law_k23_drawn : Cal X.prog X.w X.K X.mg X.base 3 "_law_k23_drawn" (toSp X.K 1 ct_law_k23_drawn) := cal_law_k23_drawn Z
  have c_law_k23_kept : Cal X.prog X.w X.K X.mg X.base 6 "_law_k23_kept" (toSp X.K 1 ct_law_k23_kept) := cal_law_k23_kept Z
  have c_law_k23_stuck : Cal X.prog X.w X.K X.mg X.base 6 "_law_k23_stuck" (toSp X.K 1 ct_law_k23_stuck) := cal_law_k23_stuck Z
  obtain ⟨hds, hp⟩ := hp
  subst hds
  show WSs X [] (_ :: _) [ some (D.fz (a.map D.int)), none, none, none, none, none, none, none, none, none] _
  walk_at "go"
  refine ⟨a, ⟨rfl, hp⟩, fun d hd => ?_⟩
  obtain ⟨s, rfl, ok⟩ := hd
  walk_at "go"
  refine ws_for PassesOwn.never rfl ?_
  refine wi_range1 (by exact rfl) m_range ?_ (by rfl) (by rfl)
  walk_at "go"
  have hlap : (2 + if (3 : Int) < ((a.map D.int).length : Int) then (3 : Int) else ((a.map D.int).length : Int)).toNat ≤ 5 := by split <;> omega
  generalize (2 + if (3 : Int) < ((a.map D.int).length : Int) then (3 : Int) else ((a.map D.int).length : Int)).toNat = laps at *
  refine ⟨fun j E' => ∃ (s' : Sta) (o2 o3 o4 o5 o6 o7 o8 o9 : Option D), SOk (1000 * j) s' ∧ E' = [some (.fz (a.map D.int)), some (sD s'), o2, o3, o4, o5, o6, o7, o8, o9], ⟨s, none, none, none, none, none, none, none, none, ok.mono (by simp), rfl⟩, (fun _ _ _ _ p h => nomatch h), ?_, ?_⟩
  · rintro j E' hj ⟨s', o2, o3, o4, o5, o6, o7, o8, o9, ok', rfl⟩
    refine' wg_name hNd hN2 (.inl rfl) (by decide) (Nat.le_of_ble_eq_true rfl) ?_ (.inl rfl)
    dsimp only [List.set]
    refine wss_cons ?_
    refine' ws_par rfl hNd hN3 hN4 (by decide) (by decide) (by decide) rfl rfl ?_ ?hw ?hs
    case hw => rfl
    case hs => rfl
    walk_at "go"
    refine ⟨(_, _, _), ⟨rfl, by with_reducible assumption, by dsimp only; (try simp only [ncast]); omega, by dsimp only; omega⟩, ?_⟩
    rintro _ _ ⟨r1, s1, rfl, hr1, hd, oks1⟩
    cases hd
    dsimp only at hr1 oks1
    try simp only [ncast] at hr1
    dsimp only [List.set]
    walk_at "go"
    refine ⟨(_, _, _), ⟨rfl, by with_reducible assumption, by dsimp only; (try simp only [ncast]); omega, by dsimp only; omega⟩, ?_⟩
    rintro _ _ ⟨r2, s2, rfl, hr2, hd, oks2⟩
    cases hd
    dsimp only at hr2 oks2
    try simp only [ncast] at hr2
    dsimp only [List.set]
    obtain ⟨n, rfl⟩ : ∃ n : Nat, r2 = (n : Int) := ⟨r2.toNat, by omega⟩
    have c_goes : Cal X.prog X.w X.K X.mg X.base (n + 1) "_law_k23_goes_on" (toSp X.K 0 (ct_goes n)) := cal_goes Z n
    walk_at "go"
    have hmin : 0 < (if (4 : Int) < 1 + r1 then (4 : Int) else 1 + r1) ∧ (if (4 : Int) < 1 + r1 then (4 : Int) else 1 + r1) ≤ 4 := by split <;> omega
    generalize (if (4 : Int) < 1 + r1 then (4 : Int) else 1 + r1) = mn at *
    refine ⟨(_, _, _), ⟨rfl, by with_reducible assumption, by dsimp only; (try simp only [ncast]); omega, by dsimp only; omega⟩, ?_⟩
    rintro _ _ ⟨r3, s3, rfl, hr3, hd, oks3⟩
    cases hd
    dsimp only at hr3 oks3
    try simp only [ncast] at hr3
    dsimp only [List.set]
    walk_at "go"
    refine ⟨(s3, _, 1 + r1, 1 + r3), ⟨rfl, oks3, by dsimp only; omega, by dsimp only; omega, by dsimp only; omega⟩, ?_⟩
    rintro _ _ ⟨st0, s4, rfl, okS0, hl0, hd, ok4⟩
    cases hd
    dsimp only at okS0 hl0 ok4
    dsimp only [List.set]
    refine ⟨_, rfl, Nat.le_of_ble_eq_true rfl, ?_⟩
    refine wss_cut (fun E' => ∃ (st : List Int) (s5 : Sta), OkS (1 + r1) st ∧ st.length ≤ 4 ∧ SOk (1000 * j + 24) s5 ∧ E' = [some (.fz (a.map D.int)), some (sD s5), some (.int (0 + (j : Int))), some (.int (1 + r1)), some (.int (n : Int)), some (stT st), o6, o7, o8, o9]) ?_ ?_
    · walk_at "go"
      refine ⟨(_, _, _), ⟨rfl, by with_reducible assumption, by dsimp only; (try simp only [ncast]); omega, by dsimp only; omega⟩, ?_⟩
      rintro _ _ ⟨r4, s5, rfl, hr4, hd, oks5⟩
      cases hd
      dsimp only at hr4 oks5
      try simp only [ncast] at hr4
      dsimp only [List.set]
      walk_at "go"
      refine ⟨fun h => ?_, fun h => ?_⟩
      · walk_at "go"
        exact ⟨[0], s5, ⟨by omega, by omega, by simp, List.pairwise_singleton _ _, fun x hx => by rw [List.mem_singleton.mp hx]; decide, fun x hx => by rw [List.mem_singleton.mp hx]; omega, by simp⟩, by simp, oks5.mono (by omega), rfl⟩
      · exact wss_nil ⟨st0, s5, okS0, by omega, oks5.mono (by omega), rfl⟩
    · rintro E' ⟨st, s5, okS, hl, ok5, rfl⟩
      walk_at "go"
      refine ⟨(1 + r1, st, n), ⟨rfl, okS, by dsimp only; omega⟩, fun d hd => ?_⟩
      have hd : d = optD (tightF (1 + r1) st n) := hd
      subst hd
      walk_at "go"
      refine ⟨(1 + r1, st), ⟨rfl, okS, by dsimp only; omega⟩, fun d hd => ?_⟩
      have hd : d = .bl (goesB (1 + r1) n st) := hd
      have hgo : goesB (1 + r1) n st = decide (tightF (1 + r1) st n = none) := by
        have h1 := goes_iff okS (n := n) (by omega)
        rw [Bool.eq_iff_iff, h1, decide_eq_true_iff, tight_none]
      rw [hgo] at hd
      subst hd
      refine ⟨_, _, _, rfl, rfl, cmp_neB, ?_⟩
      rw [isNon_opt]
      refine ⟨fun h => by simp at h, fun _ => ?_⟩
      walk_at "go"
      refine ⟨(_, _, _), ⟨rfl, by with_reducible assumption, by dsimp only; (try simp only [ncast]); omega, by dsimp only; omega⟩, ?_⟩
      rintro _ _ ⟨r5, s6, rfl, hr5, hd, oks6⟩
      cases hd
      dsimp only at hr5 oks6
      try simp only [ncast] at hr5
      dsimp only [List.set]
      obtain ⟨tn, htn⟩ : ∃ tn : Nat, 1 + r5 = (tn : Int) := ⟨(1 + r5).toNat, by omega⟩
      refine ⟨_, _, _, rfl, rfl, AddD.int, _, rfl, Nat.le_of_ble_eq_true rfl, ?_⟩
      rw [htn]
      have t0 : 1 ≤ tn := by omega
      have t1 : tn ≤ 50 := by omega
      have pw0 : (2 : Int) ^ tn ≤ 2 ^ 50 := by
        have : (2 : Nat) ^ tn ≤ 2 ^ 50 := Nat.pow_le_pow_right (by decide) t1
        exact_mod_cast this
      have pw3 : (2 : Int) ^ 50 = 1125899906842624 := by decide
      have pw1 : (2 : Int) ^ tn ≤ 1125899906842624 := by omega
      have pw2 : (2 : Int) ≤ 2 ^ tn := by
        have : (2 : Nat) ^ 1 ≤ 2 ^ tn := Nat.pow_le_pow_right (by decide) t0
        exact_mod_cast this
      walk_at "go"
      rw [Int.toNat_natCast, Int.one_mul]
      refine ⟨(_, _, _, [.int (2 ^ tn), .int (2 ^ tn + 1), .int (2 ^ tn - 1), .int (3 * 2 ^ tn), .int (10 ^ Int.toNat 18 - 1)]), ⟨rfl, by with_reducible assumption, rfl, ⟨trivial, trivial, trivial, trivial, trivial, trivial⟩, ⟨Nat.le_of_ble_eq_true rfl, Nat.le_of_ble_eq_true rfl⟩, by dsimp only; omega⟩, ?_⟩
      rintro x _ ⟨s7, hx, hd, ok7⟩
      cases hd
      dsimp only at hx ok7
      rw [ten18] at hx
      obtain ⟨g, rfl, g0, g1⟩ : ∃ g : Int, x = .int g ∧ 1 ≤ g ∧ g < 1000000000000000000 := by
        simp only [List.mem_cons, List.not_mem_nil, or_false] at hx
        rcases hx with q | q | q | q | q
        · exact ⟨_, q, by omega, by omega⟩
        · exact ⟨_, q, by omega, by omega⟩
        · exact ⟨_, q, by omega, by omega⟩
        · exact ⟨_, q, by omega, by omega⟩
        · exact ⟨_, q, by omega, by omega⟩
      refine ⟨_, rfl, Nat.le_of_ble_eq_true rfl, ?_⟩
      dsimp only [List.set]
      refine wss_cons ?_
      refine ws_for PassesOwn.never rfl ?_
      refine wi_lst ?_
      walk_at "go"
      refine ⟨(s7, _, g, tn), ⟨rfl, ok7, ⟨g0, g1⟩, ⟨t0, t1⟩, by dsimp only; omega⟩, ?_⟩
      rintro _ _ ⟨st2, s8, rfl, okS2, hl2, hd, ok8⟩
      cases hd
      dsimp only at okS2 hl2 ok8
      dsimp only [List.set]
      walk_at "go"
      refine ⟨⟨⟨trivial, imms_ints, trivial, trivial⟩, ⟨trivial, imms_ints, trivial, trivial⟩, trivial⟩, ?_⟩
      refine ⟨fun i E' => ∃ (s9 : Sta) (o3 o4 o5 : Option D), SOk (1000 * j + 100 + 200 * i) s9 ∧ E' = [some (.fz (a.map D.int)), some (sD s9), some (.int (0 + (j : Int))), o3, o4, o5, some (.int (tn : Int)), some (.int g), o8, o9], ⟨s8, _, _, _, ok8.mono (by simp; omega), rfl⟩, (fun _ _ _ _ p h => nomatch h), ?_, ?_⟩
      · rintro i E' hi ⟨s9, o3', o4', o5', ok9, rfl⟩
        have hi2 : i < 2 := hi
        obtain ⟨m', st', l', es, okS', hl1', hl2'⟩ : ∃ (m' : Int) (st' : List Int) (l' : Nat), ([.tup [.int (1 + r1), stT st, .int (n : Int)], .tup [.int g, stT st2, .int (tn : Int)]] : List D).getD i .non = .tup [.int m', stT st', .int (l' : Int)] ∧ OkS m' st' ∧ st'.length ≤ 10 ∧ l' ≤ 59 := by
          rcases i with _ | _ | i
          · exact ⟨_, _, _, rfl, okS, by omega, by omega⟩
          · exact ⟨_, _, _, rfl, okS2, hl2, by omega⟩
          · omega
        rw [es]
        walk_at "go"
        refine ⟨(m', st', l'), ⟨rfl, okS', hl2'⟩, fun d hd => ?_⟩
        have hd : d = optD (tightF m' st' l') := hd
        subst hd
        walk_at "go"
        rw [isNon_opt]
        refine ⟨fun h => ?_, fun h => ?_⟩
        · have h := of_decide_eq_true h
          walk_at "go"
          refine ⟨(s9, _, m', st', l'), ⟨rfl, ok9, okS', tight_none.mp h, by dsimp only; omega, hl2', by dsimp only; omega⟩, ?_⟩
          rintro _ _ ⟨s10, rfl, hd, ok10⟩
          cases hd
          dsimp only at ok10
          dsimp only [List.set]
          walk_at "go"
          exact ⟨s10, _, _, _, ok10.mono (by push_cast; omega), rfl⟩
        · have h := of_decide_eq_false h
          walk_at "go"
          refine ⟨(s9, _, m', st', l'), ⟨rfl, ok9, okS', Option.ne_none_iff_exists'.mp h, by dsimp only; omega, hl2', by dsimp only; omega⟩, ?_⟩
          rintro _ _ ⟨s10, rfl, hd, ok10⟩
          cases hd
          dsimp only at ok10
          dsimp only [List.set]
          walk_at "go"
          exact ⟨s10, _, _, _, ok10.mono (by push_cast; omega), rfl⟩
      · rintro E' ⟨s9, o3', o4', o5', ok9, rfl⟩
        have ok9' : SOk (1000 * j + 500) s9 := ok9.mono (by show _ + 200 * ((2 : Nat) : Int) ≤ _; omega)
        clear hr1 oks1 hr2 oks2 hmin hr3 oks3 okS0 hl0 ok4 okS hl ok5 hr5 oks6 htn t0 t1 pw0 pw3 pw1 pw2 ok7 hx g0 g1 okS2 hl2 ok8 ok9 hgo hlap hj ok' ok hp
        walk_at "go"
        refine ws_for PassesOwn.never rfl ?_
        refine wi_range2 (by exact rfl) m_range ?_ (by rfl) (by rfl) (by rfl) (by rfl)
        walk_at "go"
        refine ⟨fun i E' => ∃ (o3 o4 o5 o8 o9 : Option D), E' = [some (.fz (a.map D.int)), some (sD s9), some (.int (0 + (j : Int))), o3, o4, o5, some (.int (tn : Int)), some (.int g), o8, o9], ⟨_, _, _, _, _, rfl⟩, (fun _ _ _ _ p h => nomatch h), ?_, ?_⟩
        · rintro i E' hi ⟨o3'', o4'', o5'', o8'', o9'', rfl⟩
          have hi2 : i < 11 := hi
          have q1 : (2 : Int) ^ i ≤ 2 ^ 11 := by
            have : (2 : Nat) ^ i ≤ 2 ^ 11 := Nat.pow_le_pow_right (by decide) (by omega)
            exact_mod_cast this
          have q2 : (2 : Int) ^ 11 = 2048 := by decide
          have q3 : (0 : Int) < 2 ^ i := Int.pow_pos (by decide)
          have e1 : (1 + (i : Int) - 1).toNat = i := by omega
          have e2 : 1 + (i : Int) - 1 = (i : Int) := by omega
          have ok0 : ∀ m : Int, 1 ≤ m → m < 1000000000000000000 → OkS m [0] := fun m h1 h2 => ⟨h1, h2, by simp, List.pairwise_singleton _ _, fun x hx => by rw [List.mem_singleton.mp hx]; decide, fun x hx => by rw [List.mem_singleton.mp hx]; omega, by simp⟩
          walk_at "go"
          rw [e1, e2, Int.one_mul]
          refine ⟨(2 ^ i, [0], i), ⟨rfl, ok0 _ (by omega) (by omega), by dsimp only; omega⟩, fun d hd => ?_⟩
          have hd : d = optD (tightF (2 ^ i) [0] i) := hd
          rw [tight_zero, if_neg (by omega)] at hd
          have hd : d = .non := hd
          subst hd
          walk_at "go"
          refine ⟨fun h => ?_, fun h => ?_⟩
          · have h := of_decide_eq_true h
            have q4 := two_le (i := i) (by omega)
            walk_at "go"
            rw [e1, e2, Int.one_mul]
            refine ⟨(2 ^ i - 1, [0], i), ⟨rfl, ok0 _ (by omega) (by omega), by dsimp only; omega⟩, fun d hd => ?_⟩
            have hd : d = optD (tightF (2 ^ i - 1) [0] i) := hd
            rw [tight_zero, if_pos (by omega)] at hd
            have hd : d = .int ((0 : Nat) : Int) := hd
            subst hd
            walk_at "go"
            exact ⟨_, _, _, _, _, rfl⟩
          · walk_at "go"
            exact ⟨_, _, _, _, _, rfl⟩
        · rintro E' ⟨o3'', o4'', o5'', o8'', o9'', rfl⟩
          walk_at "go"
          exact ⟨s9, _, _, _, _, _, _, _, _, ok9'.mono (by push_cast; omega), rfl⟩
  · rintro E' ⟨s', o2, o3, o4, o5, o6, o7, o8, o9, ok', rfl⟩
    walk_at "go"
    exact ⟨[], rfl, rfl⟩
end
end K23


namespace K23
open PySem PySem.Spec L2 DL Ln
open PyProof.Rows (envOfC)
local macro_rules | `(tactic| walk_at "imm") => `(tactic| first | assumption | trivial | exact imms_ints | exact imms_pairs | (simp only [Imm, Imms]; done) | exact ⟨trivial, trivial⟩ | exact ⟨trivial, imms_ints⟩ | exact imms_cut imms_ints | exact imms_app imms_ints ⟨trivial, trivial⟩ | exact imms_app (imms_cut imms_ints) ⟨trivial, trivial⟩ | exact imms_app (imms_app (imms_cut imms_ints) ⟨trivial, trivial⟩) (imms_cut imms_ints))
local macro_rules | `(tactic| walk_at "add") => `(tactic| first | exact AddD.int | exact AddD.lst (by walk_at "imm") (by walk_at "imm") (by first | assumption | (simp; omega)) | ((refine AddD.tup ?at1 ?at2 ?at3 ?at4 ?at5); (case at1 => rfl); (case at2 => rfl); (case at3 => walk_at "imm"); (case at4 => walk_at "imm"); (case at5 => first | with_reducible assumption | (simp; omega))))
local macro_rules | `(tactic| walk_at "cost") => `(tactic| first | with_reducible assumption | (with_reducible exact cpow (by omega) (by omega) (by omega) (by omega)) | (with_reducible exact cdivw (by omega) (by omega)) | (with_reducible exact cmul1 (by omega) (by omega)) | (with_reducible exact cmul2 (by omega) (by omega)) | with_reducible exact imms_ints | omega)
local macro_rules | `(tactic| walk_at "mul") => `(tactic| ((refine MulD.int ?_); walk_at "cost"))
local macro_rules | `(tactic| walk_at "cmp") => `(tactic| first | with_reducible exact cmp_lt | with_reducible exact cmp_le | with_reducible exact cmp_gt | with_reducible exact cmp_ge | with_reducible exact cmp_eqI | with_reducible exact cmp_neI | with_reducible exact cmp_isN | with_reducible exact cmp_notN | ((with_reducible refine cmp_neLL ?_); with_reducible assumption) | ((with_reducible refine cmp_neTT ?_); with_reducible assumption) | ((with_reducible refine cmp_nePT ?_); with_reducible assumption) | ((with_reducible refine cmp_eqLL ?_); with_reducible assumption) | ((with_reducible refine cmp_eqLN ?_); with_reducible assumption) | ((with_reducible refine cmp_neLN ?_); with_reducible assumption) | ((with_reducible refine cmp_neP ?_); with_reducible assumption) | ((with_reducible refine cmp_eqN ?_); with_reducible assumption) | with_reducible exact cmp_notB | with_reducible exact cmp_neB | with_reducible exact cmp_eqB | with_reducible exact cmp_inL | with_reducible exact cmp_inF | with_reducible exact cmp_inT | with_reducible exact cmp_inP | with_reducible exact cmp_niL | with_reducible exact cmp_niF | with_reducible exact cmp_niT | with_reducible exact cmp_niP)
local macro_rules | `(tactic| walk_at "ci") => `(tactic| first | exact cmpi_lt | exact cmpi_le | exact cmpi_gt | exact cmpi_ge)
local macro_rules | `(tactic| walk_at "sl") => `(tactic| first | ((refine sl_t ?_); walk_at "imm") | ((refine sl_p ?_); walk_at "imm") | ((refine sl_l ?_); walk_at "imm") | ((refine sl_f ?_); walk_at "imm"))
local macro_rules | `(tactic| walk_at "mark") => `(tactic| first | exact nomark _ | with_unfolding_all rfl)
local macro_rules | `(tactic| walk_at "boot") => `(tactic| first | with_reducible exact PyProof.Rows.boot_int | with_reducible exact PyProof.Rows.boot_bool | with_reducible exact PyProof.Rows.boot_tuple | with_reducible exact PyProof.Rows.boot_list | with_reducible exact PyProof.Rows.boot_str | with_reducible exact PyProof.Rows.boot_dict)
local macro_rules | `(tactic| walk_at "kit") => `(tactic| first | with_reducible exact kit_ii | with_reducible exact kit_ib | with_reducible exact kit_it | with_reducible exact kit_tt | with_reducible exact kit_ti | with_reducible exact kit_bb | with_reducible exact kit_bi | with_reducible exact kit_ll | with_reducible exact kit_dd | with_reducible exact kit_ss)
local macro_rules | `(tactic| walk_at "vis") => `(tactic| first | exact Or.inl rfl | exact Or.inr (Or.inl rfl) | exact Or.inr (Or.inr rfl))
local macro_rules | `(tactic| walk_at "pin") => `(tactic| first | decide | (simp only [watch, List.map_nil, List.map_cons, List.nil_append, List.append_nil, List.cons_append]; decide))
local macro_rules | `(tactic| walk_at "loc") => `(tactic| first | exact Or.inl rfl | exact Or.inr rfl)
local macro_rules | `(tactic| walk_at "key") => `(tactic| first | with_reducible exact key0 | with_reducible exact key1 | with_reducible exact key2 | with_reducible exact key3)
local macro_rules | `(tactic| walk_at "dg") => `(tactic| (
  (with_reducible refine' wo_dget ?h1 ?h2 ?h3 ?h4 ?h5 ?h6 ?h7 ?_ ?h9 ?h10 ?h11); (case h1 => with_reducible assumption); (case h2 => with_reducible assumption); (case h5 => walk_at "key"); (case h3 => rfl); (case h4 => exact kN); (case h6 => rfl); (case h7 => trivial); (case h9 => walk_at "vis"); (case h10 => decide); (case h11 => decide)))
local macro_rules | `(tactic| walk_at "ob") => `(tactic| first
  | (refine ⟨Nat.le_of_ble_eq_true rfl, ?_⟩; try dsimp only [List.set])
  | (refine ⟨_, rfl, Nat.le_of_ble_eq_true rfl, ?_⟩; try dsimp only [List.set])
  | (refine ⟨_, rfl, trivial, Nat.le_of_ble_eq_true rfl, Nat.le_of_ble_eq_true rfl, ?_⟩; try dsimp only [List.set])
  | (refine ⟨_, _, rfl, Nat.le_of_ble_eq_true rfl, Nat.le_of_ble_eq_true rfl, ?_⟩; try dsimp only [List.set])
  | (refine ⟨_, _, _, rfl, Nat.le_of_ble_eq_true rfl, Nat.le_of_ble_eq_true rfl, Nat.le_of_ble_eq_true rfl, ?_⟩; try dsimp only [List.set])
  | refine ⟨fun _ => ?_, fun h => Bool.noConfusion h⟩
  | refine ⟨fun h => Bool.noConfusion h, fun _ => ?_⟩
  | refine ⟨_, rfl, ?_⟩
  | refine ⟨_, _, rfl, rfl, ?_⟩
  | refine ⟨_, _, _, _, rfl, rfl, rfl, ?_⟩
  | (refine ⟨_, _, _, ?dd, rfl, rfl, rfl, ?hh, ?_⟩; (case hh => walk_at "kit"))
  | (refine ⟨_, _, ?dd, rfl, rfl, ?hh, ?_⟩; (case hh => first | walk_at "add" | walk_at "mul" | walk_at "cmp"))
  | (refine ⟨_, ?dd, rfl, ?hh, ?_⟩; (case hh => walk_at "sl"))
  | (refine ⟨_, _, ?dd, rfl, rfl, ?hh, ?ii, ?_⟩; (case hh => first | with_reducible assumption | with_reducible exact at2_0 | with_reducible exact at2_1 | with_reducible exact at3_0 | with_reducible exact at3_1 | with_reducible exact at3_2); (case ii => trivial))
  | (refine ⟨fun _ => ?_, ?hx⟩; (case hx => (intro h; exfalso; (first | ((simp only [decide_eq_false_iff_not, decide_eq_true_eq, Bool.not_eq_true', Bool.not_eq_false'] at h); omega) | ((simp at h); done)))))
  | (refine ⟨?hx, fun _ => ?_⟩; (case hx => (intro h; exfalso; (first | ((simp only [decide_eq_false_iff_not, decide_eq_true_eq, Bool.not_eq_true', Bool.not_eq_false'] at h); omega) | ((simp at h); done)))))
  | ((with_reducible refine And.intro ?hh ?_); (case hh => walk_at "cost")))
local macro_rules | `(tactic| walk_at "gWSs") => `(tactic| first
  | with_reducible refine wss_nil ?_
  | with_reducible refine wss_one ?_
  | with_reducible refine wss_cons ?_)
local macro_rules | `(tactic| walk_at "gWS") => `(tactic| first
  | with_reducible refine ws_if ?_
  | with_reducible refine ws_ret ?_
  | ((with_reducible refine' ws_set ?h1 ?h2 ?h3 ?h4 ?_ ?h6 ?h7); (case h1 => with_reducible assumption); (case h2 => with_reducible assumption); (case h3 => walk_at "loc"); (case h4 => walk_at "pin"); (case h6 => rfl); (case h7 => exact .inl rfl))
  | ((with_reducible refine' ws_augI ?h1 ?h2 ?h3 ?h4 ?h5 ?_ ?h7); (case h1 => with_reducible assumption); (case h2 => with_reducible assumption); (case h3 => rfl); (case h4 => walk_at "loc"); (case h5 => walk_at "pin"); (case h7 => exact .inl rfl))
  | ((with_reducible refine' ws_asg2 ?h1 ?h2 ?h3 ?h4 ?h5 ?h6 ?h7 ?_ ?h9 ?h10 ?h11 ?h12); (case h1 => with_reducible assumption); (case h2 => with_reducible assumption); (case h3 => with_reducible assumption); (case h4 => walk_at "loc"); (case h5 => walk_at "loc"); (case h6 => walk_at "pin"); (case h7 => walk_at "pin"); (case h9 => exact .inl rfl); (case h10 => exact .inl rfl); (case h11 => rfl); (case h12 => rfl))
  | ((with_reducible refine' ws_dput ?h1 ?h2 ?_ ?h4 ?h5 ?h6 ?h7); (case h1 => with_reducible assumption); (case h2 => with_reducible assumption); (case h4 => rfl); (case h5 => walk_at "vis"); (case h6 => decide); (case h7 => decide))
  | ((with_reducible refine' ws_asg ?_ ?h2 ?h3 ?h4); (case h2 => rfl); (case h3 => rfl); (case h4 => rfl))
  | ((with_reducible refine ws_expr ?_ ?h2); (case h2 => rfl))
  | with_reducible refine ws_pass ?_)
local macro_rules | `(tactic| walk_at "gWG") => `(tactic| first
  | ((with_reducible refine' wg_name ?h1 ?h2 ?h3 ?h4 ?h5 ?_ ?h7); (case h1 => with_reducible assumption); (case h2 => with_reducible assumption); (case h3 => walk_at "loc"); (case h4 => walk_at "pin"); (case h5 => exact Nat.le_of_ble_eq_true rfl); (case h7 => exact .inl rfl); (try dsimp only [List.set]))
  | ((with_reducible refine' wg_pair ?a1 ?a2 ?a3 ?a4 ?a5 ?a6 ?a7 ?a8 ?a9 ?b1 ?_ ?b3 ?b4 ?b5 ?b6 ?b7); (case a1 => rfl); (case a2 => with_reducible assumption); (case a3 => with_reducible assumption); (case a4 => with_reducible assumption); (case a5 => walk_at "loc"); (case a6 => walk_at "loc"); (case a7 => walk_at "pin"); (case a8 => walk_at "pin"); (case a9 => exact Nat.le_of_ble_eq_true rfl); (case b1 => exact Nat.le_of_ble_eq_true rfl); (case b3 => exact .inl rfl); (case b4 => exact .inl rfl); (case b5 => exact fun t h => pg_tup rfl h); (case b6 => exact fun t u h1 h2 => pgs_cons h1 h2); (case b7 => exact fun t h => pgs_cons h pgs_nil); (try dsimp only [List.set]))
  | ((with_reducible refine' wg_tri ?a1 ?a2 ?a3 ?a4 ?a5 ?a6 ?a7 ?a8 ?b1 ?b2 ?b3 ?b4 ?b5 ?_ ?c1 ?c2 ?c3 ?c4 ?c5 ?c6 ?c7); (case a1 => rfl); (case a2 => with_reducible assumption); (case a3 => with_reducible assumption); (case a4 => with_reducible assumption); (case a5 => with_reducible assumption); (case a6 => walk_at "loc"); (case a7 => walk_at "loc"); (case a8 => walk_at "loc"); (case b1 => walk_at "pin"); (case b2 => walk_at "pin"); (case b3 => walk_at "pin"); (case b4 => exact ⟨Nat.le_of_ble_eq_true rfl, Nat.le_of_ble_eq_true rfl, Nat.le_of_ble_eq_true rfl⟩); (case b5 => first | exact ⟨trivial, trivial, trivial⟩ | exact ⟨trivial, imms_ints, trivial⟩); (case c1 => exact .inl rfl); (case c2 => exact .inl rfl); (case c3 => exact .inl rfl); (case c4 => exact fun t h => pg_tup rfl h); (case c5 => exact fun t u h1 h2 => pgs_cons h1 h2); (case c6 => exact fun t u h1 h2 => pgs_cons h1 h2); (case c7 => exact fun t h => pgs_cons h pgs_nil); (try dsimp only [List.set])))
local macro_rules | `(tactic| walk_at "gENm") => `(tactic| first
  | ((with_reducible refine' we_name ?h1 ?h2 ?h3 ?_ ?h5 ?h6 ?h7); (case h1 => with_reducible assumption); (case h2 => rfl); (case h3 => walk_at "imm"); (case h5 => walk_at "vis"); (case h6 => decide); (case h7 => decide))
  | ((with_reducible refine' we_move ?h1 ?h2 ?_ ?h5 ?h6 ?h7); (case h1 => with_reducible assumption); (case h2 => rfl); (case h5 => walk_at "vis"); (case h6 => decide); (case h7 => decide); (try dsimp only [List.set])))
local macro_rules | `(tactic| walk_at "gWE") => `(tactic| first
  | with_reducible refine we_of ?_)
local macro_rules | `(tactic| walk_at "gName") => `(tactic| first
  | ((with_reducible refine' wo_nameI ?h1 ?h2 ?h3 ?_ ?h5 ?h6 ?h7); (case h1 => with_reducible assumption); (case h2 => rfl); (case h3 => walk_at "imm"); (case h5 => walk_at "vis"); (case h6 => decide); (case h7 => decide))
  | ((with_reducible refine' wo_name ?h1 ?h2 ?_ ?h5 ?h6 ?h7); (case h1 => with_reducible assumption); (case h2 => rfl); (case h5 => walk_at "vis"); (case h6 => decide); (case h7 => decide))
  | ((with_reducible refine' wo_gint ?h1 ?h2 ?_ ?h4); (case h1 => rfl); (case h2 => with_reducible assumption); (case h4 => decide))
  | ((with_reducible refine' wo_tyn ?h1 ?h2 ?h3 ?_ ?h5 ?h6); (case h1 => rfl); (case h2 => with_reducible assumption); (case h3 => walk_at "boot"); (case h5 => decide); (case h6 => decide)))
local macro_rules | `(tactic| walk_at "gCon") => `(tactic| first
  | with_reducible refine wo_int ?_
  | with_reducible refine wo_non ?_
  | with_reducible refine wo_bl ?_
  | with_reducible refine wo_str ?_)
local macro_rules | `(tactic| walk_at "gBin") => `(tactic| first
  | with_reducible refine wo_addD ?_
  | with_reducible refine wo_sub ?_
  | with_reducible refine wo_mulD ?_
  | with_reducible refine wo_mod ?_
  | with_reducible refine wo_fdiv ?_
  | with_reducible refine wo_pow ?_
  | with_reducible refine wo_shl ?_)
local macro_rules | `(tactic| walk_at "gBool") => `(tactic| first
  | with_reducible refine wo_and ?_
  | with_reducible refine wo_or ?_
  | with_reducible refine wo_bone ?_)
local macro_rules | `(tactic| walk_at "gCmp") => `(tactic| first
  | ((with_reducible refine wo_chain ?_ ?h2); (case h2 => with_unfolding_all rfl))
  | ((with_reducible refine wo_cmpD ?h1 ?_); (case h1 => walk_at "mark")))
local macro_rules | `(tactic| walk_at "gSub") => `(tactic| first
  | walk_at "dg"
  | with_reducible refine wo_slD ?_
  | with_reducible refine wo_revL ?_
  | ((with_reducible refine wo_ix ?h1 ?_); (case h1 => exact fun _ _ => rfl)))
local macro_rules | `(tactic| walk_at "gCalN") => `(tactic| first
  | ((with_reducible refine wo_sortedS ?h1 ?h2 ?_ ?h4); (case h1 => rfl); (case h2 => with_reducible assumption); (case h4 => rfl))
  | ((with_reducible refine' wo_c0 ?h1 ?h2 ?h3 ?h4 ?_ ?h6 ?h7 ?h8); (case h1 => with_reducible assumption); (case h2 => with_reducible assumption); (case h3 => first | decide | exact Nat.le_refl _ | omega); (case h4 => rfl); (case h6 => decide); (case h7 => rfl); (case h8 => rfl))
  | ((with_reducible refine' wo_c1 ?h1 ?h2 ?h3 ?h4 ?_ ?h6 ?h7 ?h8); (case h1 => with_reducible assumption); (case h2 => with_reducible assumption); (case h3 => first | decide | exact Nat.le_refl _ | omega); (case h4 => rfl); (case h6 => decide); (case h7 => rfl); (case h8 => rfl))
  | ((with_reducible refine wo_len ?h1 ?h2 ?_ ?h4); (case h1 => rfl); (case h2 => with_reducible assumption); (case h4 => rfl))
  | ((with_reducible refine wo_min2 rfl ?h1 ?h2 ?_ ?h4 ?h5); (case h1 => rfl); (case h2 => with_reducible assumption); (case h4 => rfl); (case h5 => rfl))
  | ((with_reducible refine wo_max2 rfl ?h1 ?h2 ?_ ?h4 ?h5); (case h1 => rfl); (case h2 => with_reducible assumption); (case h4 => rfl); (case h5 => rfl))
  | ((with_reducible refine wo_abs ?h1 ?h2 ?_ ?h4); (case h1 => rfl); (case h2 => with_reducible assumption); (case h4 => rfl))
  | ((with_reducible refine wo_intI ?h1 ?h2 ?_ ?h4); (case h1 => rfl); (case h2 => with_reducible assumption); (case h4 => rfl))
  | ((have hmode : PtMode := by with_reducible assumption); (with_reducible refine wo_tupleF ?h1 ?h2 ?_ ?h4); (case h1 => rfl); (case h2 => with_reducible assumption); (case h4 => rfl))
  | ((with_reducible refine wo_tuple ?h1 ?h2 ?_ ?h4); (case h1 => rfl); (case h2 => with_reducible assumption); (case h4 => rfl))
  | ((with_reducible refine wo_listR1 rfl ?h1 ?h2 ?h3 ?h5 ?_ ?h4 ?h6); (case h1 => rfl); (case h2 => with_reducible assumption); (case h3 => rfl); (case h5 => with_reducible assumption); (case h4 => rfl); (case h6 => rfl))
  | ((with_reducible refine wo_list ?h1 ?h2 ?_ ?h4); (case h1 => rfl); (case h2 => with_reducible assumption); (case h4 => rfl))
  | ((with_reducible refine wo_all ?h0 ?h1 ?h2 ?_ ?h4); (case h0 => rfl); (case h1 => rfl); (case h2 => with_reducible assumption); (case h4 => rfl))
  | ((with_reducible refine wo_isi2 ?h1 ?h2 ?_ ?h4 ?h5); (case h1 => rfl); (case h2 => with_reducible assumption); (case h4 => rfl); (case h5 => rfl)))
local macro_rules | `(tactic| walk_at "gCalA") => `(tactic| first
  | ((with_reducible refine' wo_dpop ?h1 ?h2 ?h3 ?h4 ?h5 ?h6 ?_ ?h8 ?h9 ?h10 ?h11); (case h1 => with_reducible assumption); (case h2 => with_reducible assumption); (case h5 => walk_at "key"); (case h3 => rfl); (case h4 => exact kN); (case h6 => rfl); (case h8 => exact fun t ht => pe_bm PySem.F.plainAttrs_list PySem.F.slot_list_pop PySem.F.type_list_pop mt_popAt ht (pa_cons pe_int pa_nil)); (case h9 => walk_at "vis"); (case h10 => decide); (case h11 => decide))
  | ((with_reducible refine' wo_append ?h1 ?h2 ?_ ?h4 ?h5 ?h6); (case h1 => with_reducible assumption); (case h2 => exact ⟨_, rfl⟩); (case h4 => exact pe_slot (by with_reducible assumption)); (case h5 => exact pe_bm PySem.F.plainAttrs_list PySem.F.slot_list_append PySem.F.type_list_append mt_append (pe_slot (by with_reducible assumption)) pa_w); (case h6 => rfl))
  | ((with_reducible refine' wo_insert ?h2 ?_ ?h4 ?h5 ?h6 ?h7); (case h4 => rfl); (case h5 => exact pe_bm PySem.F.plainAttrs_list PySem.F.slot_list_insert PySem.F.type_list_insert mt_insert (pe_slot (by with_reducible assumption)) pa_w); (case h2 => exact ⟨_, rfl⟩); (case h6 => rfl); (case h7 => rfl))
  | ((with_reducible refine' wo_popAt ?h1 ?_ ?h3 ?h4); (case h3 => exact pe_bm PySem.F.plainAttrs_list PySem.F.slot_list_pop PySem.F.type_list_pop mt_popAt (pe_slot (by with_reducible assumption)) pa_w); (case h1 => exact ⟨_, rfl⟩); (case h4 => rfl))
  | ((have hmode : PtMode := by with_reducible assumption); (with_reducible refine wo_tix ?_ ?h2 ?h3 ?h4 ?h5); (case h2 => rfl); (case h3 => rfl); (case h4 => rfl); (case h5 => rfl))
  | ((with_reducible refine' wo_indexI ?_ ?h5 ?h6); (case h5 => exact pe_bm PySem.F.plainAttrs_list PySem.F.slot_list_index PySem.F.type_list_index mt_index pe_w pa_w); (case h6 => rfl))
  | ((with_reducible refine' wo_pop ?h1 ?h2 ?h3 ?_ ?h5); (case h1 => rfl); (case h5 => exact pe_bm0 PySem.F.plainAttrs_list PySem.F.slot_list_pop PySem.F.type_list_pop mt_pop (pe_slot (by with_reducible assumption)))))
local macro_rules | `(tactic| walk_at "gWO") => `(tactic| first
  | with_reducible refine wo_not ?_
  | with_reducible refine wo_if ?_
  | with_reducible refine wo_lst ?_
  | with_reducible refine wo_tup ?_)
local macro_rules | `(tactic| walk_at "gWT") => `(tactic| first
  | ((with_reducible refine' wt_dne ?h1 ?h2 ?h3 ?h4 ?h5 ?h6 ?_ ?h9 ?h10 ?h11); (case h1 => with_reducible assumption); (case h2 => with_reducible assumption); (case h5 => walk_at "key"); (case h3 => rfl); (case h4 => exact kN); (case h6 => rfl); (case h9 => walk_at "vis"); (case h10 => decide); (case h11 => decide))
  | with_reducible refine wt_not ?_
  | with_reducible refine wt_bool ?_
  | ((with_reducible refine wt_chain ?_ ?h2); (case h2 => with_unfolding_all rfl))
  | ((with_reducible refine wt_cmpD ?h1 ?_); (case h1 => walk_at "mark"))
  | ((with_reducible refine wt_val ?_ ?h2); (case h2 => exact fun _ => rfl)))
local macro_rules | `(tactic| walk_at "gWW") => `(tactic| first
  | with_reducible refine ww_and ?_
  | with_reducible refine ww_and1 ?_
  | with_reducible refine ww_or ?_
  | with_reducible refine ww_or1 ?_)
local macro_rules | `(tactic| walk_at "gWA") => `(tactic| first
  | ((with_reducible refine wa_star ?_ ?h2); (case h2 => rfl))
  | ((with_reducible refine wa_cons ?_ ?h2); (case h2 => rfl))
  | with_reducible refine wa_nil ?_)
local macro_rules | `(tactic| walk_at "rest") => `(tactic| first
  | with_reducible refine wvs_cons ?_
  | with_reducible refine wvs_nil ?_
  | with_reducible refine wp_none ?_
  | with_reducible refine wp_some ?_
  | ((with_reducible refine' wtc_link ?h1 ?_); (case h1 => walk_at "ci"))
  | ((with_reducible refine' wtc_last ?h1 ?_); (case h1 => walk_at "ci")))
local macro_rules | `(tactic| walk_at "d") => `(tactic| first
  | ((with_reducible refine gWSs ?_); walk_at "gWSs")
  | ((with_reducible refine gWS ?_); walk_at "gWS")
  | ((with_reducible refine gWG ?_); walk_at "gWG")
  | ((with_reducible refine gENm ?_); walk_at "gENm")
  | ((with_reducible refine gWE ?_); walk_at "gWE")
  | ((with_reducible refine gName ?_); walk_at "gName")
  | ((with_reducible refine gCon ?_); walk_at "gCon")
  | ((with_reducible refine gBin ?_); walk_at "gBin")
  | ((with_reducible refine gBool ?_); walk_at "gBool")
  | ((with_reducible refine gCmp ?_); walk_at "gCmp")
  | ((with_reducible refine gSub ?_); walk_at "gSub")
  | ((with_reducible refine gCalN ?_); walk_at "gCalN")
  | ((with_reducible refine gCalA ?_); walk_at "gCalA")
  | ((with_reducible refine gWO ?_); walk_at "gWO")
  | ((with_reducible refine gWT ?_); walk_at "gWT")
  | ((with_reducible refine gWW ?_); walk_at "gWW")
  | ((with_reducible refine gWA ?_); walk_at "gWA")
  | walk_at "rest"
  | walk_at "ob")
local macro_rules | `(tactic| walk_at "go") => `(tactic| repeat walk_at "d")

open PyProof.Rows
def dd_is_whole : He.DefD := ⟨("is_whole", none), "is_whole", "is_whole", defArgs s_is_whole, defBody s_is_whole, defScope s_is_whole, [], []⟩
def dd_is_number : He.DefD := ⟨("is_number", none), "is_number", "is_number", defArgs s_is_number, defBody s_is_number, defScope s_is_number, [], []⟩
def dd_need_labels : He.DefD := ⟨("need_labels", none), "need_labels", "need_labels", defArgs s_need_labels, defBody s_need_labels, defScope s_need_labels, [], []⟩
def dd_is_state_by : He.DefD := ⟨("is_state_by", none), "is_state_by", "is_state_by", defArgs s_is_state_by, defBody s_is_state_by, defScope s_is_state_by, [], []⟩
def dd_need_state : He.DefD := ⟨("need_state", none), "need_state", "need_state", defArgs s_need_state, defBody s_need_state, defScope s_need_state, [], []⟩
def dd_need_place : He.DefD := ⟨("need_place", none), "need_place", "need_place", defArgs s_need_place, defBody s_need_place, defScope s_need_place, [], []⟩
def dd_gap_by : He.DefD := ⟨("gap_by", none), "gap_by", "gap_by", defArgs s_gap_by, defBody s_gap_by, defScope s_gap_by, [], []⟩
def dd_tight_place : He.DefD := ⟨("tight_place", none), "tight_place", "tight_place", defArgs s_tight_place, defBody s_tight_place, defScope s_tight_place, [], []⟩
def dd_halfway : He.DefD := ⟨("halfway", none), "halfway", "halfway", defArgs s_halfway, defBody s_halfway, defScope s_halfway, [], []⟩
def dd_law_begun : He.DefD := ⟨("_law_begun", none), "_law_begun", "_law_begun", defArgs s_law_begun, defBody s_law_begun, defScope s_law_begun, [], []⟩
def dd_law_blended : He.DefD := ⟨("_law_blended", none), "_law_blended", "_law_blended", defArgs s_law_blended, defBody s_law_blended, defScope s_law_blended, [], []⟩
def dd_law_draw : He.DefD := ⟨("_law_draw", none), "_law_draw", "_law_draw", defArgs s_law_draw, defBody s_law_draw, defScope s_law_draw, [], []⟩
def dd_law_pick : He.DefD := ⟨("_law_pick", none), "_law_pick", "_law_pick", defArgs s_law_pick, defBody s_law_pick, defScope s_law_pick, [], []⟩
def dd_law_mixed : He.DefD := ⟨("_law_mixed", none), "_law_mixed", "_law_mixed", defArgs s_law_mixed, defBody s_law_mixed, defScope s_law_mixed, [], []⟩
def dd_law_is_whole : He.DefD := ⟨("_law_is_whole", none), "_law_is_whole", "_law_is_whole", defArgs s_law_is_whole, defBody s_law_is_whole, defScope s_law_is_whole, [], []⟩
def dd_law_mv_is_state : He.DefD := ⟨("_law_mv_is_state", none), "_law_mv_is_state", "_law_mv_is_state", defArgs s_law_mv_is_state, defBody s_law_mv_is_state, defScope s_law_mv_is_state, [], []⟩
def dd_law_mv_drawn : He.DefD := ⟨("_law_mv_drawn", none), "_law_mv_drawn", "_law_mv_drawn", defArgs s_law_mv_drawn, defBody s_law_mv_drawn, defScope s_law_mv_drawn, [], []⟩
def dd_law_k23_goes_on : He.DefD := ⟨("_law_k23_goes_on", none), "_law_k23_goes_on", "_law_k23_goes_on", defArgs s_law_k23_goes_on, defBody s_law_k23_goes_on, defScope s_law_k23_goes_on, [], []⟩
def dd_law_k23_drawn : He.DefD := ⟨("_law_k23_drawn", none), "_law_k23_drawn", "_law_k23_drawn", defArgs s_law_k23_drawn, defBody s_law_k23_drawn, defScope s_law_k23_drawn, [], []⟩
def dd_law_k23_kept : He.DefD := ⟨("_law_k23_kept", none), "_law_k23_kept", "_law_k23_kept", defArgs s_law_k23_kept, defBody s_law_k23_kept, defScope s_law_k23_kept, [], []⟩
def dd_law_k23_stuck : He.DefD := ⟨("_law_k23_stuck", none), "_law_k23_stuck", "_law_k23_stuck", defArgs s_law_k23_stuck, defBody s_law_k23_stuck, defScope s_law_k23_stuck, [], []⟩
def dd_law : He.DefD := ⟨("law", none), "law", "law", defArgs s_law, defBody s_law, defScope s_law, [], []⟩
def fnL : List He.DefD := [dd_is_whole, dd_is_number, dd_need_labels, dd_is_state_by, dd_need_state, dd_need_place, dd_gap_by, dd_tight_place, dd_halfway, dd_law_begun, dd_law_blended, dd_law_draw, dd_law_pick, dd_law_mixed, dd_law_is_whole, dd_law_mv_is_state, dd_law_mv_drawn, dd_law_k23_goes_on, dd_law_k23_drawn, dd_law_k23_kept, dd_law_k23_stuck, dd_law]
def faL : List He.Fa := [.glo "is_whole", .glo "is_number", .glo "need_labels", .glo "is_state_by", .glo "need_state", .glo "need_place", .glo "gap_by", .glo "tight_place", .glo "halfway", .glo "_law_begun", .glo "_law_blended", .glo "_law_draw", .glo "_law_pick", .glo "_law_mixed", .glo "_law_is_whole", .glo "_law_mv_is_state", .glo "_law_mv_drawn", .glo "_law_k23_goes_on", .glo "_law_k23_drawn", .glo "_law_k23_kept", .glo "_law_k23_stuck", .glo "law", .free "abs", .free "all", .free "bool", .free "int", .free "isinstance", .free "len", .free "list", .free "min", .free "range", .free "sorted", .free "tuple", .free "zip", .int "MOST_LEFT" G_MOST_LEFT, .int "MOST_NUMBER" G_MOST_NUMBER]
def looseL : List Str := ["CopyError", "BadLeft", "BadMany", "BadPlace", "BadState", "MOST_NUMBER", "is_whole", "is_number", "MOST_LEFT", "need_labels", "is_state_by", "need_state", "need_place", "gap_by", "tight_place", "halfway", "_law_begun", "_law_blended", "_law_draw", "_law_pick", "_law_mixed", "_law_is_whole", "_law_mv_is_state", "_law_mv_drawn", "_law_k23_goes_on", "_law_k23_drawn", "_law_k23_kept", "_law_k23_stuck"]
abbrev RR : PySem.W.OpenRow := PySem.W.OpenLaw.row PySem.Challenge.rw_asifcopied_k23_whole_no_move_or_one_forc
abbrev hkL : PySem.W.Hook := He.hookD 4 faL fnL
def obL (s : PySem.W.SharedT) : He.AlD := He.obsDG 4 faL fnL (HandSHeadRun.getT s)
theorem obL_eq (s : PySem.W.SharedT) : obL s = hkL.obs s.abs := He.obsDG_eq (HandSHeadRun.getT_eq s)
theorem runL (w : World) : HandSHeadRun.RunEq RR (PySem.W.view RR.prog [32]) hkL obL 4000 looseL w := by
  intro os
  kernel_rfl
theorem fzL {K : PySem.W.Frag} {h : Heap} {mg : Str → Option Value} (X : K.In h) (G : h.Ns mainGlobals mg) (c : He.SaysD faL fnL K) : Fz K mg where
  d_is_whole := by
    obtain ⟨fd, F⟩ := c.def_ 0 (d := dd_is_whole) rfl
    exact ⟨_, fd, F, He.glo_ok X G (c.fact 0 (f := .glo "is_whole") rfl), F.bindsN fun _ _ _ _ _ _ us hl => match us, hl with | [_], _ => rfl⟩
  d_is_number := by
    obtain ⟨fd, F⟩ := c.def_ 1 (d := dd_is_number) rfl
    exact ⟨_, fd, F, He.glo_ok X G (c.fact 1 (f := .glo "is_number") rfl), F.bindsN fun _ _ _ _ _ _ us hl => match us, hl with | [_, _], _ => rfl⟩
  d_need_labels := by
    obtain ⟨fd, F⟩ := c.def_ 2 (d := dd_need_labels) rfl
    exact ⟨_, fd, F, He.glo_ok X G (c.fact 2 (f := .glo "need_labels") rfl), F.bindsN fun _ _ _ _ _ _ us hl => match us, hl with | [_], _ => rfl⟩
  d_is_state_by := by
    obtain ⟨fd, F⟩ := c.def_ 3 (d := dd_is_state_by) rfl
    exact ⟨_, fd, F, He.glo_ok X G (c.fact 3 (f := .glo "is_state_by") rfl), F.bindsN fun _ _ _ _ _ _ us hl => match us, hl with | [_, _], _ => rfl⟩
  d_need_state := by
    obtain ⟨fd, F⟩ := c.def_ 4 (d := dd_need_state) rfl
    exact ⟨_, fd, F, He.glo_ok X G (c.fact 4 (f := .glo "need_state") rfl), F.bindsN fun _ _ _ _ _ _ us hl => match us, hl with | [_, _], _ => rfl⟩
  d_need_place := by
    obtain ⟨fd, F⟩ := c.def_ 5 (d := dd_need_place) rfl
    exact ⟨_, fd, F, He.glo_ok X G (c.fact 5 (f := .glo "need_place") rfl), F.bindsN fun _ _ _ _ _ _ us hl => match us, hl with | [_, _], _ => rfl⟩
  d_gap_by := by
    obtain ⟨fd, F⟩ := c.def_ 6 (d := dd_gap_by) rfl
    exact ⟨_, fd, F, He.glo_ok X G (c.fact 6 (f := .glo "gap_by") rfl), F.bindsN fun _ _ _ _ _ _ us hl => match us, hl with | [_, _, _], _ => rfl⟩
  d_tight_place := by
    obtain ⟨fd, F⟩ := c.def_ 7 (d := dd_tight_place) rfl
    exact ⟨_, fd, F, He.glo_ok X G (c.fact 7 (f := .glo "tight_place") rfl), F.bindsN fun _ _ _ _ _ _ us hl => match us, hl with | [_, _, _], _ => rfl⟩
  d_halfway := by
    obtain ⟨fd, F⟩ := c.def_ 8 (d := dd_halfway) rfl
    exact ⟨_, fd, F, He.glo_ok X G (c.fact 8 (f := .glo "halfway") rfl), F.bindsN fun _ _ _ _ _ _ us hl => match us, hl with | [_, _, _], _ => rfl⟩
  d_law_begun := by
    obtain ⟨fd, F⟩ := c.def_ 9 (d := dd_law_begun) rfl
    exact ⟨_, fd, F, He.glo_ok X G (c.fact 9 (f := .glo "_law_begun") rfl), F.bindsN fun _ _ _ _ _ _ us hl => match us, hl with | [_], _ => rfl⟩
  d_law_blended := by
    obtain ⟨fd, F⟩ := c.def_ 10 (d := dd_law_blended) rfl
    exact ⟨_, fd, F, He.glo_ok X G (c.fact 10 (f := .glo "_law_blended") rfl), F.bindsN fun _ _ _ _ _ _ us hl => match us, hl with | [_], _ => rfl⟩
  d_law_draw := by
    obtain ⟨fd, F⟩ := c.def_ 11 (d := dd_law_draw) rfl
    exact ⟨_, fd, F, He.glo_ok X G (c.fact 11 (f := .glo "_law_draw") rfl), F.bindsN fun _ _ _ _ _ _ us hl => match us, hl with | [_, _], _ => rfl⟩
  d_law_pick := by
    obtain ⟨fd, F⟩ := c.def_ 12 (d := dd_law_pick) rfl
    exact ⟨_, fd, F, He.glo_ok X G (c.fact 12 (f := .glo "_law_pick") rfl), F.bindsN fun _ _ _ _ _ _ us hl => match us, hl with | [_, _], _ => rfl⟩
  d_law_mixed := by
    obtain ⟨fd, F⟩ := c.def_ 13 (d := dd_law_mixed) rfl
    exact ⟨_, fd, F, He.glo_ok X G (c.fact 13 (f := .glo "_law_mixed") rfl), F.bindsN fun _ _ _ _ _ _ us hl => match us, hl with | [_, _], _ => rfl⟩
  d_law_is_whole := by
    obtain ⟨fd, F⟩ := c.def_ 14 (d := dd_law_is_whole) rfl
    exact ⟨_, fd, F, He.glo_ok X G (c.fact 14 (f := .glo "_law_is_whole") rfl), F.bindsN fun _ _ _ _ _ _ us hl => match us, hl with | [_], _ => rfl⟩
  d_law_mv_is_state := by
    obtain ⟨fd, F⟩ := c.def_ 15 (d := dd_law_mv_is_state) rfl
    exact ⟨_, fd, F, He.glo_ok X G (c.fact 15 (f := .glo "_law_mv_is_state") rfl), F.bindsN fun _ _ _ _ _ _ us hl => match us, hl with | [_, _], _ => rfl⟩
  d_law_mv_drawn := by
    obtain ⟨fd, F⟩ := c.def_ 16 (d := dd_law_mv_drawn) rfl
    exact ⟨_, fd, F, He.glo_ok X G (c.fact 16 (f := .glo "_law_mv_drawn") rfl), F.bindsN fun _ _ _ _ _ _ us hl => match us, hl with | [_, _, _], _ => rfl⟩
  d_law_k23_goes_on := by
    obtain ⟨fd, F⟩ := c.def_ 17 (d := dd_law_k23_goes_on) rfl
    exact ⟨_, fd, F, He.glo_ok X G (c.fact 17 (f := .glo "_law_k23_goes_on") rfl), F.bindsN fun _ _ _ _ _ _ us hl => match us, hl with | [_, _, _], _ => rfl⟩
  d_law_k23_drawn := by
    obtain ⟨fd, F⟩ := c.def_ 18 (d := dd_law_k23_drawn) rfl
    exact ⟨_, fd, F, He.glo_ok X G (c.fact 18 (f := .glo "_law_k23_drawn") rfl), F.bindsN fun _ _ _ _ _ _ us hl => match us, hl with | [_, _, _], _ => rfl⟩
  d_law_k23_kept := by
    obtain ⟨fd, F⟩ := c.def_ 19 (d := dd_law_k23_kept) rfl
    exact ⟨_, fd, F, He.glo_ok X G (c.fact 19 (f := .glo "_law_k23_kept") rfl), F.bindsN fun _ _ _ _ _ _ us hl => match us, hl with | [_, _, _, _], _ => rfl⟩
  d_law_k23_stuck := by
    obtain ⟨fd, F⟩ := c.def_ 20 (d := dd_law_k23_stuck) rfl
    exact ⟨_, fd, F, He.glo_ok X G (c.fact 20 (f := .glo "_law_k23_stuck") rfl), F.bindsN fun _ _ _ _ _ _ us hl => match us, hl with | [_, _, _, _], _ => rfl⟩
  d_law := by
    obtain ⟨fd, F⟩ := c.def_ 21 (d := dd_law) rfl
    exact ⟨_, fd, F, He.glo_ok X G (c.fact 21 (f := .glo "law") rfl), F.bindsN fun _ _ _ _ _ _ us hl => match us, hl with | [_], _ => rfl⟩
  b_abs := He.free_ok X G (c.fact 22 (f := .free "abs") rfl)
  b_all := He.free_ok X G (c.fact 23 (f := .free "all") rfl)
  b_bool := He.free_ok X G (c.fact 24 (f := .free "bool") rfl)
  b_int := He.free_ok X G (c.fact 25 (f := .free "int") rfl)
  b_isinstance := He.free_ok X G (c.fact 26 (f := .free "isinstance") rfl)
  b_len := He.free_ok X G (c.fact 27 (f := .free "len") rfl)
  b_list := He.free_ok X G (c.fact 28 (f := .free "list") rfl)
  b_min := He.free_ok X G (c.fact 29 (f := .free "min") rfl)
  b_range := He.free_ok X G (c.fact 30 (f := .free "range") rfl)
  b_sorted := He.free_ok X G (c.fact 31 (f := .free "sorted") rfl)
  b_tuple := He.free_ok X G (c.fact 32 (f := .free "tuple") rfl)
  b_zip := He.free_ok X G (c.fact 33 (f := .free "zip") rfl)
  g_MOST_LEFT := He.int_ok X G (c.fact 34 (f := .int "MOST_LEFT" G_MOST_LEFT) rfl)
  g_MOST_NUMBER := He.int_ok X G (c.fact 35 (f := .int "MOST_NUMBER" G_MOST_NUMBER) rfl)
theorem sp_law {K : PySem.W.Frag} {H : Hp} {a : Addr} {ns : List Int} (hn : ns.length ≤ 1000) (h : SqL K H a (ns.map V.int)) : toSp K 0 ct_law [.ref a] H (fun v _ => v = .bl true) (fun _ _ _ => False) := by
  have fin : ∀ d ds', ct_law.post ns d ds' → ∀ v Z' H' G F', Reps K Z' H' ds' ([V.ref a].take 0) F' → Rep K Z' H' d v G → v = .bl true := by
    intro d ds' hd v Z' H' G F' _ r
    have hd : d = .bl true := hd
    subst hd
    cases r
    rfl
  rcases h with h | h
  · refine ⟨fun b => b = a, [.fz (ns.map D.int)], [], Reps.cons (show Rep K (fun b => b = a) H (.fz (ns.map D.int)) (.ref a) [] from .fz (.inl ⟨rfl, h⟩) (Reps.ofInts ns)) .nil, List.nodup_nil, (fun x hx => nomatch hx), fun b hb => ?_, ns, ⟨rfl, hn⟩, fun d ds' hd v Z' H' G F' r1 r2 _ _ _ _ => fin d ds' hd v Z' H' G F' r1 r2⟩
    subst hb
    rcases h with h | ⟨o, h⟩
    · exact ⟨_, h⟩
    · exact ⟨_, h⟩
  · exact ⟨fun _ => False, [.fz (ns.map D.int)], [], Reps.cons (show Rep K (fun _ => False) H (.fz (ns.map D.int)) (.ref a) [] from .fz (.inr fun _ => .inr h) (Reps.ofInts ns)) .nil, List.nodup_nil, (fun x hx => nomatch hx), (fun _ h => h.elim), ns, ⟨rfl, hn⟩, fun d ds' hd v Z' H' G F' r1 r2 _ _ _ _ => fin d ds' hd v Z' H' G F' r1 r2⟩
theorem law_run {P : Program} {w : World} {K : PySem.W.Frag} {h : Heap} {mg : Str → Option Value} {f : Addr} (X : K.In h) (G : h.Ns mainGlobals mg) (hfa : mg ("law" : Str) = some (.ref f)) (c : He.SaysD faL fnL K) :
    ∃ fd : FuncData, (∀ (s : Shared) (v : Value), BindsTo s fd ⟨[v], []⟩ [("script", v)]) ∧ ∀ base : Heap, K.In base → base.Ns mainGlobals mg → FnOk P w K mg base CX0 7 f fd ["script"] (toSp K 0 ct_law) := by
  have Z := fzL X G c
  obtain ⟨fd, F⟩ := c.def_ 21 (d := dd_law) rfl
  have e := hfa.symm.trans (He.glo_ok X G (c.fact 21 (f := .glo "law") rfl))
  cases e
  have b := FunD.bindsA (ps := ["script"]) F fun _ _ _ _ _ _ us hl => match us, hl with | [_], _ => rfl
  exact ⟨fd, fun s v => b s [v] rfl, fun base _ _ => ok_law Z F⟩

end K23
open PySem PySem.W PySem.Calls PyProof.Rows
theorem PySem.Challenge.cw_asifcopied_k23_whole_no_move_or_one_forc_holds : PySem.Challenge.rw_asifcopied_k23_whole_no_move_or_one_forc.Holds := by
  w_on; o_law
  refine HandSHeadRun.head_any (r := OpenLaw.row PySem.Challenge.rw_asifcopied_k23_whole_no_move_or_one_forc) (q := view (OpenLaw.row PySem.Challenge.rw_asifcopied_k23_whole_no_move_or_one_forc).prog [32]) (H := K23.hkL) (ob := K23.obL) (M := 4000) (loose := K23.looseL) (d := HandSHeadRun.topDef (OpenLaw.row PySem.Challenge.rw_asifcopied_k23_whole_no_move_or_one_forc).prog 32) (kwd := []) K23.obL_eq
    (by kernel_rfl) (fun s => by kernel_rfl) K23.runL (by kernel_rfl) (by kernel_rfl) (by kernel_rfl) (by rfl) (by first | assumption | decide +kernel) (by decide +kernel) ⟨rfl, rfl, rfl, rfl, rfl, by decide +kernel⟩ ?hw ?hc
  case hw => w_witness2
  case hc =>
    refine L2.walk_ofE (l := PySem.Challenge.rw_asifcopied_k23_whole_no_move_or_one_forc) (n := 63) (k := 7) (x := "script") (CX := L2.CX0) rfl (by decide) (by kernel_rfl) ⟨rfl, by decide, by decide⟩ ?F (fun _ _ _ _ z => z)
    intro w mg fa h Y G hmg0
    obtain ⟨K, KX, c⟩ := Y
    have hmg : mg ("law" : PySem.Str) = some (.ref fa) := by
      have e : (HandSHeadRun.topDef (OpenLaw.row PySem.Challenge.rw_asifcopied_k23_whole_no_move_or_one_forc).prog 32).name = ("law" : PySem.Str) := by kernel_rfl
      rw [← e]
      exact hmg0
    obtain ⟨fd, hb, hF⟩ := K23.law_run (P := (PySem.Challenge.rw_asifcopied_k23_whole_no_move_or_one_forc).prog) (w := w) KX G hmg c
    exact ⟨K, fd, DL.toSp K 0 K23.ct_law, KX, hb, fun H a ns hl _ hS => K23.sp_law (Nat.le_trans hl (by decide)) hS, hF⟩



