import PyProof.Rows.All
import Wide.All
import OpenK.AllK
import Wide.FinOn
import HandS.ForMost
import HandS.ForExc
import HandS.Flow
import HandS.Wide
import HandS.Deep
import HandS.Zip
import HandS.Walk
import HandS.SortInts
import HandS.Lambda
import HandS.Comp
import HandS.More
import HandS.Strs
import HandS.IsInst
import HandS.TupAny
import HandS.Style
import HandS.TupMul
import KE.KIndexOf
import KE.GoesMore
import KE.GoesEnum
import HandS.Defaults
import HandS.SortOrd
import PyProof.TupleOfSeq
import KE.OsSort
import HandS.Star
import HandS.Conv
import HandS.Exc
import KE.KExcIs
import HandS.ExcOwn
import HandS.HeadHook1
import HandS.ExcIs
import HandS.DictComp
import HandS.HeadHook4
import HandS.HeadWalk
import HandS.SetFor
import KE.KDictZip
import HandS.OwnIter
import HandS.ExcInit
import HandS.ExcField
import HandS.ExcSuper
import KE.KExcSuper
import HandS.Spec
import PyProof.Rows.SeqMore
import HandS.CallLocal
import PyProof.ReprRoads
import PyProof.ReprBulk
import PyProof.ListNew
import HandS.Ends
import HandS.Words
import HandS.WordsExc
import HandS.Head0
import HandS.Head1
import HandS.Head2
import HandS.HeadEnd
import HandS.HeadHook2
import KE.KStateDown
import PySem.Challenge.RW_asifcopied_k21_whole_long_rows
set_option Elab.async false
set_option linter.all false
set_option maxRecDepth 100000
set_option maxHeartbeats 4000000
namespace DL
open PySem PySem.Spec L2
abbrev Sl := List (Option V)
/-- the tables of code objects that the law's lambdas are found in, and the names that these bear -/
class LamT where
  tk : List (Addr × Str)
  /-- the classes' addresses -/
  ob : Str → Addr
variable [LamT]
/-- no table of code objects -/
def NTb (o : HO) : Prop := ∀ ps, o ≠ .tbl ps
theorem ntb_lst {vs : List V} : NTb (.lst vs) := fun ps z => nomatch z
theorem ntb_dK {kvs : List (Key × V)} : NTb (.dK kvs) := fun ps z => nomatch z
theorem ntb_ins {C dx : Addr} {fs : List (Str × V)} : NTb (.ins C dx fs) := fun ps z => nomatch z
theorem ntb_ext {φ : Heap → Prop} : NTb (.ext φ) := fun ps z => nomatch z
theorem ntb_xd {fs : List (Str × V)} : NTb (.xd fs) := fun ps z => nomatch z
/-- nothing stands at a, or a table -/
def Nw (H : Hp) (a : Addr) : Prop := ∀ o, H a = some o → ¬ NTb o
theorem nw_of {H : Hp} {a : Addr} (h : H a = none) : Nw H a := fun o e => by
  rw [h] at e
  cases e

/-- the object at a: an exception of the class cls, its dict d -/
def exT (a : Addr) (cls : Value) (d : Option Addr) : HO := .ext fun h => ∃ ob, h.get? a = some ob ∧ ob.cls = cls ∧ ob.dict = d ∧ ∃ vs, ob.data = .fields vs
inductive D where
  | non | bl (b : Bool) | int (i : Int) | str (x : Str)
  | tup (ds : List D) | pt (ds : List D) | lst (ds : List D) | fz (ds : List D)
  | dic (ks : List Key) (ds : List D)
  | fd (ks : List Key) (ds : List D)
  | obj (C : Addr) (fs : List Str) (ds : List D)
  | op (v : V)
  | exc (C : Addr)
  | exd (C : Addr) (fs : List (Str × V))
  | ow (a : Addr) (ds : List D)
  | fw (o : Addr → HO)
  | fo (C : Addr) (fs : List Str) (ds : List D)

mutual
inductive Rep (K : PySem.W.Frag) (Z : Addr → Prop) (H : Hp) : D → V → List Addr → Prop
  | non : Rep K Z H .non .non []
  | bl (b : Bool) : Rep K Z H (.bl b) (.bl b) []
  | int (i : Int) : Rep K Z H (.int i) (.int i) []
  | str (x : Str) : Rep K Z H (.str x) (.str x) []
  | tup {a : Addr} {ds : List D} {vs : List V} {F : List Addr} : SqT K H a vs → Reps K Z H ds vs F → Rep K Z H (.tup ds) (.ref a) F
  | pt {a : Addr} {ob : Obj} {ds : List D} {vs : List V} {F : List Addr} : H a = some (.frz ob (.tup vs)) → ob.dict = none → Reps K Z H ds vs F → Rep K Z H (.pt ds) (.ref a) F
  | lst {a : Addr} {ds : List D} {vs : List V} {F : List Addr} : H a = some (.lst vs) → Reps K Z H ds vs F → Rep K Z H (.lst ds) (.ref a) (a :: F)
  | fz {a : Addr} {ds : List D} {vs : List V} : ((Z a ∧ Rd H a (.lst vs)) ∨ ∀ H', SqL K H' a vs) → Reps K Z H ds vs [] → Rep K Z H (.fz ds) (.ref a) []
  | dic {a : Addr} {ks : List Key} {ds : List D} {vs : List V} {F : List Addr} : H a = some (.dK (ks.zip vs)) → ks.length = vs.length → Reps K Z H ds vs F → Rep K Z H (.dic ks ds) (.ref a) (a :: F)
  | fd {a : Addr} {ks : List Key} {ds : List D} {vs : List V} : (Z a ∧ H a = some (.dK (ks.zip vs)) ∧ ks.length = vs.length) → Reps K Z H ds vs [] → Rep K Z H (.fd ks ds) (.ref a) []
  | obj {a C dx : Addr} {fs : List Str} {ds : List D} {vs : List V} {F : List Addr} : H a = some (.ins C dx (fs.zip vs)) → fs.length = vs.length → Reps K Z H ds vs F → Rep K Z H (.obj C fs ds) (.ref a) (a :: F)
  | op (v : V) : Rep K Z H (.op v) v []
  | exc {a C : Addr} : H a = some (exT a (.ref C) none) → Rep K Z H (.exc C) (.ref a) [a]
  | exd {a d C : Addr} {fs : List (Str × V)} : H a = some (exT a (.ref C) (some d)) → H d = some (.xd fs) → Rep K Z H (.exd C fs) (.ref a) [a, d]
  | ow {a : Addr} {ds : List D} {vs : List V} {F : List Addr} : H a = some (.lst vs) → Reps K Z H ds vs F → Rep K Z H (.ow a ds) (.ref a) (a :: F)
  | fw {a : Addr} {o : Addr → HO} : Z a → H a = some (o a) → NTb (o a) → Rep K Z H (.fw o) (.ref a) []
  | fo {a C dx : Addr} {fs : List Str} {ds : List D} {vs : List V} : Z a → H a = some (.ins C dx (fs.zip vs)) → fs.length = vs.length → Reps K Z H ds vs [] → Rep K Z H (.fo C fs ds) (.ref a) []
inductive Reps (K : PySem.W.Frag) (Z : Addr → Prop) (H : Hp) : List D → List V → List Addr → Prop
  | nil : Reps K Z H [] [] []
  | cons {d : D} {v : V} {F : List Addr} {ds : List D} {vs : List V} {G : List Addr} : Rep K Z H d v F → Reps K Z H ds vs G → Reps K Z H (d :: ds) (v :: vs) (F ++ G)
end

/-- one step of the owned world -/
structure Stp (Z : Addr → Prop) (H : Hp) (F : List Addr) (Z' : Addr → Prop) (H' : Hp) (F' : List Addr) : Prop where
  z1 : ∀ a, Z a → Z' a
  z2 : ∀ a, Z' a → Z a ∨ a ∈ F ∨ Nw H a
  fr : ∀ a o, H a = some o → a ∉ F → NTb o → H' a = some o
  tb : LamX.Tabs LamT.tk H → LamX.Tabs LamT.tk H'
  th : ∀ a o, H a = some o → NTb o → ∃ o', H' a = some o' ∧ NTb o'
  f2 : ∀ a ∈ F', a ∈ F ∨ Nw H a
  tu : ∀ a xs, Rd H a (.tup xs) → Rd H' a (.tup xs)
  fl : ∀ a (u : HO), Z a → NTb u → H a = some u → H' a = some u
  ft : ∀ a o xs, H a = some (.frz o (.tup xs)) → H' a = some (.frz o (.tup xs))
/-- what keeps a representation -/
structure Kp (Z : Addr → Prop) (H : Hp) (Z' : Addr → Prop) (H' : Hp) : Prop where
  z1 : ∀ a, Z a → Z' a
  tu : ∀ a xs, Rd H a (.tup xs) → Rd H' a (.tup xs)
  fl : ∀ a (u : HO), Z a → NTb u → H a = some u → H' a = some u
  ft : ∀ a o xs, H a = some (.frz o (.tup xs)) → H' a = some (.frz o (.tup xs))
theorem Kp.rdl {Z : Addr → Prop} {H : Hp} {Z' : Addr → Prop} {H' : Hp} (k : Kp Z H Z' H') {a : Addr} {vs : List V} (z : Z a) (r : Rd H a (.lst vs)) : Rd H' a (.lst vs) :=
  r.elim (fun e => .inl (k.fl _ _ z ntb_lst e)) fun ⟨o, e⟩ => .inr ⟨o, k.fl _ _ z (fun _ q => nomatch q) e⟩
theorem Stp.kp {Z : Addr → Prop} {H : Hp} {F : List Addr} {Z' : Addr → Prop} {H' : Hp} {F' : List Addr} (s : Stp Z H F Z' H' F') : Kp Z H Z' H' := ⟨s.z1, s.tu, s.fl, s.ft⟩

section
variable {K : PySem.W.Frag} {Z Z1 Z2 Z' : Addr → Prop} {H H1 H2 H' : Hp} {F F1 F2 F' G G' R : List Addr}
theorem none_back (th : ∀ a o, H a = some o → NTb o → ∃ o', H' a = some o' ∧ NTb o') {a : Addr} (h : Nw H' a) : Nw H a := fun o e n => by
  obtain ⟨o', e', n'⟩ := th a o e n
  exact h o' e' n'
theorem Stp.refl : Stp Z H F Z H F :=
  ⟨fun _ h => h, fun _ h => .inl h, fun _ _ h _ _ => h, fun h => h, fun _ o h n => ⟨o, h, n⟩, fun _ h => .inl h, fun _ _ h => h, fun _ _ _ _ h => h, fun _ _ _ h => h⟩
theorem Stp.trans (a : Stp Z H F Z1 H1 F1) (b : Stp Z1 H1 F1 Z2 H2 F2) : Stp Z H F Z2 H2 F2 where
  z1 := fun x h => b.z1 x (a.z1 x h)
  z2 := fun x h => by
    rcases b.z2 x h with h | h | h
    · exact a.z2 x h
    · exact .inr (a.f2 x h)
    · exact .inr (.inr (none_back a.th h))
  fr := fun x o h hn ht => b.fr x o (a.fr x o h hn ht) (fun h1 => by
    rcases a.f2 x h1 with q | q
    · exact hn q
    · exact q _ h ht) ht
  tb := fun h => b.tb (a.tb h)
  th := fun x o h n => by
    obtain ⟨o1, h1, n1⟩ := a.th x o h n
    exact b.th x o1 h1 n1
  f2 := fun x h => by
    rcases b.f2 x h with h | h
    · exact a.f2 x h
    · exact .inr (none_back a.th h)
  tu := fun x xs h => b.tu x xs (a.tu x xs h)
  fl := fun x xs z n h => b.fl x xs (a.z1 x z) n (a.fl x xs z n h)
  ft := fun x o xs h => b.ft x o xs (a.ft x o xs h)
theorem Stp.sub (a : Stp Z H F Z1 H1 F1) (h : ∀ x ∈ F2, x ∈ F1) : Stp Z H F Z1 H1 F2 := ⟨a.z1, a.z2, a.fr, a.tb, a.th, fun x hx => a.f2 x (h x hx), a.tu, a.fl, a.ft⟩
theorem Stp.sup (a : Stp Z H F Z1 H1 F1) (h : ∀ x ∈ F, x ∈ F2) : Stp Z H F2 Z1 H1 F1 :=
  ⟨a.z1, fun x hx => (a.z2 x hx).imp_right (fun z => z.imp_left (h x)), fun x o e hn ht => a.fr x o e (fun q => hn (h x q)) ht, a.tb, a.th, fun x hx => (a.f2 x hx).imp_left (h x), a.tu, a.fl, a.ft⟩
/-- more that is owned and stays -/
theorem Stp.more (a : Stp Z H F Z1 H1 F1) (hF : ∀ x ∈ F, x ∈ F2) (h : ∀ x ∈ F', x ∈ F1 ∨ x ∈ F2) : Stp Z H F2 Z1 H1 F' :=
  ⟨a.z1, fun x hx => (a.z2 x hx).imp_right (fun z => z.imp_left (hF x)), fun x o e hn ht => a.fr x o e (fun q => hn (hF x q)) ht, a.tb, a.th, fun x hx => by
    rcases h x hx with q | q
    · exact (a.f2 x q).imp_left (hF x)
    · exact .inl q, a.tu, a.fl, a.ft⟩

mutual
theorem Rep.mem : ∀ {d : D} {v : V} {F : List Addr}, Rep K Z H d v F → ∀ a ∈ F, ∃ o, H a = some o ∧ NTb o
  | _, _, _, .non, a, h => nomatch h
  | _, _, _, .bl _, a, h => nomatch h
  | _, _, _, .int _, a, h => nomatch h
  | _, _, _, .str _, a, h => nomatch h
  | _, _, _, .tup _ r, a, h => Reps.mem r a h
  | _, _, _, .pt _ _ r, a, h => Reps.mem r a h
  | _, _, _, .lst e r, a, h => by
    rcases List.mem_cons.mp h with q | q
    · exact ⟨_, by rw [q]; exact e, ntb_lst⟩
    · exact Reps.mem r a q
  | _, _, _, .fz _ r, a, h => nomatch h
  | _, _, _, .fd _ r, a, h => nomatch h
  | _, _, _, .dic e _ r, a, h => by
    rcases List.mem_cons.mp h with q | q
    · exact ⟨_, by rw [q]; exact e, ntb_dK⟩
    · exact Reps.mem r a q
  | _, _, _, .obj e _ r, a, h => by
    rcases List.mem_cons.mp h with q | q
    · exact ⟨_, by rw [q]; exact e, ntb_ins⟩
    · exact Reps.mem r a q
  | _, _, _, .op _, a, h => nomatch h
  | _, _, _, .exc e, a, h => ⟨_, (List.mem_singleton.mp h) ▸ e, ntb_ext⟩
  | _, _, _, .exd e f, a, h => by
    rcases List.mem_cons.mp h with q | q
    · exact ⟨_, by rw [q]; exact e, ntb_ext⟩
    · exact ⟨_, by rw [List.mem_singleton.mp q]; exact f, ntb_xd⟩
  | _, _, _, .ow e r, a, h => by
    rcases List.mem_cons.mp h with q | q
    · exact ⟨_, by rw [q]; exact e, ntb_lst⟩
    · exact Reps.mem r a q
  | _, _, _, .fw _ _ _, a, h => nomatch h
  | _, _, _, .fo _ _ _ _, a, h => nomatch h
theorem Reps.mem : ∀ {ds : List D} {vs : List V} {F : List Addr}, Reps K Z H ds vs F → ∀ a ∈ F, ∃ o, H a = some o ∧ NTb o
  | _, _, _, .nil, a, h => nomatch h
  | _, _, _, .cons r rs, a, h => by
    rcases List.mem_append.mp h with q | q
    · exact Rep.mem r a q
    · exact Reps.mem rs a q
end


theorem SqT.kp {a : Addr} {vs : List V} (tu : ∀ a xs, Rd H a (.tup xs) → Rd H' a (.tup xs)) (h : SqT K H a vs) : SqT K H' a vs := by
  rcases h with h | h
  · exact .inl (tu _ _ h)
  · exact .inr h

mutual
theorem Rep.kp (kk : Kp Z H Z' H') :
    ∀ {d : D} {v : V} {F : List Addr}, Rep K Z H d v F → (∀ a ∈ F, ∀ o, NTb o → H a = some o → H' a = some o) → Rep K Z' H' d v F
  | _, _, _, .non, _ => .non
  | _, _, _, .bl b, _ => .bl b
  | _, _, _, .int i, _ => .int i
  | _, _, _, .str x, _ => .str x
  | _, _, _, .tup e r, h => .tup (SqT.kp kk.tu e) (Reps.kp kk r h)
  | _, _, _, .pt e d r, h => .pt (kk.ft _ _ _ e) d (Reps.kp kk r h)
  | _, _, _, .lst e r, h => .lst (h _ List.mem_cons_self _ ntb_lst e) (Reps.kp kk r fun a ha => h a (List.mem_cons_of_mem _ ha))
  | _, _, _, .fz e r, h => .fz (e.imp_left fun q => ⟨kk.z1 _ q.1, kk.rdl q.1 q.2⟩) (Reps.kp kk r fun a ha => nomatch ha)
  | _, _, _, .fd e r, h => .fd ⟨kk.z1 _ e.1, kk.fl _ _ e.1 ntb_dK e.2.1, e.2.2⟩ (Reps.kp kk r fun a ha => nomatch ha)
  | _, _, _, .dic e l r, h => .dic (h _ List.mem_cons_self _ ntb_dK e) l (Reps.kp kk r fun a ha => h a (List.mem_cons_of_mem _ ha))
  | _, _, _, .obj e l r, h => .obj (h _ List.mem_cons_self _ ntb_ins e) l (Reps.kp kk r fun a ha => h a (List.mem_cons_of_mem _ ha))
  | _, _, _, .op v, _ => .op v
  | _, _, _, .exc e, h => .exc (h _ List.mem_cons_self _ ntb_ext e)
  | _, _, _, .exd e f, h => .exd (h _ List.mem_cons_self _ ntb_ext e) (h _ (List.mem_cons_of_mem _ List.mem_cons_self) _ ntb_xd f)
  | _, _, _, .ow e r, h => .ow (h _ List.mem_cons_self _ ntb_lst e) (Reps.kp kk r fun a ha => h a (List.mem_cons_of_mem _ ha))
  | _, _, _, .fw z e n, _ => .fw (kk.z1 _ z) (kk.fl _ _ z n e) n
  | _, _, _, .fo z e l r, _ => .fo (kk.z1 _ z) (kk.fl _ _ z ntb_ins e) l (Reps.kp kk r fun a ha => nomatch ha)
theorem Reps.kp (kk : Kp Z H Z' H') :
    ∀ {ds : List D} {vs : List V} {F : List Addr}, Reps K Z H ds vs F → (∀ a ∈ F, ∀ o, NTb o → H a = some o → H' a = some o) → Reps K Z' H' ds vs F
  | _, _, _, .nil, _ => .nil
  | _, _, _, .cons r rs, h => .cons (Rep.kp kk r fun a ha => h a (List.mem_append_left _ ha)) (Reps.kp kk rs fun a ha => h a (List.mem_append_right _ ha))
end
theorem Rep.step {d : D} {v : V} (s : Stp Z H F Z' H' F') (r : Rep K Z H d v G) (h : ∀ a ∈ G, a ∉ F) : Rep K Z' H' d v G := r.kp s.kp fun a ha o nt e => s.fr a o e (h a ha) nt
theorem Reps.step {ds : List D} {vs : List V} (s : Stp Z H F Z' H' F') (r : Reps K Z H ds vs G) (h : ∀ a ∈ G, a ∉ F) : Reps K Z' H' ds vs G := r.kp s.kp fun a ha o nt e => s.fr a o e (h a ha) nt

/-! ### the slots -/
abbrev EnvT := List (Option D)
inductive EnvR (K : PySem.W.Frag) (Z : Addr → Prop) (H : Hp) : EnvT → Sl → List Addr → Prop
  | nil : EnvR K Z H [] [] []
  | no {E : EnvT} {o : Option V} {σ : Sl} {F : List Addr} : EnvR K Z H E σ F → EnvR K Z H (none :: E) (o :: σ) F
  | so {E : EnvT} {d : D} {v : V} {σ : Sl} {F G : List Addr} : Rep K Z H d v G → EnvR K Z H E σ F → EnvR K Z H (some d :: E) (some v :: σ) (G ++ F)

theorem EnvR.kp (kk : Kp Z H Z' H') :
    ∀ {E : EnvT} {σ : Sl} {F : List Addr}, EnvR K Z H E σ F → (∀ a ∈ F, ∀ o, NTb o → H a = some o → H' a = some o) → EnvR K Z' H' E σ F
  | _, _, _, .nil, _ => .nil
  | _, _, _, .no r, h => .no (EnvR.kp kk r h)
  | _, _, _, .so r rs, h => .so (r.kp kk fun a ha => h a (List.mem_append_left _ ha)) (EnvR.kp kk rs fun a ha => h a (List.mem_append_right _ ha))
theorem EnvR.step {E : EnvT} {σ : Sl} (s : Stp Z H F Z' H' F') (r : EnvR K Z H E σ G) (h : ∀ a ∈ G, a ∉ F) : EnvR K Z' H' E σ G := r.kp s.kp fun a ha o nt e => s.fr a o e (h a ha) nt
theorem EnvR.mem : ∀ {E : EnvT} {σ : Sl} {F : List Addr}, EnvR K Z H E σ F → ∀ a ∈ F, ∃ o, H a = Option.some o ∧ NTb o
  | _, _, _, .nil, a, h => nomatch h
  | _, _, _, .no r, a, h => EnvR.mem r a h
  | _, _, _, .so r rs, a, h => by
    rcases List.mem_append.mp h with q | q
    · exact Rep.mem r a q
    · exact EnvR.mem rs a q
theorem EnvR.len : ∀ {E : EnvT} {σ : Sl} {F : List Addr}, EnvR K Z H E σ F → E.length = σ.length
  | _, _, _, .nil => rfl
  | _, _, _, .no r => by rw [List.length_cons, List.length_cons, EnvR.len r]
  | _, _, _, .so _ r => by rw [List.length_cons, List.length_cons, EnvR.len r]
/-- a slot's tree, apart from the others -/
theorem EnvR.get : ∀ {E : EnvT} {σ : Sl} {F : List Addr} {i : Nat} {d : D}, EnvR K Z H E σ F → E[i]? = some (some d) →
    ∃ v G R, σ[i]? = some (some v) ∧ Rep K Z H d v G ∧ EnvR K Z H (E.set i none) σ R ∧ F.Perm (G ++ R)
  | _, _, _, _, _, .nil, e => by simp at e
  | _, _, _, 0, _, .no r, e => by simp at e
  | _, _, _, i + 1, _, .no r, e => by
    obtain ⟨v, G, R, h1, h2, h3, h4⟩ := EnvR.get r (by simpa using e)
    exact ⟨v, G, R, by simpa using h1, h2, by simpa using EnvR.no h3, h4⟩
  | _, _, _, 0, _, .so (v := v) (F := F') (G := G') r rs, e => by
    have e' := Option.some.inj (Option.some.inj (by simpa using e))
    subst e'
    exact ⟨v, G', F', rfl, r, .no rs, List.Perm.refl _⟩
  | _, _, _, i + 1, _, .so (v := w) (F := F') (G := G') r rs, e => by
    obtain ⟨v, G, R, h1, h2, h3, h4⟩ := EnvR.get rs (by simpa using e)
    refine ⟨v, G, G' ++ R, by simpa using h1, h2, by simpa using EnvR.so r h3, ?_⟩
    have p1 : (G' ++ F').Perm (G' ++ (G ++ R)) := List.Perm.append_left _ h4
    refine p1.trans ?_
    rw [← List.append_assoc, ← List.append_assoc]
    exact List.Perm.append_right _ List.perm_append_comm
/-- an empty slot filled with what stands there -/
theorem EnvR.put : ∀ {E : EnvT} {σ : Sl} {R : List Addr} {i : Nat} {d : D} {v : V} {G : List Addr}, EnvR K Z H E σ R → E[i]? = some none → σ[i]? = some (some v) → Rep K Z H d v G →
    ∃ F, EnvR K Z H (E.set i (some d)) σ F ∧ F.Perm (G ++ R)
  | _, _, _, _, _, _, _, .nil, e, _, _ => by simp at e
  | _, _, _, 0, _, _, _, .no (o := o) r, e, hv, rp => by
    have e' : o = _ := Option.some.inj (by simpa using hv)
    subst e'
    exact ⟨_, .so rp r, List.Perm.refl _⟩
  | _, _, _, i + 1, _, _, _, .no r, e, hv, rp => by
    obtain ⟨F, h1, h2⟩ := EnvR.put r (by simpa using e) (by simpa using hv) rp
    exact ⟨F, by simpa using EnvR.no h1, h2⟩
  | _, _, _, 0, _, _, _, .so r rs, e, _, _ => by simp at e
  | _, _, _, i + 1, _, _, G, .so (F := F') (G := G') r rs, e, hv, rp => by
    obtain ⟨F, h1, h2⟩ := EnvR.put rs (by simpa using e) (by simpa using hv) rp
    refine ⟨G' ++ F, by simpa using EnvR.so r h1, ?_⟩
    have p1 : (G' ++ F).Perm (G' ++ (G ++ F')) := List.Perm.append_left _ h2
    refine p1.trans ?_
    rw [← List.append_assoc, ← List.append_assoc]
    exact List.Perm.append_right _ List.perm_append_comm
/-- a slot dropped -/
theorem EnvR.drop : ∀ {E : EnvT} {σ : Sl} {F : List Addr} (i : Nat) (o : Option V), EnvR K Z H E σ F → ∃ R, EnvR K Z H (E.set i none) (σ.set i o) R ∧ R.Sublist F
  | _, _, _, _, _, .nil => ⟨_, .nil, List.Sublist.refl _⟩
  | _, _, _, 0, o, .no r => ⟨_, .no r, List.Sublist.refl _⟩
  | _, _, _, i + 1, o, .no r => by
    obtain ⟨R, h1, h2⟩ := EnvR.drop i o r
    exact ⟨R, by simpa using EnvR.no h1, h2⟩
  | _, _, _, 0, o, .so r rs => ⟨_, .no rs, List.sublist_append_right _ _⟩
  | _, _, _, i + 1, o, .so (G := G) r rs => by
    obtain ⟨R, h1, h2⟩ := EnvR.drop i o rs
    exact ⟨_, by simpa using EnvR.so r h1, List.Sublist.append_left h2 _⟩
end

/-- what is known stands, and the tables -/
structure Zt (K : PySem.W.Frag) (Z : Addr → Prop) (H : Hp) : Prop where
  th : ∀ a, Z a → ∃ o, H a = some o ∧ NTb o
  tb : LamX.Tabs LamT.tk H
theorem Zt.stp {K : PySem.W.Frag} {Z : Addr → Prop} {H H' : Hp} {F F' : List Addr} (z : Zt K Z H) (s : Stp Z H F Z H' F') : Zt K Z H' :=
  ⟨fun a h => let ⟨o, e, n⟩ := z.th a h; s.th a o e n, s.tb z.tb⟩
structure EnvS (K : PySem.W.Frag) (Z : Addr → Prop) (H : Hp) (E : EnvT) (σ : Sl) (F : List Addr) : Prop where
  r : EnvR K Z H E σ F
  nd : F.Nodup
  nz : ∀ a ∈ F, ¬ Z a
  zt : Zt K Z H

end DL

namespace DL
open PySem PySem.Spec L2
variable [LamT]

/-! ### wished-for ends of syntax, without a reading -/
section
variable (X : Cx)
def wpE (e : Expr) (σ : Sl) (H : Hp) (Q : VK) : Prop := ∀ (pins : List (Addr × Obj)) (s : Shared), Inv X pins σ H s → wpAny (model X.prog X.w) X.A (eval e X.env) (EP X pins σ Q) X.xe s
def wpT (e : Expr) (σ : Sl) (H : Hp) (Q : Bool → Hp → Prop) : Prop := ∀ (pins : List (Addr × Obj)) (s : Shared), Inv X pins σ H s → wpAny (model X.prog X.w) X.A (isTrue e X.env (eval e X.env)) (TP X pins σ Q) X.xe s
def wpW (e : Expr) (σ : Sl) (H : Hp) (Q : Bool → Hp → Prop) : Prop := ∀ (whole : Sem Value) (pins : List (Addr × Obj)) (s : Shared), Inv X pins σ H s → wpAny (model X.prog X.w) X.A (isTrue e X.env whole) (TP X pins σ Q) X.xe s
def wpA (es : List Expr) (σ : Sl) (H : Hp) (Q : List V → Hp → Prop) : Prop := ∀ (pos : Pos) (pins : List (Addr × Obj)) (s : Shared), Inv X pins σ H s → wpAny (model X.prog X.w) X.A (spliced (backTo pos (starEach es X.env))) (AP X pins σ Q) X.xe s
def wpS (st : Stmt) (D : Ends) (σ : Sl) (H : Hp) : Prop := ∀ (pins : List (Addr × Obj)) (s : Shared), Inv X pins σ H s → wpAny (model X.prog X.w) X.A (exec st X.env) (SP X pins D) X.xe s
def wpSs (st : List Stmt) (D : Ends) (σ : Sl) (H : Hp) : Prop := ∀ (pins : List (Addr × Obj)) (s : Shared), Inv X pins σ H s → wpAny (model X.prog X.w) X.A (execs st X.env) (SP X pins D) X.xe s
def wpG (tg : Expr) (v : V) (σ : Sl) (H : Hp) (Q : Sl → Hp → Prop) : Prop := ∀ (pins : List (Addr × Obj)) (s : Shared) (u : Value), Inv X pins σ H s → RelV v u → wpAny (model X.prog X.w) X.A (assign tg X.env u) (fun _ s' => ∃ σ' H', Inv X pins σ' H' s' ∧ Q σ' H') X.xe s
end
section
variable {X : Cx} {e : Expr} {es : List Expr} {st : Stmt} {sts : List Stmt} {σ : Sl} {H : Hp}
theorem pe_w : PE X e (wpE X e) := ⟨fun pins s σ H Q I h => h pins s I⟩
theorem pt_w : PT X e (wpT X e) := ⟨fun pins s σ H Q I h => h pins s I⟩
theorem pw_w : PW X e (wpW X e) := ⟨fun w pins s σ H Q I h => h w pins s I⟩
theorem pa_w : PA X es (wpA X es) := ⟨fun pos pins s σ H Q I h => h pos pins s I⟩
theorem ps_w : PS X st (wpS X st) := ⟨fun pins s σ H D I h => h pins s I⟩
theorem pss_w : PSs X sts (wpSs X sts) := ⟨fun pins s σ H D I h => h pins s I⟩
theorem pg_w : PG X e (wpG X e) := ⟨fun pins s σ H v u Q I r h => h pins s u I r⟩
theorem wpE_by {t : TE} {Q : VK} (h : PE X e t) (q : t σ H Q) : wpE X e σ H Q := fun pins s I => h.run pins s σ H Q I q
theorem wpT_by {t : TT} {Q : Bool → Hp → Prop} (h : PT X e t) (q : t σ H Q) : wpT X e σ H Q := fun pins s I => h.run pins s σ H Q I q
theorem wpW_by {t : TT} {Q : Bool → Hp → Prop} (h : PW X e t) (q : t σ H Q) : wpW X e σ H Q := fun w pins s I => h.run w pins s σ H Q I q
theorem wpA_by {t : TA} {Q : List V → Hp → Prop} (h : PA X es t) (q : t σ H Q) : wpA X es σ H Q := fun pos pins s I => h.run pos pins s σ H Q I q
theorem wpS_by {t : TS} {D : Ends} (h : PS X st t) (q : t D σ H) : wpS X st D σ H := fun pins s I => h.run pins s σ H D I q
theorem wpSs_by {t : TS} {D : Ends} (h : PSs X sts t) (q : t D σ H) : wpSs X sts D σ H := fun pins s I => h.run pins s σ H D I q
theorem wpG_by {t : TG} {v : V} {Q : Sl → Hp → Prop} (h : PG X e t) (q : t v σ H Q) : wpG X e v σ H Q := fun pins s u I r => h.run pins s σ H v u Q I r q
end

/-! ### operands -/
inductive Opd where
  | val (d : D) | bor (i : Nat)
def Opd.get (E : EnvT) : Opd → Option D
  | .val d => some d
  | .bor i => E[i]?.join
def OpdR (K : PySem.W.Frag) (Z : Addr → Prop) (H : Hp) (σ : Sl) : Opd → V → List Addr → Prop
  | .val d, v, G => Rep K Z H d v G
  | .bor i, v, G => σ[i]? = some (some v) ∧ G = []
inductive OpdRs (K : PySem.W.Frag) (Z : Addr → Prop) (H : Hp) (σ : Sl) : List Opd → List V → List Addr → Prop
  | nil : OpdRs K Z H σ [] [] []
  | cons {o : Opd} {v : V} {G : List Addr} {os : List Opd} {vs : List V} {Gs : List Addr} : OpdR K Z H σ o v G → OpdRs K Z H σ os vs Gs → OpdRs K Z H σ (o :: os) (v :: vs) (G ++ Gs)

section
variable {K : PySem.W.Frag} {Z Z1 Z2 Z' : Addr → Prop} {H H1 H2 H' : Hp} {F F1 F2 F' G G' R : List Addr} {σ : Sl} {E E' : EnvT} {o : Opd} {os : List Opd} {v : V} {vs : List V} {d : D}
theorem OpdR.mem (r : OpdR K Z H σ o v G) : ∀ a ∈ G, ∃ u, H a = some u ∧ NTb u := by
  cases o with
  | val d => exact Rep.mem r
  | bor i => intro a h; rw [r.2] at h; cases h
theorem OpdRs.mem : ∀ {os : List Opd} {vs : List V} {G : List Addr}, OpdRs K Z H σ os vs G → ∀ a ∈ G, ∃ u, H a = some u ∧ NTb u
  | _, _, _, .nil, a, h => nomatch h
  | _, _, _, .cons r rs, a, h => by
    rcases List.mem_append.mp h with q | q
    · exact OpdR.mem r a q
    · exact OpdRs.mem rs a q
theorem OpdR.step (s : Stp Z H F Z' H' F') (r : OpdR K Z H σ o v G) (h : ∀ a ∈ G, a ∉ F) : OpdR K Z' H' σ o v G := by
  cases o with
  | val d => exact Rep.step s r h
  | bor i => exact r
theorem OpdRs.step (s : Stp Z H F Z' H' F') : ∀ {os : List Opd} {vs : List V} {G : List Addr}, OpdRs K Z H σ os vs G → (∀ a ∈ G, a ∉ F) → OpdRs K Z' H' σ os vs G
  | _, _, _, .nil, _ => .nil
  | _, _, _, .cons r rs, h => .cons (OpdR.step s r fun a ha => h a (List.mem_append_left _ ha)) (OpdRs.step s rs fun a ha => h a (List.mem_append_right _ ha))
/-- what an operand is where it is used -/
theorem OpdR.use (e : EnvS K Z H E σ F) (r : OpdR K Z H σ o v G) (g : o.get E = some d) : ∃ G', Rep K Z H d v G' ∧ ∀ a ∈ G', a ∈ G ∨ a ∈ F := by
  cases o with
  | val d' =>
    cases g
    exact ⟨G, r, fun a h => .inl h⟩
  | bor i =>
    have g' : E[i]? = some (some d) := by
      have q : E[i]?.join = some d := g
      cases h : E[i]? with
      | none => rw [h] at q; cases q
      | some x => rw [h] at q; cases x <;> cases q; rfl
    obtain ⟨w, G1, R, h1, h2, h3, h4⟩ := e.r.get g'
    rw [r.1] at h1
    cases h1
    exact ⟨G1, h2, fun a ha => .inr (h4.mem_iff.mpr (List.mem_append_left _ ha))⟩

theorem Stp.push (a : Stp Z H F Z1 H1 (G ++ F1)) (b : Stp Z1 H1 F1 Z2 H2 F2) : Stp Z H F Z2 H2 (G ++ F2) :=
  a.trans (b.more (fun x h => List.mem_append_right _ h) fun x h => (List.mem_append.mp h).elim (fun q => .inr (List.mem_append_left _ q)) .inl)
theorem Stp.apart (b : Stp Z1 H1 F1 Z2 H2 F2) (hG : ∀ a ∈ G, ∃ u, H1 a = some u ∧ NTb u) (nd : (G ++ F1).Nodup) (n2 : F2.Nodup) : (G ++ F2).Nodup ∧ ∀ a ∈ G, a ∉ F1 := by
  have h0 : ∀ a ∈ G, a ∉ F1 := fun a ha hf => (List.nodup_append.mp nd).2.2 a ha a hf rfl
  refine ⟨List.nodup_append.mpr ⟨(List.nodup_append.mp nd).1, n2, fun a ha b hb e => ?_⟩, h0⟩
  subst e
  rcases b.f2 a hb with q | q
  · exact h0 a ha q
  · obtain ⟨u, hu, nu⟩ := hG a ha
    exact q u hu nu
theorem Stp.nz (b : Stp Z1 H1 F1 Z2 H2 F2) (hG : ∀ a ∈ G, ∃ u, H1 a = some u ∧ NTb u) (h0 : ∀ a ∈ G, a ∉ F1) (hz : ∀ a ∈ G, ¬ Z1 a) : ∀ a ∈ G, ¬ Z2 a := fun a ha z => by
  rcases b.z2 a z with q | q | q
  · exact hz a ha q
  · exact h0 a ha q
  · obtain ⟨u, hu, nu⟩ := hG a ha
    exact q u hu nu
end

/-! ### the judgements -/
structure Fin (K : PySem.W.Frag) (Z : Addr → Prop) (H : Hp) (σ : Sl) (F : List Addr) (E' : EnvT) (Z' : Addr → Prop) (H' : Hp) (F' G : List Addr) : Prop where
  env : EnvS K Z' H' E' σ F'
  nd : (G ++ F').Nodup
  nz : ∀ a ∈ G, ¬ Z' a
  st : Stp Z H F Z' H' (G ++ F')
section
variable {K : PySem.W.Frag} {Z Z1 Z2 Z' : Addr → Prop} {H H1 H2 H' : Hp} {F F1 F2 F' G G1 G2 G' R : List Addr} {σ : Sl} {E E1 E2 E' : EnvT} {o : Opd} {os : List Opd} {v : V} {vs : List V} {d : D}
theorem Fin.refl (e : EnvS K Z H E σ F) : Fin K Z H σ F E Z H F [] := ⟨e, e.nd, (fun a h => nomatch h), Stp.refl⟩
theorem Fin.join (a : Fin K Z H σ F E1 Z1 H1 F1 G1) (hG : ∀ a ∈ G1, ∃ u, H1 a = some u ∧ NTb u) (b : Fin K Z1 H1 σ F1 E2 Z2 H2 F2 G2) : Fin K Z H σ F E2 Z2 H2 F2 (G1 ++ G2) := by
  obtain ⟨n1, n2⟩ := b.st.apart hG a.nd b.nd
  refine ⟨b.env, by rw [List.append_assoc]; exact n1, fun x hx => ?_, by rw [List.append_assoc]; exact a.st.push b.st⟩
  rcases List.mem_append.mp hx with q | q
  · exact b.st.nz hG n2 a.nz x q
  · exact b.nz x q
theorem Fin.off (a : Fin K Z H σ F E1 Z1 H1 F1 G1) (hG : ∀ a ∈ G1, ∃ u, H1 a = some u ∧ NTb u) (b : Fin K Z1 H1 σ F1 E2 Z2 H2 F2 G2) : ∀ x ∈ G1, x ∉ F1 := (b.st.apart hG a.nd b.nd).2
/-- temporaries forgotten -/
theorem Fin.sub (a : Fin K Z H σ F E1 Z1 H1 F1 G1) (s : G2.Sublist G1) : Fin K Z H σ F E1 Z1 H1 F1 G2 :=
  ⟨a.env, (List.Sublist.append_right s F1).nodup a.nd, fun x hx => a.nz x (s.subset hx), a.st.sub fun x hx => (List.Sublist.append_right s F1).subset hx⟩
theorem Fin.nil (a : Fin K Z H σ F E1 Z1 H1 F1 G1) : Fin K Z H σ F E1 Z1 H1 F1 [] := a.sub (List.nil_sublist _)
end

section
variable (X : Cx)
def WO (e : Expr) (E : EnvT) (k : Opd → EnvT → Prop) : Prop := ∀ (Z : Addr → Prop) (H : Hp) (σ : Sl) (F : List Addr) (Q : VK), EnvS X.K Z H E σ F →
  (∀ (o : Opd) (E' : EnvT) (Z' : Addr → Prop) (H' : Hp) (F' G : List Addr) (v : V), k o E' → Fin X.K Z H σ F E' Z' H' F' G → OpdR X.K Z' H' σ o v G → Q v H') → wpE X e σ H Q
def WE (e : Expr) (E : EnvT) (k : D → EnvT → Prop) : Prop := WO X e E fun o E' => ∃ d, o = .val d ∧ k d E'
def WA (es : List Expr) (E : EnvT) (k : List Opd → EnvT → Prop) : Prop := ∀ (Z : Addr → Prop) (H : Hp) (σ : Sl) (F : List Addr) (Q : List V → Hp → Prop), EnvS X.K Z H E σ F →
  (∀ (os : List Opd) (E' : EnvT) (Z' : Addr → Prop) (H' : Hp) (F' G : List Addr) (vs : List V), k os E' → Fin X.K Z H σ F E' Z' H' F' G → OpdRs X.K Z' H' σ os vs G → Q vs H') → wpA X es σ H Q
def WT (e : Expr) (E : EnvT) (k : Bool → EnvT → Prop) : Prop := ∀ (Z : Addr → Prop) (H : Hp) (σ : Sl) (F : List Addr) (Q : Bool → Hp → Prop), EnvS X.K Z H E σ F →
  (∀ (b : Bool) (E' : EnvT) (Z' : Addr → Prop) (H' : Hp) (F' : List Addr), k b E' → Fin X.K Z H σ F E' Z' H' F' [] → Q b H') → wpT X e σ H Q
def WW (e : Expr) (E : EnvT) (k : Bool → EnvT → Prop) : Prop := ∀ (Z : Addr → Prop) (H : Hp) (σ : Sl) (F : List Addr) (Q : Bool → Hp → Prop), EnvS X.K Z H E σ F →
  (∀ (b : Bool) (E' : EnvT) (Z' : Addr → Prop) (H' : Hp) (F' : List Addr), k b E' → Fin X.K Z H σ F E' Z' H' F' [] → Q b H') → wpW X e σ H Q
end
/-- what is wanted behind a statement, over trees -/
structure KS where
  nx : EnvT → Prop
  rt : D → EnvT → Prop
  bk : EnvT → Prop := fun _ => False
  ct : EnvT → Prop := fun _ => False
/-- the slots of n hold what they held -/
def Pin (n : List Nat) (σ σ' : Sl) : Prop := ∀ i ∈ n, σ'[i]? = σ[i]?
theorem Pin.refl {n : List Nat} {σ : Sl} : Pin n σ σ := fun _ _ => rfl
theorem Pin.trans {n : List Nat} {σ σ1 σ2 : Sl} (a : Pin n σ σ1) (b : Pin n σ1 σ2) : Pin n σ σ2 := fun i h => (b i h).trans (a i h)
theorem Pin.set {n : List Nat} {i : Nat} {σ : Sl} {o : Option V} (h : i ∉ n) : Pin n σ (σ.set i o) := fun j hj => by
  rw [List.getElem?_set_ne]
  exact fun q => h (by rw [q]; exact hj)
theorem Pin.sub {n n' : List Nat} {σ σ1 : Sl} (a : Pin n σ σ1) (h : ∀ i ∈ n', i ∈ n) : Pin n' σ σ1 := fun i hi => a i (h i hi)
/-- an end of a statement -/
structure FinS (K : PySem.W.Frag) (n : List Nat) (Z : Addr → Prop) (H : Hp) (σ : Sl) (F : List Addr) (E' : EnvT) (Z' : Addr → Prop) (H' : Hp) (σ' : Sl) (F' G : List Addr) : Prop where
  env : EnvS K Z' H' E' σ' F'
  nd : (G ++ F').Nodup
  nz : ∀ a ∈ G, ¬ Z' a
  st : Stp Z H F Z' H' (G ++ F')
  pin : Pin n σ σ'
structure EndsOk (K : PySem.W.Frag) (n : List Nat) (Z : Addr → Prop) (H : Hp) (σ : Sl) (F : List Addr) (k : KS) (D : Ends) : Prop where
  nx : ∀ E' Z' H' σ' F', k.nx E' → FinS K n Z H σ F E' Z' H' σ' F' [] → D.nx σ' H'
  rt : ∀ d v E' Z' H' σ' F' G, k.rt d E' → FinS K n Z H σ F E' Z' H' σ' F' G → Rep K Z' H' d v G → D.rt v H'
  bk : ∀ E' Z' H' σ' F', k.bk E' → FinS K n Z H σ F E' Z' H' σ' F' [] → D.bk σ' H'
  ct : ∀ E' Z' H' σ' F', k.ct E' → FinS K n Z H σ F E' Z' H' σ' F' [] → D.ct σ' H'
def WS (X : Cx) (n : List Nat) (st : Stmt) (E : EnvT) (k : KS) : Prop := ∀ (Z : Addr → Prop) (H : Hp) (σ : Sl) (F : List Addr) (D : Ends), EnvS X.K Z H E σ F → EndsOk X.K n Z H σ F k D → wpS X st D σ H
def WSs (X : Cx) (n : List Nat) (sts : List Stmt) (E : EnvT) (k : KS) : Prop := ∀ (Z : Addr → Prop) (H : Hp) (σ : Sl) (F : List Addr) (D : Ends), EnvS X.K Z H E σ F → EndsOk X.K n Z H σ F k D → wpSs X sts D σ H
/-- a target of an assignment: the value's tree d -/
def WG (X : Cx) (n : List Nat) (tg : Expr) (d : D) (E : EnvT) (k : EnvT → Prop) : Prop := ∀ (Z : Addr → Prop) (H : Hp) (σ : Sl) (F G : List Addr) (v : V) (Q : Sl → Hp → Prop), EnvS X.K Z H E σ F → Rep X.K Z H d v G → (G ++ F).Nodup → (∀ a ∈ G, ¬ Z a) →
  (∀ (E' : EnvT) (Z' : Addr → Prop) (H' : Hp) (σ' : Sl) (F' : List Addr), k E' → FinS X.K n Z H σ (G ++ F) E' Z' H' σ' F' [] → Q σ' H') → wpG X tg v σ H Q

section
variable {K : PySem.W.Frag} {n : List Nat} {Z Z1 Z2 Z' : Addr → Prop} {H H1 H2 H' : Hp} {F F1 F2 F' G G1 G2 G' R : List Addr} {σ σ1 σ2 : Sl} {E E1 E2 E' : EnvT} {d : D} {v : V}
theorem Fin.toS (a : Fin K Z H σ F E1 Z1 H1 F1 G1) : FinS K n Z H σ F E1 Z1 H1 σ F1 G1 := ⟨a.env, a.nd, a.nz, a.st, Pin.refl⟩
theorem FinS.trans (a : FinS K n Z H σ F E1 Z1 H1 σ1 F1 []) (b : FinS K n Z1 H1 σ1 F1 E2 Z2 H2 σ2 F2 G2) : FinS K n Z H σ F E2 Z2 H2 σ2 F2 G2 :=
  ⟨b.env, b.nd, b.nz, a.st.trans b.st, a.pin.trans b.pin⟩
/-- behind a beginning the ends are still right -/
theorem EndsOk.after {k : KS} {D : Ends} (e : EndsOk K n Z H σ F k D) (a : FinS K n Z H σ F E1 Z1 H1 σ1 F1 []) : EndsOk K n Z1 H1 σ1 F1 k D :=
  ⟨fun E' Z' H' σ' F' h f => e.nx E' Z' H' σ' F' h (a.trans f), fun d v E' Z' H' σ' F' G h f r => e.rt d v E' Z' H' σ' F' G h (a.trans f) r, fun E' Z' H' σ' F' h f => e.bk E' Z' H' σ' F' h (a.trans f), fun E' Z' H' σ' F' h f => e.ct E' Z' H' σ' F' h (a.trans f)⟩
end

/-! ### arguments, blocks -/
section
variable {X : Cx} {n : List Nat} {e : Expr} {es : List Expr} {st : Stmt} {sts : List Stmt} {E : EnvT} {k : KS} {pos : Pos}
theorem wa_nil {k : List Opd → EnvT → Prop} (h : k [] E) : WA X [] E k := fun Z H σ F Q he hk => wpA_by pa_nil (hk [] E Z H F [] [] h (Fin.refl he) .nil)
theorem wa_cons {k : List Opd → EnvT → Prop} (h : WO X e E fun o E1 => WA X es E1 fun os E2 => k (o :: os) E2) (hs : starEach (e :: es) X.env = (false, eval e X.env) :: starEach es X.env := by rfl) : WA X (e :: es) E k := by
  intro Z H σ F Q he hk
  refine wpA_by (pa_cons pe_w pa_w hs) (h Z H σ F _ he fun o E1 Z1 H1 F1 G1 v k1 f1 r1 => ?_)
  refine k1 Z1 H1 σ F1 _ f1.env fun os E2 Z2 H2 F2 G2 vs k2 f2 r2 => ?_
  exact hk (o :: os) E2 Z2 H2 F2 (G1 ++ G2) (v :: vs) k2 (f1.join r1.mem f2) (.cons (r1.step f2.st (f1.off r1.mem f2)) r2)
theorem WO.mono {k k' : Opd → EnvT → Prop} (h : WO X e E k) (m : ∀ o E', k o E' → k' o E') : WO X e E k' := fun Z H σ F Q he hk => h Z H σ F Q he fun o E' Z' H' F' G v q => hk o E' Z' H' F' G v (m o E' q)
theorem we_of {k : D → EnvT → Prop} (h : WO X e E fun o E' => ∃ d, o = .val d ∧ k d E') : WE X e E k := h
theorem wo_of {k : Opd → EnvT → Prop} (h : WE X e E fun d E' => k (.val d) E') : WO X e E k := WO.mono h fun o E' ⟨d, e, q⟩ => by rw [e]; exact q
theorem wss_nil (h : k.nx E) : WSs X n [] E k := fun Z H σ F D he hk => wpSs_by pss_nil (hk.nx E Z H σ F h (Fin.refl he).toS)
theorem wss_cons (h : WS X n st E { k with nx := fun E' => WSs X n sts E' k }) : WSs X n (st :: sts) E k := by
  intro Z H σ F D he hk
  refine wpSs_by (pss_cons ps_w pss_w) (h Z H σ F _ he ⟨fun E' Z' H' σ' F' q f => ?_, hk.rt, hk.bk, hk.ct⟩)
  exact q Z' H' σ' F' D f.env (hk.after f)
theorem wss_one (h : WS X n st E k) : WSs X n [st] E k := fun Z H σ F D he hk => wpSs_by (pss_one ps_w) (h Z H σ F D he hk)
/-- with a word between -/
theorem wss_cut (M : EnvT → Prop) (h : WS X n st E { k with nx := M }) (h2 : ∀ E', M E' → WSs X n sts E' k) : WSs X n (st :: sts) E k := by
  intro Z H σ F D he hk
  refine wpSs_by (pss_cons ps_w pss_w) (h Z H σ F _ he ⟨fun E' Z' H' σ' F' q f => ?_, hk.rt, hk.bk, hk.ct⟩)
  exact h2 E' q Z' H' σ' F' D f.env (hk.after f)
theorem WS.mono {k k' : KS} (h : WS X n st E k) (h1 : ∀ E', k.nx E' → k'.nx E') (h2 : ∀ d E', k.rt d E' → k'.rt d E') (h3 : ∀ E', k.bk E' → k'.bk E') (h4 : ∀ E', k.ct E' → k'.ct E') : WS X n st E k' :=
  fun Z H σ F D he hk => h Z H σ F D he ⟨fun E' Z' H' σ' F' q f => hk.nx E' Z' H' σ' F' (h1 E' q) f, fun d v E' Z' H' σ' F' G q f r => hk.rt d v E' Z' H' σ' F' G (h2 d E' q) f r, fun E' Z' H' σ' F' q f => hk.bk E' Z' H' σ' F' (h3 E' q) f, fun E' Z' H' σ' F' q f => hk.ct E' Z' H' σ' F' (h4 E' q) f⟩
theorem ws_pass (h : k.nx E) : WS X n (.Pass pos) E k := fun Z H σ F D he hk => wpS_by ps_pass (hk.nx E Z H σ F h (Fin.refl he).toS)
theorem ws_if {c : Expr} {a b : List Stmt} (h : WT X c E fun t E1 => (t = true → WSs X n a E1 k) ∧ (t = false → WSs X n b E1 k)) : WS X n (.If c a b pos) E k := by
  intro Z H σ F D he hk
  refine wpS_by (ps_if pt_w pss_w pss_w) (h Z H σ F _ he fun t E1 Z1 H1 F1 q f => ?_)
  cases t with
  | true => exact q.1 rfl Z1 H1 σ F1 D f.env (hk.after f.toS)
  | false => exact q.2 rfl Z1 H1 σ F1 D f.env (hk.after f.toS)
theorem ws_expr (h : WO X e E fun _ E1 => k.nx E1) (hs : swapsWith e none pos.line X.env = pure false := by rfl) : WS X n (.Expr e pos) E k := by
  intro Z H σ F D he hk
  refine wpS_by (ps_expr pe_w hs) (h Z H σ F _ he fun o E1 Z1 H1 F1 G v q f r => ?_)
  exact hk.nx E1 Z1 H1 σ F1 q f.nil.toS
theorem ws_ret (h : WE X e E fun d E1 => k.rt d E1) : WS X n (.Return (some e) pos) E k := by
  intro Z H σ F D he hk
  refine wpS_by (ps_ret pe_w) (h Z H σ F _ he fun o E1 Z1 H1 F1 G v ⟨d, eo, q⟩ f r => ?_)
  subst eo
  exact hk.rt d v E1 Z1 H1 σ F1 G q f.toS r
/-- a slot stored -/
theorem EnvS.asg {K : PySem.W.Frag} {Z : Addr → Prop} {H : Hp} {E : EnvT} {σ : Sl} {F G : List Addr} {i : Nat} {d : D} {v : V} (e : EnvS K Z H E σ F) (r : Rep K Z H d v G) (nd : (G ++ F).Nodup) (nz : ∀ a ∈ G, ¬ Z a) (hi : i < E.length) :
    ∃ F', EnvS K Z H (E.set i (some d)) (σ.set i (some v)) F' ∧ ∀ a ∈ F', a ∈ G ∨ a ∈ F := by
  have hl : σ.length = E.length := e.r.len.symm
  obtain ⟨R, h1, h2⟩ := e.r.drop i (some v)
  obtain ⟨F', h3, h4⟩ := h1.put (i := i) (d := d) (v := v) (G := G) (by simp [hi]) (by simp [hl, hi]) r
  rw [List.set_set] at h3
  have n1 : (G ++ R).Nodup := (List.Sublist.append_left h2 G).nodup nd
  have m : ∀ a ∈ F', a ∈ G ∨ a ∈ F := fun a ha => (List.mem_append.mp (h4.mem_iff.mp ha)).imp_right fun q => h2.subset q
  exact ⟨F', ⟨h3, h4.nodup_iff.mpr n1, fun a ha => (m a ha).elim (nz a) (e.nz a), e.zt⟩, m⟩
theorem wg_name {i : Nat} {x : Str} {d : D} {k : EnvT → Prop} (hN : X.N.Nodup) (hi : X.N[i]? = some x) (hx : Loc X.env.scope x) (hn : i ∉ n) (hE : i < E.length) (h : k (E.set i (some d)))
    (hf : X.fn x = true ∨ X.env.scope.names.lookup x = some .local := by first | exact .inl rfl | exact .inr rfl | assumption) : WG X n (.Name x pos) d E k := by
  intro Z H σ F G v Q he r nd nz hk
  refine wpG_by (pg_name hN hi hx hf) ?_
  obtain ⟨F', h1, h2⟩ := he.asg r nd nz hE
  exact hk _ Z H _ F' h ⟨h1, h1.nd, (fun a q => nomatch q), Stp.refl.sub fun a ha => List.mem_append.mpr (h2 a ha), Pin.set hn⟩
theorem ws_set {i : Nat} {x : Str} {pos' : Pos} (hN : X.N.Nodup) (hi : X.N[i]? = some x) (hx : Loc X.env.scope x) (hn : i ∉ n) (h : WE X e E fun d E1 => i < E1.length ∧ k.nx (E1.set i (some d))) (hs : swapsWith e (some (.Name x pos')) pos.line X.env = pure false := by rfl)
    (hf : X.fn x = true ∨ X.env.scope.names.lookup x = some .local := by first | exact .inl rfl | exact .inr rfl | assumption) : WS X n (.Assign [.Name x pos'] e pos) E k := by
  intro Z H σ F D he hk
  refine wpS_by (ps_set hN hi hx pe_w hs hf) (h Z H σ F _ he fun o E1 Z1 H1 F1 G v ⟨d, eo, hE, q⟩ f r => ?_)
  subst eo
  obtain ⟨F', h1, h2⟩ := f.env.asg r f.nd f.nz hE
  exact hk.nx _ Z1 H1 _ F' q ⟨h1, h1.nd, (fun a q => nomatch q), f.st.sub fun a ha => List.mem_append.mpr (h2 a ha), Pin.set hn⟩
/-- a target of any form -/
theorem ws_asg {tg : Expr} (h : WE X e E fun d E1 => WG X n tg d E1 k.nx) (hs : swapsWithSole [tg] e pos.line X.env = pure false := by rfl) (hw : swappedStores [tg] e X.env = pure none := by rfl)
    (h1 : (assignEach [tg] X.env).map (·.2) = [assign tg X.env] := by rfl) : WS X n (.Assign [tg] e pos) E k := by
  intro Z H σ F D he hk
  refine wpS_by (ps_asg pe_w pg_w hs hw h1) (h Z H σ F _ he fun o E1 Z1 H1 F1 G v ⟨d, eo, q⟩ f r => ?_)
  subst eo
  refine q Z1 H1 σ F1 G v _ f.env r f.nd f.nz fun E2 Z2 H2 σ2 F2 q2 f2 => ?_
  exact hk.nx E2 Z2 H2 σ2 F2 q2 ⟨f2.env, f2.nd, f2.nz, f.st.trans f2.st, f2.pin⟩
end
end DL

namespace DL
open PySem PySem.Spec L2
variable [LamT]

/-! ### trees that own nothing -/
mutual
def Imm : D → Prop
  | .non => True
  | .bl _ => True
  | .int _ => True
  | .str _ => True
  | .tup ds => Imms ds
  | .pt ds => Imms ds
  | .lst _ => False
  | .fz _ => True
  | .fd _ _ => True
  | .dic _ _ => False
  | .obj _ _ _ => False
  | .op _ => True
  | .exc _ => False
  | .exd _ _ => False
  | .ow _ _ => False
  | .fw _ => True
  | .fo _ _ _ => True
def Imms : List D → Prop
  | [] => True
  | d :: ds => Imm d ∧ Imms ds
end
theorem imms_iff : ∀ {ds : List D}, Imms ds ↔ ∀ d ∈ ds, Imm d
  | [] => by simp [Imms]
  | d :: ds => by
    have ih := imms_iff (ds := ds)
    simp [Imms, ih]
theorem imms_map {α : Type} {f : α → D} {xs : List α} (h : ∀ x ∈ xs, Imm (f x)) : Imms (xs.map f) := imms_iff.mpr fun d hd => by
  obtain ⟨x, hx, rfl⟩ := List.mem_map.mp hd
  exact h x hx
theorem imms_ints {xs : List Int} : Imms (xs.map D.int) := imms_map fun _ _ => trivial
theorem imms_app {xs ys : List D} (a : Imms xs) (b : Imms ys) : Imms (xs ++ ys) := imms_iff.mpr fun d hd => (List.mem_append.mp hd).elim (imms_iff.mp a d) (imms_iff.mp b d)
theorem imms_get {xs : List D} {i : Nat} {d : D} (a : Imms xs) (h : xs[i]? = some d) : Imm d := imms_iff.mp a d (List.mem_of_getElem? h)
section
variable {K : PySem.W.Frag} {Z Z1 Z2 Z' : Addr → Prop} {H H1 H2 H' : Hp} {F F1 F2 F' G G1 G2 G' R : List Addr} {σ : Sl} {E E1 E2 E' : EnvT} {d d1 d2 : D} {v v1 v2 : V} {ds : List D} {vs : List V}
mutual
theorem Rep.imm : ∀ {d : D} {v : V} {G : List Addr}, Rep K Z H d v G → Imm d → G = []
  | _, _, _, .non, _ => rfl
  | _, _, _, .bl _, _ => rfl
  | _, _, _, .int _, _ => rfl
  | _, _, _, .str _, _ => rfl
  | _, _, _, .tup _ r, h => Reps.imm r (by simpa [Imm] using h)
  | _, _, _, .pt _ _ r, h => Reps.imm r (by simpa [Imm] using h)
  | _, _, _, .lst _ _, h => by simp [Imm] at h
  | _, _, _, .fz _ _, _ => rfl
  | _, _, _, .fd _ _, _ => rfl
  | _, _, _, .dic _ _ _, h => by simp [Imm] at h
  | _, _, _, .obj _ _ _, h => by simp [Imm] at h
  | _, _, _, .op _, _ => rfl
  | _, _, _, .exc _, h => by simp [Imm] at h
  | _, _, _, .exd _ _, h => by simp [Imm] at h
  | _, _, _, .ow _ _, h => by simp [Imm] at h
  | _, _, _, .fw _ _ _, _ => rfl
  | _, _, _, .fo _ _ _ _, _ => rfl
theorem Reps.imm : ∀ {ds : List D} {vs : List V} {G : List Addr}, Reps K Z H ds vs G → Imms ds → G = []
  | _, _, _, .nil, _ => rfl
  | _, _, _, .cons r rs, h => by
    rw [Imms] at h
    rw [Rep.imm r h.1, Reps.imm rs h.2]
    rfl
end
theorem Reps.len : ∀ {ds : List D} {vs : List V} {G : List Addr}, Reps K Z H ds vs G → ds.length = vs.length
  | _, _, _, .nil => rfl
  | _, _, _, .cons _ r => by rw [List.length_cons, List.length_cons, Reps.len r]
theorem Reps.get : ∀ {ds : List D} {vs : List V} {G : List Addr} {i : Nat} {d : D}, Reps K Z H ds vs G → ds[i]? = some d → ∃ v G', vs[i]? = some v ∧ Rep K Z H d v G' ∧ G'.Sublist G
  | _, _, _, _, _, .nil, h => by simp at h
  | _, _, _, 0, _, .cons r rs, h => by
    have e := Option.some.inj (by simpa using h)
    subst e
    exact ⟨_, _, rfl, r, List.sublist_append_left _ _⟩
  | _, _, _, i + 1, _, .cons r rs, h => by
    obtain ⟨v, G', h1, h2, h3⟩ := Reps.get rs (by simpa using h)
    exact ⟨v, G', by simpa using h1, h2, h3.trans (List.sublist_append_right _ _)⟩
theorem Reps.app : ∀ {ds es : List D} {vs ws : List V} {G G' : List Addr}, Reps K Z H ds vs G → Reps K Z H es ws G' → Reps K Z H (ds ++ es) (vs ++ ws) (G ++ G')
  | _, _, _, _, _, _, .nil, s => s
  | _, _, _, _, _, _, .cons r rs, s => by
    rw [List.append_assoc]
    exact .cons r (Reps.app rs s)
theorem Reps.take (n : Nat) : ∀ {ds : List D} {vs : List V} {G : List Addr}, Reps K Z H ds vs G → ∃ G', Reps K Z H (ds.take n) (vs.take n) G' ∧ G'.Sublist G := by
  induction n with
  | zero => intro ds vs G r; exact ⟨[], by simpa using Reps.nil, List.nil_sublist _⟩
  | succ n ih =>
    intro ds vs G r
    cases r with
    | nil => exact ⟨[], .nil, List.Sublist.refl _⟩
    | cons r rs =>
      obtain ⟨G', h1, h2⟩ := ih rs
      exact ⟨_, .cons r h1, List.Sublist.append_left h2 _⟩
theorem Reps.drop (n : Nat) : ∀ {ds : List D} {vs : List V} {G : List Addr}, Reps K Z H ds vs G → ∃ G', Reps K Z H (ds.drop n) (vs.drop n) G' ∧ G'.Sublist G := by
  induction n with
  | zero => intro ds vs G r; exact ⟨G, r, List.Sublist.refl _⟩
  | succ n ih =>
    intro ds vs G r
    cases r with
    | nil => exact ⟨[], .nil, List.Sublist.refl _⟩
    | cons r rs =>
      obtain ⟨G', h1, h2⟩ := ih rs
      exact ⟨G', h1, h2.trans (List.sublist_append_right _ _)⟩
theorem Reps.one (r : Rep K Z H d v G) : Reps K Z H [d] [v] G := by
  have q := Reps.cons r Reps.nil
  rw [List.append_nil] at q
  exact q
/-- of items that own nothing -/
theorem Reps.nils (r : Reps K Z H ds vs G) (h : Imms ds) : Reps K Z H ds vs [] := by
  have e := r.imm h
  rw [e] at r
  exact r
theorem Rep.nils (r : Rep K Z H d v G) (h : Imm d) : Rep K Z H d v [] := by
  have e := r.imm h
  rw [e] at r
  exact r

/-! ### the heap grows -/
structure Grow (H H' : Hp) (G : List Addr) : Prop where
  gr : ∀ a o, H a = some o → H' a = some o
  gn : ∀ a ∈ G, H a = none
  gd : G.Nodup
theorem Grow.refl : Grow H H [] := ⟨fun _ _ h => h, (fun a h => nomatch h), List.nodup_nil⟩
theorem Grow.new {p : Addr} {o : HO} (h : H p = none) : Grow H (upd H p o) [p] :=
  ⟨fun a u e => by rw [upd_ne (ne_of_none e h)]; exact e, fun a ha => by rw [List.mem_singleton.mp ha]; exact h, by simp⟩
theorem Grow.new0 {p : Addr} {o : HO} (h : H p = none) : Grow H (upd H p o) [] :=
  ⟨fun a u e => by rw [upd_ne (ne_of_none e h)]; exact e, fun a ha => (nomatch ha), List.nodup_nil⟩
theorem Grow.rd (g : Grow H H' G) {a : Addr} {u : HO} (h : Rd H a u) : Rd H' a u := by
  rcases h with h | ⟨o, h⟩
  · exact .inl (g.gr _ _ h)
  · exact .inr ⟨o, g.gr _ _ h⟩
theorem Grow.st (g : Grow H H' G) : Stp Z H F Z H' (G ++ F) :=
  ⟨fun _ h => h, fun _ h => .inl h, fun a o h _ _ => g.gr a o h, fun h => h.ext g.gr, fun a o h n => ⟨o, g.gr a o h, n⟩, fun a h => (List.mem_append.mp h).elim (fun q => .inr (nw_of (g.gn a q))) .inl, fun _ _ h => g.rd h, fun _ _ _ _ h => g.gr _ _ h, fun _ _ _ h => g.gr _ _ h⟩
theorem Zt.gr (z : Zt K Z H) (g : Grow H H' G) : Zt K Z H' := z.stp (g.st (Z := Z) (F := []))
theorem Grow.trans (a : Grow H H1 G) (b : Grow H1 H2 G1) : Grow H H2 G1 := by
  refine ⟨fun x o h => b.gr x o (a.gr x o h), fun x h => ?_, b.gd⟩
  have q := b.gn x h
  cases e : H x with
  | none => rfl
  | some o =>
    rw [a.gr x o e] at q
    cases q
theorem Grow.kp (g : Grow H H' G) : Kp Z H Z H' := ⟨fun _ h => h, fun _ _ h => g.rd h, fun _ _ _ _ h => g.gr _ _ h, fun _ _ _ h => g.gr _ _ h⟩
theorem Rep.grow (g : Grow H H' G) (r : Rep K Z H d v G1) : Rep K Z H' d v G1 := r.kp g.kp fun a _ o _ e => g.gr a o e
theorem Reps.grow (g : Grow H H' G) (r : Reps K Z H ds vs G1) : Reps K Z H' ds vs G1 := r.kp g.kp fun a _ o _ e => g.gr a o e
theorem Fin.grow (a : Fin K Z H σ F E1 Z1 H1 F1 G1) (g : Grow H1 H2 G) : Fin K Z H σ F E1 Z1 H2 F1 G := by
  have b := a.nil
  have off : ∀ x ∈ G, x ∉ F1 := fun x hx hf => by
    obtain ⟨o, e, _⟩ := b.env.r.mem x hf
    rw [g.gn x hx] at e
    cases e
  refine ⟨⟨b.env.r.kp g.kp fun a _ o _ e => g.gr a o e, b.env.nd, b.env.nz, b.env.zt.gr g⟩, List.nodup_append.mpr ⟨g.gd, b.env.nd, fun x hx y hy e => off x hx (e ▸ hy)⟩, fun x hx z => ?_, ?_⟩
  · obtain ⟨o, e, _⟩ := b.env.zt.th x z
    rw [g.gn x hx] at e
    cases e
  · have s := b.st
    rw [List.nil_append] at s
    exact s.trans g.st
/-- r hands on a value of the tree d -/
def Gives (K : PySem.W.Frag) (Z : Addr → Prop) (H : Hp) (d : D) (r : VK → Prop) : Prop := ∀ Q : VK, (∀ v H' G, Rep K Z H' d v G → Grow H H' G → Q v H') → r Q
end

section
variable {X : Cx} {n : Nat} {e a b c : Expr} {es : List Expr} {E : EnvT} {k : Opd → EnvT → Prop} {pos p : Pos}
theorem wo_name {i : Nat} {x : Str} {d : D} (hN : X.N[i]? = some x) (hE : E[i]? = some (some d)) (h : k (.bor i) E) (hv : Vis X.env.scope x := by first | exact Or.inl rfl | exact Or.inr (Or.inl rfl) | exact Or.inr (Or.inr rfl))
    (hd : (x == ("__debug__" : Str)) = false := by decide) (hcd : (x == ("__classdict__" : Str)) = false := by decide) : WO X (.Name x pos) E k := by
  intro Z H σ F Q he hk
  obtain ⟨v, G, R, h1, h2, h3, h4⟩ := he.r.get hE
  exact wpE_by (pe_var hN hv hd hcd) ⟨v, h1, hk _ E Z H F [] v h (Fin.refl he) ⟨h1, rfl⟩⟩
theorem we_name {i : Nat} {x : Str} {d : D} {k : D → EnvT → Prop} (hN : X.N[i]? = some x) (hE : E[i]? = some (some d)) (hi : Imm d) (h : k d E) (hv : Vis X.env.scope x := by first | exact Or.inl rfl | exact Or.inr (Or.inl rfl) | exact Or.inr (Or.inr rfl))
    (hd : (x == ("__debug__" : Str)) = false := by decide) (hcd : (x == ("__classdict__" : Str)) = false := by decide) : WE X (.Name x pos) E k := by
  intro Z H σ F Q he hk
  obtain ⟨v, G, R, h1, h2, h3, h4⟩ := he.r.get hE
  exact wpE_by (pe_var hN hv hd hcd) ⟨v, h1, hk _ E Z H F [] v ⟨d, rfl, h⟩ (Fin.refl he) (h2.nils hi)⟩
/-- an owned value leaves its slot -/
theorem we_move {i : Nat} {x : Str} {d : D} {k : D → EnvT → Prop} (hN : X.N[i]? = some x) (hE : E[i]? = some (some d)) (h : k d (E.set i none)) (hv : Vis X.env.scope x := by first | exact Or.inl rfl | exact Or.inr (Or.inl rfl) | exact Or.inr (Or.inr rfl))
    (hd : (x == ("__debug__" : Str)) = false := by decide) (hcd : (x == ("__classdict__" : Str)) = false := by decide) : WE X (.Name x pos) E k := by
  intro Z H σ F Q he hk
  obtain ⟨v, G, R, h1, h2, h3, h4⟩ := he.r.get hE
  have nd : (G ++ R).Nodup := h4.nodup_iff.mp he.nd
  refine wpE_by (pe_var hN hv hd hcd) ⟨v, h1, hk _ (E.set i none) Z H R G v ⟨d, rfl, h⟩ ⟨⟨h3, (List.nodup_append.mp nd).2.1, fun a ha => he.nz a (h4.mem_iff.mpr (List.mem_append_right _ ha)), he.zt⟩, nd, fun a ha => he.nz a (h4.mem_iff.mpr (List.mem_append_left _ ha)), Stp.refl.sub fun a ha => h4.mem_iff.mpr ha⟩ h2⟩
theorem wo_c {e : Expr} {d : D} {v : V} (h : k (.val d) E) (hp : PE X e (tC v)) (r : ∀ Z H, Rep X.K Z H d v []) : WO X e E k := fun Z H σ F Q he hk => wpE_by hp (hk _ E Z H F [] v h (Fin.refl he) (r Z H))
theorem wo_int {i j} (h : k (.val (.int i)) E) : WO X (.Constant (.int i) j pos) E k := wo_c h pe_int fun _ _ => .int i
theorem wo_bl {i j} (h : k (.val (.bl i)) E) : WO X (.Constant (.bool i) j pos) E k := wo_c h pe_bl fun _ _ => .bl i
theorem wo_non {j} (h : k (.val .non) E) : WO X (.Constant .none j pos) E k := wo_c h pe_non fun _ _ => .non
theorem wo_str {i j} (h : k (.val (.str i)) E) : WO X (.Constant (.str i) j pos) E k := wo_c h pe_str fun _ _ => .str i
/-- a module's constant -/
theorem wo_glob {x : Str} {d : D} {v : V} {u : Value} (hg : Gl X x) (hm : X.mg x = some u) (r : RelV v u) (rd : ∀ Z H, Rep X.K Z H d v []) (h : k (.val d) E) (hd : (x == ("__debug__" : Str)) = false := by decide) : WO X (.Name x pos) E k := wo_c h (pe_glob hg hm r hd) rd
theorem wo_bltn {x : Str} {v : V} {u : Value} (hg : Gl X x) (hm : X.mg x = none) (hv : bootBuiltins x = some u) (r : RelV v u) (h : k (.val (.op v)) E) (hn : x ≠ "__name__" := by decide) (hd : (x == ("__debug__" : Str)) = false := by decide) : WO X (.Name x pos) E k :=
  wo_c h (pe_bltn hg hm hv r hn hd) fun _ _ => .op v

/-! ### operators -/
/-- what an operation on two trees must do -/
def Op2 (K : PySem.W.Frag) (r : R2) (d1 d2 d : D) : Prop := ∀ Z H v1 v2 G1 G2, Rep K Z H d1 v1 G1 → Rep K Z H d2 v2 G2 → Gives K Z H d (r v1 v2 H)
def Op1 (K : PySem.W.Frag) (r : V → Hp → VK → Prop) (d1 d : D) : Prop := ∀ Z H v1 G1, Rep K Z H d1 v1 G1 → Gives K Z H d (r v1 H)
theorem wo_two {r : R2} {f : Expr} (hp : PE X f (tOp r (wpE X a) (wpE X b)))
    (h : WO X a E fun o1 E1 => WO X b E1 fun o2 E2 => ∃ d1 d2 d, o1.get E2 = some d1 ∧ o2.get E2 = some d2 ∧ Op2 X.K r d1 d2 d ∧ k (.val d) E2) : WO X f E k := by
  intro Z H σ F Q he hk
  refine wpE_by hp (h Z H σ F _ he fun o1 E1 Z1 H1 F1 G1 v1 k1 f1 r1 => ?_)
  refine k1 Z1 H1 σ F1 _ f1.env fun o2 E2 Z2 H2 F2 G2 v2 ⟨d1, d2, d, g1, g2, op, k2⟩ f2 r2 => ?_
  have r1' := r1.step f2.st (f1.off r1.mem f2)
  obtain ⟨G3, q1, _⟩ := r1'.use f2.env g1
  obtain ⟨G4, q2, _⟩ := r2.use f2.env g2
  refine op Z2 H2 v1 v2 G3 G4 q1 q2 Q fun v H' G rv gr => ?_
  exact hk _ E2 Z2 H' F2 G v k2 ((f1.join r1.mem f2).grow gr) rv
theorem wo_bin {op : Operator} {r : R2} (ho : OpR X (binaryOp op) r)
    (h : WO X a E fun o1 E1 => WO X b E1 fun o2 E2 => ∃ d1 d2 d, o1.get E2 = some d1 ∧ o2.get E2 = some d2 ∧ Op2 X.K r d1 d2 d ∧ k (.val d) E2) : WO X (.BinOp a op b pos) E k := wo_two (pe_op ho pe_w pe_w) h
theorem wo_cmp {op : CmpOp} {r : R2} (ho : OpR X (compareOp op) r) (hm : behindInMarks op b = false)
    (h : WO X a E fun o1 E1 => WO X b E1 fun o2 E2 => ∃ d1 d2 d, o1.get E2 = some d1 ∧ o2.get E2 = some d2 ∧ Op2 X.K r d1 d2 d ∧ k (.val d) E2) : WO X (.Compare a [op] [b] pos) E k := wo_two (pe_cmpR ho pe_w pe_w hm) h
theorem wo_one {r : V → Hp → VK → Prop} {f : Expr} (hp : PE X f (tUn r (wpE X a))) (h : WO X a E fun o1 E1 => ∃ d1 d, o1.get E1 = some d1 ∧ Op1 X.K r d1 d ∧ k (.val d) E1) : WO X f E k := by
  intro Z H σ F Q he hk
  refine wpE_by hp (h Z H σ F _ he fun o1 E1 Z1 H1 F1 G1 v1 ⟨d1, d, g1, op, k1⟩ f1 r1 => ?_)
  obtain ⟨G3, q1, _⟩ := r1.use f1.env g1
  refine op Z1 H1 v1 G3 q1 Q fun v H' G rv gr => ?_
  exact hk _ E1 Z1 H' F1 G v k1 (f1.grow gr) rv
section
variable {K : PySem.W.Frag} {i j : Int}
theorem op2_I {C : Int → Int → Prop} {g : Int → Int → V} {d : D} (hc : C i j) (r : ∀ Z H, Rep K Z H d (g i j) []) : Op2 K (rI C g) (.int i) (.int j) d := by
  intro Z H v1 v2 G1 G2 r1 r2 Q q
  cases r1
  cases r2
  exact ⟨i, j, rfl, rfl, hc, q _ H [] (r Z H) Grow.refl⟩
theorem op2_I0 {g : Int → Int → V} {d : D} (r : ∀ Z H, Rep K Z H d (g i j) []) : Op2 K (rI0 g) (.int i) (.int j) d := by
  intro Z H v1 v2 G1 G2 r1 r2 Q q
  cases r1
  cases r2
  exact ⟨i, j, rfl, rfl, q _ H [] (r Z H) Grow.refl⟩
end
/-- two ints -/
abbrev Two (E : EnvT) (o1 o2 : Opd) (k : Int → Int → Prop) : Prop := ∃ i j, o1.get E = some (.int i) ∧ o2.get E = some (.int j) ∧ k i j
theorem wo_sub (h : WO X a E fun o1 E1 => WO X b E1 fun o2 E2 => Two E2 o1 o2 fun i j => k (.val (.int (i - j))) E2) : WO X (.BinOp a .Sub b pos) E k :=
  wo_bin op_sub (WO.mono h fun o1 E1 q => WO.mono q fun o2 E2 ⟨i, j, g1, g2, kk⟩ => ⟨_, _, _, g1, g2, op2_I0 fun _ _ => .int _, kk⟩)
theorem wo_mod (h : WO X a E fun o1 E1 => WO X b E1 fun o2 E2 => Two E2 o1 o2 fun i j => 0 < j ∧ k (.val (.int (i % j))) E2) : WO X (.BinOp a .Mod b pos) E k :=
  wo_bin op_mod (WO.mono h fun o1 E1 q => WO.mono q fun o2 E2 ⟨i, j, g1, g2, hc, kk⟩ => ⟨_, _, _, g1, g2, op2_I hc fun _ _ => .int _, kk⟩)
theorem wo_fdiv (h : WO X a E fun o1 E1 => WO X b E1 fun o2 E2 => Two E2 o1 o2 fun i j => CDivW i j ∧ k (.val (.int (i / j))) E2) : WO X (.BinOp a .FloorDiv b pos) E k :=
  wo_bin op_fdivW (WO.mono h fun o1 E1 q => WO.mono q fun o2 E2 ⟨i, j, g1, g2, hc, kk⟩ => ⟨_, _, _, g1, g2, op2_I hc fun _ _ => .int _, kk⟩)
theorem wo_pow (h : WO X a E fun o1 E1 => WO X b E1 fun o2 E2 => Two E2 o1 o2 fun i j => CPow i j ∧ k (.val (.int (i ^ j.toNat))) E2) : WO X (.BinOp a .Pow b pos) E k :=
  wo_bin op_pow (WO.mono h fun o1 E1 q => WO.mono q fun o2 E2 ⟨i, j, g1, g2, hc, kk⟩ => ⟨_, _, _, g1, g2, op2_I hc fun _ _ => .int _, kk⟩)
theorem wo_shl (h : WO X a E fun o1 E1 => WO X b E1 fun o2 E2 => Two E2 o1 o2 fun i j => CPow i j ∧ k (.val (.int (i * 2 ^ j.toNat))) E2) : WO X (.BinOp a .LShift b pos) E k :=
  wo_bin op_shl (WO.mono h fun o1 E1 q => WO.mono q fun o2 E2 ⟨i, j, g1, g2, hc, kk⟩ => ⟨_, _, _, g1, g2, op2_I hc fun _ _ => .int _, kk⟩)
/-- is None -/
def isNon : D → Bool
  | .non => true
  | .op v => decide (v = .non)
  | _ => false
theorem Rep.isNon {K : PySem.W.Frag} {Z : Addr → Prop} {H : Hp} {d : D} {v : V} {G : List Addr} (r : Rep K Z H d v G) : decide (v = .non) = isNon d := by
  cases r <;> first | rfl | exact decide_eq_false (fun h => nomatch h)
theorem wo_neg (h : WO X a E fun o1 E1 => ∃ i, o1.get E1 = some (.int i) ∧ k (.val (.int (-i))) E1) : WO X (.UnaryOp .USub a pos) E k :=
  wo_one (pe_un un_neg pe_w) (WO.mono h fun o1 E1 ⟨i, g, kk⟩ => ⟨_, _, g, fun Z H v1 G1 r1 Q q => by
    cases r1
    exact ⟨i, rfl, q _ H [] (.int _) Grow.refl⟩, kk⟩)
end
end DL

namespace DL
open PySem PySem.Spec L2
variable [LamT]

section
variable {K : PySem.W.Frag} {Z Z1 Z2 Z' : Addr → Prop} {H H1 H2 H' : Hp} {F F1 F2 F' G G1 G2 G' R : List Addr} {σ : Sl} {E E1 E2 E' : EnvT} {d d1 d2 : D} {v v1 v2 : V} {ds : List D} {vs : List V}
theorem Fin.then (a : Fin K Z H σ F E1 Z1 H1 F1 G1) (b : Fin K Z1 H1 σ F1 E2 Z2 H2 F2 G2) : Fin K Z H σ F E2 Z2 H2 F2 G2 := a.nil.join (fun x h => nomatch h) b
/-- the items of a list or a tuple -/
def D.seq : D → Option (List D)
  | .tup ds => some ds
  | .pt ds => some ds
  | .lst ds => some ds
  | .fz ds => some ds
  | .ow _ ds => some ds
  | _ => none
def D.tseq : D → Option (List D)
  | .tup ds => some ds
  | .pt ds => some ds
  | _ => none
def D.lseq : D → Option (List D)
  | .lst ds => some ds
  | .fz ds => some ds
  | .ow _ ds => some ds
  | _ => none
theorem Rep.tseq (r : Rep K Z H d v G) (h : d.tseq = some ds) : ∃ a vs, v = .ref a ∧ SqT K H a vs ∧ Reps K Z H ds vs G := by
  cases r <;> simp only [D.tseq, Option.some.injEq, reduceCtorEq] at h
  case tup a ds' vs hs r => subst h; exact ⟨a, vs, rfl, hs, r⟩
  case pt a ob ds' vs hs hd r => subst h; exact ⟨a, vs, rfl, .inl (.inr ⟨ob, hs⟩), r⟩
theorem Rep.lseq (r : Rep K Z H d v G) (h : d.lseq = some ds) : ∃ a vs G', v = .ref a ∧ SqL K H a vs ∧ Reps K Z H ds vs G' := by
  cases r <;> simp only [D.lseq, Option.some.injEq, reduceCtorEq] at h
  case lst a ds' vs F hs r => subst h; exact ⟨a, vs, F, rfl, SqL.of hs, r⟩
  case ow a ds' vs F hs r => subst h; exact ⟨a, vs, F, rfl, SqL.of hs, r⟩
  case fz a ds' vs hs r =>
    subst h
    refine ⟨a, vs, [], rfl, ?_, r⟩
    rcases hs with q | q
    · exact .inl q.2
    · exact q H
theorem Rep.seq (r : Rep K Z H d v G) (h : d.seq = some ds) : ∃ a vs G', v = .ref a ∧ (SqL K H a vs ∨ SqT K H a vs) ∧ Reps K Z H ds vs G' := by
  cases d <;> simp only [D.seq, Option.some.injEq, reduceCtorEq] at h
  case tup es => obtain ⟨a, vs, e, q1, q2⟩ := r.tseq (ds := ds) (by simp [D.tseq, h]); exact ⟨a, vs, _, e, .inr q1, q2⟩
  case pt es => obtain ⟨a, vs, e, q1, q2⟩ := r.tseq (ds := ds) (by simp [D.tseq, h]); exact ⟨a, vs, _, e, .inr q1, q2⟩
  case lst es => obtain ⟨a, vs, G', e, q1, q2⟩ := r.lseq (ds := ds) (by simp [D.lseq, h]); exact ⟨a, vs, _, e, .inl q1, q2⟩
  case ow b es => obtain ⟨a, vs, G', e, q1, q2⟩ := r.lseq (ds := ds) (by simp [D.lseq, h]); exact ⟨a, vs, _, e, .inl q1, q2⟩
  case fz es => obtain ⟨a, vs, G', e, q1, q2⟩ := r.lseq (ds := ds) (by simp [D.lseq, h]); exact ⟨a, vs, _, e, .inl q1, q2⟩
theorem Reps.at (r : Reps K Z H ds vs G) {i : Int} (h : atI ds i = some d) : ∃ v G', atI vs i = some v ∧ Rep K Z H d v G' := by
  unfold atI at h ⊢
  rw [r.len] at h
  cases e : ixN vs.length i with
  | none => rw [e] at h; simp at h
  | some j =>
    rw [e] at h
    obtain ⟨v, G', h1, h2, _⟩ := r.get (i := j) (d := d) (by simpa using h)
    exact ⟨v, G', by simpa using h1, h2⟩
def cutD (xs : List D) (lo hi : Option Int) : List D := (xs.drop (HT.sIx xs.length 0 lo)).take (HT.sIx xs.length xs.length hi - HT.sIx xs.length 0 lo)
theorem Reps.cut (r : Reps K Z H ds vs G) (lo hi : Option Int) : ∃ G', Reps K Z H (cutD ds lo hi) (cutV vs lo hi) G' := by
  obtain ⟨G1, h1, _⟩ := r.drop (HT.sIx ds.length 0 lo)
  obtain ⟨G2, h2, _⟩ := h1.take (HT.sIx ds.length ds.length hi - HT.sIx ds.length 0 lo)
  refine ⟨G2, ?_⟩
  unfold cutD cutV
  rw [r.len] at h2 ⊢
  exact h2
theorem imms_cut {lo hi : Option Int} (h : Imms ds) : Imms (cutD ds lo hi) := imms_iff.mpr fun d hd => imms_iff.mp h d (List.drop_subset _ _ (List.take_subset _ _ hd))
end

/-! ### tests -/
section
variable {X : Cx} {n : Nat} {e a b c : Expr} {es : List Expr} {E : EnvT} {k : Opd → EnvT → Prop} {kb : Bool → EnvT → Prop} {pos p : Pos} {rest : List Expr}
theorem wt_val (h : WO X e E fun o E1 => ∃ t, o.get E1 = some (.bl t) ∧ kb t E1) (he : ∀ whole, isTrue e X.env whole = (do let v ← whole; standAt e.pos; holding [v] (truthy v)) := by intro _; rfl) : WT X e E kb := by
  intro Z H σ F Q he' hk
  refine wpT_by (pt_val pe_w he) (h Z H σ F _ he' fun o E1 Z1 H1 F1 G v ⟨t, g, q⟩ f r => ?_)
  obtain ⟨G', r', _⟩ := r.use f.env g
  cases r'
  exact ⟨t, rfl, hk t E1 Z1 H1 F1 q f.nil⟩
theorem wt_not (h : WT X a E fun t E1 => kb (!t) E1) : WT X (.UnaryOp .Not a pos) E kb := by
  intro Z H σ F Q he hk
  refine wpT_by (pt_not pt_w) ?_
  exact h Z H σ F _ he fun t E1 Z1 H1 F1 q f => hk _ E1 Z1 H1 F1 q f
theorem wt_bool {op} (h : WW X (.BoolOp op es pos) E kb) : WT X (.BoolOp op es pos) E kb := by
  intro Z H σ F Q he hk
  exact wpT_by pw_w.pt (h Z H σ F Q he hk)
theorem ww_and1 (h : WT X a E kb) : WW X (.BoolOp .And [a] pos) E kb := fun Z H σ F Q he hk => wpW_by (pw_and1 pt_w) (h Z H σ F Q he hk)
theorem ww_or1 (h : WT X a E kb) : WW X (.BoolOp .Or [a] pos) E kb := fun Z H σ F Q he hk => wpW_by (pw_or1 pt_w) (h Z H σ F Q he hk)
theorem ww_and (h : WT X a E fun t E1 => (t = true → WW X (.BoolOp .And (b :: rest) pos) E1 kb) ∧ (t = false → kb false E1)) : WW X (.BoolOp .And (a :: b :: rest) pos) E kb := by
  intro Z H σ F Q he hk
  refine wpW_by (pw_and pt_w pw_w) (h Z H σ F _ he fun t E1 Z1 H1 F1 q f => ?_)
  cases t with
  | true => exact q.1 rfl Z1 H1 σ F1 Q f.env fun t2 E2 Z2 H2 F2 q2 f2 => hk t2 E2 Z2 H2 F2 q2 (f.then f2)
  | false => exact hk false E1 Z1 H1 F1 (q.2 rfl) f
theorem ww_or (h : WT X a E fun t E1 => (t = true → kb true E1) ∧ (t = false → WW X (.BoolOp .Or (b :: rest) pos) E1 kb)) : WW X (.BoolOp .Or (a :: b :: rest) pos) E kb := by
  intro Z H σ F Q he hk
  refine wpW_by (pw_or pt_w pw_w) (h Z H σ F _ he fun t E1 Z1 H1 F1 q f => ?_)
  cases t with
  | true => exact hk true E1 Z1 H1 F1 (q.1 rfl) f
  | false => exact q.2 rfl Z1 H1 σ F1 Q f.env fun t2 E2 Z2 H2 F2 q2 f2 => hk t2 E2 Z2 H2 F2 q2 (f.then f2)
/-- as values -/
theorem wo_bone {op} (h : WO X a E k) : WO X (.BoolOp op [a] pos) E k := fun Z H σ F Q he hk => wpE_by (pe_one pe_w) (h Z H σ F Q he hk)
theorem wo_and (h : WO X a E fun o E1 => ∃ t, o.get E1 = some (.bl t) ∧ (t = true → WO X (.BoolOp .And (b :: rest) pos) E1 k) ∧ (t = false → k (.val (.bl false)) E1)) : WO X (.BoolOp .And (a :: b :: rest) pos) E k := by
  intro Z H σ F Q he hk
  refine wpE_by (pe_and pe_w pe_w) (h Z H σ F _ he fun o E1 Z1 H1 F1 G v ⟨t, g, q⟩ f r => ?_)
  obtain ⟨G', r', _⟩ := r.use f.env g
  cases r'
  refine ⟨t, rfl, ?_⟩
  cases t with
  | true => exact q.1 rfl Z1 H1 σ F1 Q f.env fun o2 E2 Z2 H2 F2 G2 v2 q2 f2 r2 => hk o2 E2 Z2 H2 F2 G2 v2 q2 (f.then f2) r2
  | false => exact hk _ E1 Z1 H1 F1 [] _ (q.2 rfl) f.nil (.bl _)
theorem wo_or (h : WO X a E fun o E1 => ∃ t, o.get E1 = some (.bl t) ∧ (t = true → k (.val (.bl true)) E1) ∧ (t = false → WO X (.BoolOp .Or (b :: rest) pos) E1 k)) : WO X (.BoolOp .Or (a :: b :: rest) pos) E k := by
  intro Z H σ F Q he hk
  refine wpE_by (pe_or pe_w pe_w) (h Z H σ F _ he fun o E1 Z1 H1 F1 G v ⟨t, g, q⟩ f r => ?_)
  obtain ⟨G', r', _⟩ := r.use f.env g
  cases r'
  refine ⟨t, rfl, ?_⟩
  cases t with
  | true => exact hk _ E1 Z1 H1 F1 [] _ (q.1 rfl) f.nil (.bl _)
  | false => exact q.2 rfl Z1 H1 σ F1 Q f.env fun o2 E2 Z2 H2 F2 G2 v2 q2 f2 r2 => hk o2 E2 Z2 H2 F2 G2 v2 q2 (f.then f2) r2
theorem wo_not (h : WO X a E fun o E1 => ∃ t, o.get E1 = some (.bl t) ∧ k (.val (.bl (!t))) E1) : WO X (.UnaryOp .Not a pos) E k := by
  intro Z H σ F Q he hk
  refine wpE_by (pe_not pe_w) (h Z H σ F _ he fun o E1 Z1 H1 F1 G v ⟨t, g, q⟩ f r => ?_)
  obtain ⟨G', r', _⟩ := r.use f.env g
  cases r'
  exact ⟨t, rfl, hk _ E1 Z1 H1 F1 [] _ q f.nil (.bl _)⟩
theorem wo_if (h : WT X c E fun t E1 => (t = true → WO X a E1 k) ∧ (t = false → WO X b E1 k)) : WO X (.IfExp c a b pos) E k := by
  intro Z H σ F Q he hk
  refine wpE_by (pe_ifExp pt_w pe_w pe_w) (h Z H σ F _ he fun t E1 Z1 H1 F1 q f => ?_)
  cases t with
  | true => exact q.1 rfl Z1 H1 σ F1 Q f.env fun o2 E2 Z2 H2 F2 G2 v2 q2 f2 r2 => hk o2 E2 Z2 H2 F2 G2 v2 q2 (f.then f2) r2
  | false => exact q.2 rfl Z1 H1 σ F1 Q f.env fun o2 E2 Z2 H2 F2 G2 v2 q2 f2 r2 => hk o2 E2 Z2 H2 F2 G2 v2 q2 (f.then f2) r2
theorem wo_nameI {i : Nat} {x : Str} {d : D} (hN : X.N[i]? = some x) (hE : E[i]? = some (some d)) (hi : Imm d) (h : k (.val d) E) (hv : Vis X.env.scope x := by first | exact Or.inl rfl | exact Or.inr (Or.inl rfl) | exact Or.inr (Or.inr rfl))
    (hd : (x == ("__debug__" : Str)) = false := by decide) (hcd : (x == ("__classdict__" : Str)) = false := by decide) : WO X (.Name x pos) E k := wo_of (we_name hN hE hi h hv hd hcd)
/-! ### displays -/
theorem OpdRs.vals {K : PySem.W.Frag} {Z : Addr → Prop} {H : Hp} {σ : Sl} : ∀ {ds : List D} {vs : List V} {G : List Addr}, OpdRs K Z H σ (ds.map Opd.val) vs G → Reps K Z H ds vs G
  | [], _, _, .nil => .nil
  | d :: ds, _, _, .cons r rs => .cons r (OpdRs.vals rs)
def valsOf : List Opd → Option (List D)
  | [] => some []
  | .val d :: os => (match valsOf os with
    | some ds => some (d :: ds)
    | none => none)
  | .bor _ :: _ => none
theorem valsOf_map : ∀ {os : List Opd} {ds : List D}, valsOf os = some ds → os = ds.map Opd.val
  | [], ds, h => by
    rw [valsOf] at h
    cases h
    rfl
  | .val d :: os, ds, h => by
    rw [valsOf] at h
    cases e : valsOf os with
    | none => rw [e] at h; cases h
    | some es =>
      rw [e] at h
      cases h
      rw [valsOf_map e]
      rfl
  | .bor _ :: _, ds, h => by
    rw [valsOf] at h
    cases h
theorem wo_tup {x1} (h : WA X es E fun os E1 => ∃ ds, valsOf os = some ds ∧ ds.length ≤ 100000 ∧ k (.val (.tup ds)) E1) : WO X (.Tuple es x1 pos) E k := by
  intro Z H σ F Q he hk
  refine wpE_by (pe_tup pa_w) (h Z H σ F _ he fun os E1 Z1 H1 F1 G vs ⟨ds, eo, hl, q⟩ f r => ?_)
  have eo' := valsOf_map eo
  subst eo'
  have r' := r.vals
  have hlen := r'.len
  refine ⟨Nat.le_trans (by omega) (by decide : 100000 ≤ sizeLine), fun p hp => ?_⟩
  have g : Grow H1 (upd H1 p (.tup vs)) [] := Grow.new0 hp
  refine hk _ E1 Z1 _ F1 G _ q ⟨⟨f.env.r.kp g.kp fun a _ o _ e => g.gr a o e, f.env.nd, f.env.nz, f.env.zt.gr g⟩, f.nd, f.nz, f.st.trans ?_⟩ (.tup (SqT.of upd_same) (r'.grow g))
  · have s := g.st (Z := Z1) (F := G ++ F1)
    exact s
theorem wo_lst (h : WA X es E fun os E1 => ∃ ds, valsOf os = some ds ∧ ds.length ≤ 100000 ∧ k (.val (.lst ds)) E1) : WO X (.List es pos) E k := by
  intro Z H σ F Q he hk
  refine wpE_by (pe_lst pa_w) (h Z H σ F _ he fun os E1 Z1 H1 F1 G vs ⟨ds, eo, hl, q⟩ f r => ?_)
  have eo' := valsOf_map eo
  subst eo'
  have r' := r.vals
  have hlen := r'.len
  refine ⟨Nat.le_trans (by omega) (by decide : 100000 ≤ sizeLine), fun p hp => ?_⟩
  have g : Grow H1 (upd H1 p (.lst vs)) [p] := Grow.new hp
  have pf : p ∉ G ++ F1 := fun hm => by
    rcases List.mem_append.mp hm with m | m
    · obtain ⟨o, e, _⟩ := r'.mem p m; rw [hp] at e; cases e
    · obtain ⟨o, e, _⟩ := f.env.r.mem p m; rw [hp] at e; cases e
  refine hk _ E1 Z1 _ F1 (p :: G) _ q ⟨⟨f.env.r.kp g.kp fun a _ o _ e => g.gr a o e, f.env.nd, f.env.nz, f.env.zt.gr g⟩, List.nodup_cons.mpr ⟨pf, f.nd⟩, fun x hx z => ?_, f.st.trans ?_⟩ (.lst upd_same (r'.grow g))
  · rcases List.mem_cons.mp hx with m | m
    · obtain ⟨o, e, _⟩ := f.env.zt.th x z
      rw [m, hp] at e
      cases e
    · exact f.nz x m z
  · exact g.st (Z := Z1) (F := G ++ F1)

/-! ### items and slices -/
theorem wo_ix (hb : PlainIx b) (h : WO X a E fun o1 E1 => WO X b E1 fun o2 E2 => ∃ ds i d, (o1.get E2).bind D.seq = some ds ∧ o2.get E2 = some (.int i) ∧ atI ds i = some d ∧ Imm d ∧ k (.val d) E2) : WO X (.Subscript a b pos) E k := by
  refine wo_two (r := rIx X.K) (pe_ix ix_seq pe_w pe_w hb) (WO.mono h fun o1 E1 q => WO.mono q fun o2 E2 ⟨ds, i, d, g1, g2, hat, im, kk⟩ => ?_)
  cases g : o1.get E2 with
  | none => rw [g] at g1; simp at g1
  | some d1 =>
    rw [g] at g1
    refine ⟨d1, .int i, d, rfl, g2, fun Z H v1 v2 G1 G2 r1 r2 Q q => ?_, kk⟩
    cases r2
    obtain ⟨p, vs, G', rfl, hs, rs⟩ := r1.seq (by simpa using g1)
    obtain ⟨v, G3, h1, h2⟩ := rs.at hat
    rcases hs with hs | hs
    · exact .inl ⟨p, vs, i, v, rfl, rfl, hs, h1, q v H [] (h2.nils im) Grow.refl⟩
    · exact .inr (.inl ⟨p, vs, i, v, rfl, rfl, hs, h1, q v H [] (h2.nils im) Grow.refl⟩)
end
end DL

namespace DL
open PySem PySem.Spec L2
variable [LamT]

/-! ### slices -/
def wpP (X : Cx) (o : Option Expr) (σ : Sl) (H : Hp) (Q : Option Int → Hp → Prop) : Prop := ∀ (pins : List (Addr × Obj)) (s : Shared), Inv X pins σ H s → wpAny (model X.prog X.w) X.A (evalPart o X.env) (fun u s' => ∃ o H', Inv X pins σ H' s' ∧ IsPart u o ∧ Q o H') X.xe s
theorem po_w {X : Cx} {o : Option Expr} : PO X o (wpP X o) := ⟨fun pins s σ H Q I h => h pins s I⟩
def WPt (X : Cx) (o : Option Expr) (E : EnvT) (k : Option Int → EnvT → Prop) : Prop := ∀ (Z : Addr → Prop) (H : Hp) (σ : Sl) (F : List Addr) (Q : Option Int → Hp → Prop), EnvS X.K Z H E σ F →
  (∀ (i : Option Int) (E' : EnvT) (Z' : Addr → Prop) (H' : Hp) (F' : List Addr), k i E' → Fin X.K Z H σ F E' Z' H' F' [] → Q i H') → wpP X o σ H Q
section
variable {X : Cx} {n : Nat} {e a b c : Expr} {es : List Expr} {E : EnvT} {k : Opd → EnvT → Prop} {pos p p2 : Pos} {lo hi : Option Expr}
theorem wp_none {k : Option Int → EnvT → Prop} (h : k none E) : WPt X none E k := fun Z H σ F Q he hk pins s I => po_none.run pins s σ H Q I (hk none E Z H F h (Fin.refl he))
theorem wp_some {k : Option Int → EnvT → Prop} (h : WO X e E fun o E1 => ∃ i, o.get E1 = some (.int i) ∧ k (some i) E1) : WPt X (some e) E k := by
  intro Z H σ F Q he hk pins s I
  refine (po_some pe_w).run pins s σ H Q I (h Z H σ F _ he fun o E1 Z1 H1 F1 G v ⟨i, g, q⟩ f r => ?_)
  obtain ⟨G', r', _⟩ := r.use f.env g
  cases r'
  exact ⟨i, rfl, hk (some i) E1 Z1 H1 F1 q f.nil⟩
theorem wo_sl {r : V → Option Int → Option Int → Hp → VK → Prop} (hr : SlR X r) (h : WO X e E fun o E1 => WPt X lo E1 fun l E2 => WPt X hi E2 fun u E3 => ∃ d1 d, o.get E3 = some d1 ∧ (∀ Z H v G, Rep X.K Z H d1 v G → Gives X.K Z H d (r v l u H)) ∧ k (.val d) E3) :
    WO X (.Subscript e (.Slice lo hi none p2) pos) E k := by
  intro Z H σ F Q he hk
  refine wpE_by (pe_slice hr pe_w po_w po_w) (h Z H σ F _ he fun o1 E1 Z1 H1 F1 G1 v1 k1 f1 r1 => ?_)
  refine k1 Z1 H1 σ F1 _ f1.env fun l E2 Z2 H2 F2 k2 f2 => ?_
  refine k2 Z2 H2 σ F2 _ f2.env fun u E3 Z3 H3 F3 ⟨d1, d, g, op, k3⟩ f3 => ?_
  have f23 := f2.then f3
  have r1' := r1.step f23.st (f1.off r1.mem f23)
  obtain ⟨G', q, _⟩ := r1'.use f3.env g
  refine op Z3 H3 v1 G' q Q fun v H' G rv gr => ?_
  exact hk _ E3 Z3 H' F3 G v k3 ((f1.join r1.mem f23).grow gr) rv
/-! ### + and * of lists and tuples -/
theorem Reps.rep {K : PySem.W.Frag} {Z : Addr → Prop} {H : Hp} {ds : List D} {vs : List V} (r : Reps K Z H ds vs []) : ∀ m : Nat, Reps K Z H (List.replicate m ds).flatten (List.replicate m vs).flatten []
  | 0 => .nil
  | m + 1 => by
    rw [List.replicate_succ, List.replicate_succ, List.flatten_cons, List.flatten_cons]
    exact r.app (Reps.rep r m)
/-! ### == and in of data -/
mutual
def toPy : D → PyData
  | .non => .none
  | .bl b => .bool b
  | .int i => .int i
  | .str x => .str x
  | .tup ds => .tuple (toPys ds)
  | .pt ds => .tuple (toPys ds)
  | .lst ds => .list (toPys ds)
  | .fz ds => .list (toPys ds)
  | .ow _ ds => .list (toPys ds)
  | _ => .dict []
def toPys : List D → List PyData
  | [] => []
  | d :: ds => toPy d :: toPys ds
end
/-- data that == can be asked of -/
def Shp (d : D) : Prop := SeqAt.shaped (toPy d) = true
section
variable {K : PySem.W.Frag} {Z : Addr → Prop} {H : Hp}
mutual
theorem Rep.dp : ∀ {d : D} {v : V} {G : List Addr}, Rep K Z H d v G → (toPy d).canLay0 = true → Dp K H v (toPy d)
  | _, _, _, .non, _ => by rw [toPy]; exact .non
  | _, _, _, .bl b, _ => by rw [toPy]; exact .bl b
  | _, _, _, .int i, _ => by rw [toPy]; exact .int i
  | _, _, _, .str x, _ => by rw [toPy]; exact .str x
  | _, _, _, .tup hs r, h => by
    rw [toPy] at h ⊢
    exact .tup hs (Reps.dp r (by simpa [PyData.canLay0] using h))
  | _, _, _, .pt hs _ r, h => by
    rw [toPy] at h ⊢
    exact .tup (.inl (.inr ⟨_, hs⟩)) (Reps.dp r (by simpa [PyData.canLay0] using h))
  | _, _, _, .lst hs r, h => by
    rw [toPy] at h ⊢
    exact .lst (SqL.of hs) (Reps.dp r (by simpa [PyData.canLay0] using h))
  | _, _, _, .fz hs r, h => by
    rw [toPy] at h ⊢
    refine .lst ?_ (Reps.dp r (by simpa [PyData.canLay0] using h))
    rcases hs with q | q
    · exact .inl q.2
    · exact q H
  | _, _, _, .dic _ _ _, h => by simp [toPy, PyData.canLay0] at h
  | _, _, _, .fd _ _, h => by simp [toPy, PyData.canLay0] at h
  | _, _, _, .obj _ _ _, h => by simp [toPy, PyData.canLay0] at h
  | _, _, _, .op _, h => by simp [toPy, PyData.canLay0] at h
  | _, _, _, .exc _, h => by simp [toPy, PyData.canLay0] at h
  | _, _, _, .exd _ _, h => by simp [toPy, PyData.canLay0] at h
  | _, _, _, .ow hs r, h => by
    rw [toPy] at h ⊢
    exact .lst (SqL.of hs) (Reps.dp r (by simpa [PyData.canLay0] using h))
  | _, _, _, .fw _ _ _, h => by simp [toPy, PyData.canLay0] at h
  | _, _, _, .fo _ _ _ _, h => by simp [toPy, PyData.canLay0] at h
theorem Reps.dp : ∀ {ds : List D} {vs : List V} {G : List Addr}, Reps K Z H ds vs G → PyData.canLayAll0 (toPys ds) = true → DpAll K H vs (toPys ds)
  | _, _, _, .nil, _ => by rw [toPys]; exact .nil
  | _, _, _, .cons r rs, h => by
    rw [toPys] at h ⊢
    rw [PyData.canLayAll0, Bool.and_eq_true] at h
    exact .cons (Rep.dp r h.1) (Reps.dp rs h.2)
end
end
def deq (d1 d2 : D) : Bool := PyData.eqv (toPy d1) (toPy d2)
/-- flat things: no lists, no tuples -/
def flatD : D → Bool
  | .non => true
  | .bl _ => true
  | .int _ => true
  | .str _ => true
  | _ => false
theorem Rep.flat {K : PySem.W.Frag} {Z : Addr → Prop} {H : Hp} {d : D} {v : V} {G : List Addr} (r : Rep K Z H d v G) (h : flatD d = true) : flatV v = true ∧ ∀ (d' : D) (v' : V) (G' : List Addr), Rep K Z H d' v' G' → flatD d' = true → eqV v' v = deq d' d := by
  cases d <;> simp only [flatD, reduceCtorEq] at h <;> cases r <;> refine ⟨rfl, fun d' v' G' r' h' => ?_⟩ <;> cases d' <;> simp only [flatD, reduceCtorEq] at h' <;> cases r' <;> simp [eqV, deq, toPy, PyData.eqv]
theorem Reps.flat {K : PySem.W.Frag} {Z : Addr → Prop} {H : Hp} {d : D} {v : V} {G : List Addr} (r : Rep K Z H d v G) (h : flatD d = true) : ∀ {ds : List D} {vs : List V} {Gs : List Addr}, Reps K Z H ds vs Gs → ds.all flatD = true → vs.all flatV = true ∧ inV v vs = ds.any fun x => deq x d
  | _, _, _, .nil, _ => ⟨rfl, rfl⟩
  | _, _, _, .cons r1 rs, ha => by
    rw [List.all_cons, Bool.and_eq_true] at ha
    obtain ⟨h1, h2⟩ := Reps.flat r h rs ha.2
    refine ⟨by rw [List.all_cons, (r1.flat ha.1).1, h1]; rfl, ?_⟩
    unfold inV at h2 ⊢
    rw [List.any_cons, List.any_cons, h2, (r.flat h).2 _ _ _ r1 ha.1]
end
end DL

namespace DL
open PySem PySem.Spec L2
variable [LamT]

section
variable {X : Cx} {n : Nat} {e a b c f : Expr} {es : List Expr} {E : EnvT} {k : Opd → EnvT → Prop} {pos p p2 : Pos} {r : List V → Hp → VK → Prop}
def GivesP (K : PySem.W.Frag) (Z : Addr → Prop) (H : Hp) (P : D → Prop) (r : VK → Prop) : Prop := ∀ Q : VK, (∀ d v H' G, P d → Rep K Z H' d v G → Grow H H' G → Q v H') → r Q
theorem wo_ba (hp : PE X f (tCB r (wpA X es))) (h : WA X es E fun os E1 => ∃ P : D → Prop, (∀ Z H σ F vs G, EnvS X.K Z H E1 σ F → OpdRs X.K Z H σ os vs G → GivesP X.K Z H P (r vs H)) ∧ ∀ d, P d → k (.val d) E1) : WO X f E k := by
  intro Z H σ F Q he hk
  refine wpE_by hp (h Z H σ F _ he fun os E1 Z1 H1 F1 G vs ⟨P, op, q⟩ f1 r1 => ?_)
  refine op Z1 H1 σ F1 vs G f1.env r1 Q fun d v H' G' pd rv gr => ?_
  exact hk _ E1 Z1 H' F1 G' v (q d pd) (f1.grow gr) rv
theorem WA.mono {k k' : List Opd → EnvT → Prop} (h : WA X es E k) (m : ∀ o E', k o E' → k' o E') : WA X es E k' := fun Z H σ F Q he hk => h Z H σ F Q he fun o E' Z' H' F' G v q => hk o E' Z' H' F' G v (m o E' q)
theorem wo_b1 (hp : PE X f (tCB r (wpA X [a]))) (h : WO X a E fun o1 E1 => ∃ d1, o1.get E1 = some d1 ∧ ∃ P : D → Prop, (∀ Z H v G, Rep X.K Z H d1 v G → GivesP X.K Z H P (r [v] H)) ∧ ∀ d, P d → k (.val d) E1)
    (hs : starEach [a] X.env = (false, eval a X.env) :: starEach [] X.env := by rfl) : WO X f E k := by
  refine wo_ba hp (wa_cons (WO.mono h fun o1 E1 ⟨d1, g, P, op, q⟩ => wa_nil ⟨P, fun Z H σ F vs G he rs => ?_, q⟩) hs)
  cases rs with
  | cons r1 rs =>
    cases rs
    obtain ⟨G', r', _⟩ := r1.use he g
    exact op Z H _ G' r'
theorem wo_b2 (hp : PE X f (tCB r (wpA X [a, b]))) (h : WO X a E fun o1 E1 => WO X b E1 fun o2 E2 => ∃ d1 d2, o1.get E2 = some d1 ∧ o2.get E2 = some d2 ∧ ∃ P : D → Prop, (∀ Z H v1 v2 G1 G2, Rep X.K Z H d1 v1 G1 → Rep X.K Z H d2 v2 G2 → GivesP X.K Z H P (r [v1, v2] H)) ∧ ∀ d, P d → k (.val d) E2)
    (hs : starEach [a, b] X.env = (false, eval a X.env) :: starEach [b] X.env := by rfl) (hs2 : starEach [b] X.env = (false, eval b X.env) :: starEach [] X.env := by rfl) : WO X f E k := by
  refine wo_ba hp (wa_cons (WO.mono h fun o1 E1 q => wa_cons (WO.mono q fun o2 E2 ⟨d1, d2, g1, g2, P, op, q⟩ => wa_nil ⟨P, fun Z H σ F vs G he rs => ?_, q⟩) hs2) hs)
  cases rs with
  | cons r1 rs =>
    cases rs with
    | cons r2 rs =>
      cases rs
      obtain ⟨G1, r1', _⟩ := r1.use he g1
      obtain ⟨G2, r2', _⟩ := r2.use he g2
      exact op Z H _ _ G1 G2 r1' r2'
theorem GivesP.one {K : PySem.W.Frag} {Z : Addr → Prop} {H : Hp} {d : D} {r : VK → Prop} (h : ∀ Q : VK, (∀ v H' G, Rep K Z H' d v G → Grow H H' G → Q v H') → r Q) : GivesP K Z H (fun x => x = d) r := fun Q q => h Q fun v H' G rv g => q d v H' G rfl rv g

/-! ### built-ins by name -/
theorem wo_len (hg : Gl X "len") (hm : X.mg "len" = none) (h : WO X a E fun o E1 => ∃ ds, (o.get E1).bind D.seq = some ds ∧ k (.val (.int ds.length)) E1) (hs : starEach [a] X.env = (false, eval a X.env) :: starEach [] X.env := by rfl) : WO X (.Call (.Name "len" p) [a] [] pos) E k :=
  wo_b1 (pe_callB call_len_seq hg hm boot_len pa_w (he := hs)) (WO.mono h fun o E1 ⟨ds, g1, kk⟩ => by
    cases g : o.get E1 with
    | none => rw [g] at g1; simp at g1
    | some d1 =>
      rw [g] at g1
      refine ⟨d1, rfl, _, fun Z H v G rv => GivesP.one fun Q q => ?_, fun d e => by rw [e]; exact kk⟩
      obtain ⟨x, vs, G', rfl, hs, rs⟩ := rv.seq (by simpa using g1)
      refine ⟨x, vs, rfl, hs, ?_⟩
      rw [← rs.len]
      exact q _ H [] (.int _) Grow.refl) hs
theorem wo_abs (hg : Gl X "abs") (hm : X.mg "abs" = none) (h : WO X a E fun o E1 => ∃ i, o.get E1 = some (.int i) ∧ k (.val (.int (if i < 0 then -i else i))) E1) (hs : starEach [a] X.env = (false, eval a X.env) :: starEach [] X.env := by rfl) : WO X (.Call (.Name "abs" p) [a] [] pos) E k :=
  wo_b1 (pe_callB call_abs hg hm (by decide +kernel) pa_w (he := hs)) (WO.mono h fun o E1 ⟨i, g, kk⟩ => ⟨_, g, _, fun Z H v G rv => GivesP.one fun Q q => by
    cases rv
    exact ⟨i, rfl, q _ H [] (.int _) Grow.refl⟩, fun d e => by rw [e]; exact kk⟩) hs
theorem wo_intI (hg : Gl X "int") (hm : X.mg "int" = none) (h : WO X a E fun o E1 => ∃ i, o.get E1 = some (.int i) ∧ k (.val (.int i)) E1) (hs : starEach [a] X.env = (false, eval a X.env) :: starEach [] X.env := by rfl) : WO X (.Call (.Name "int" p) [a] [] pos) E k :=
  wo_b1 (pe_callTy call_int1 hg hm (by decide +kernel) pa_w (he := hs)) (WO.mono h fun o E1 ⟨i, g, kk⟩ => ⟨_, g, _, fun Z H v G rv => GivesP.one fun Q q => by
    cases rv
    exact .inl ⟨i, rfl, q _ H [] (.int _) Grow.refl⟩, fun d e => by rw [e]; exact kk⟩) hs
theorem wo_max2 (hc : X.calm = true) (hg : Gl X "max") (hm : X.mg "max" = none) (h : WO X a E fun o1 E1 => WO X b E1 fun o2 E2 => Two E2 o1 o2 fun i j => k (.val (.int (if j > i then j else i))) E2) (hs : starEach [a, b] X.env = (false, eval a X.env) :: starEach [b] X.env := by rfl) (hs2 : starEach [b] X.env = (false, eval b X.env) :: starEach [] X.env := by rfl) : WO X (.Call (.Name "max" p) [a, b] [] pos) E k :=
  wo_b2 (pe_callB (call_max2 hc) hg hm (by decide +kernel) pa_w (he := hs) (hpl := by rw [hs2]; rfl)) (WO.mono h fun o1 E1 q => WO.mono q fun o2 E2 ⟨i, j, g1, g2, kk⟩ => ⟨_, _, g1, g2, _, fun Z H v1 v2 G1 G2 r1 r2 => GivesP.one fun Q q => by
    cases r1
    cases r2
    exact ⟨i, j, rfl, q _ H [] (.int _) Grow.refl⟩, fun d e => by rw [e]; exact kk⟩) hs hs2
theorem wo_min2 (hc : X.calm = true) (hg : Gl X "min") (hm : X.mg "min" = none) (h : WO X a E fun o1 E1 => WO X b E1 fun o2 E2 => Two E2 o1 o2 fun i j => k (.val (.int (if j < i then j else i))) E2) (hs : starEach [a, b] X.env = (false, eval a X.env) :: starEach [b] X.env := by rfl) (hs2 : starEach [b] X.env = (false, eval b X.env) :: starEach [] X.env := by rfl) : WO X (.Call (.Name "min" p) [a, b] [] pos) E k :=
  wo_b2 (pe_callB (call_min2 hc) hg hm (by decide +kernel) pa_w (he := hs) (hpl := by rw [hs2]; rfl)) (WO.mono h fun o1 E1 q => WO.mono q fun o2 E2 ⟨i, j, g1, g2, kk⟩ => ⟨_, _, g1, g2, _, fun Z H v1 v2 G1 G2 r1 r2 => GivesP.one fun Q q => by
    cases r1
    cases r2
    exact ⟨i, j, rfl, q _ H [] (.int _) Grow.refl⟩, fun d e => by rw [e]; exact kk⟩) hs hs2
/-- tuple(list) -/
theorem wo_tuple (hg : Gl X "tuple") (hm : X.mg "tuple" = none) (h : WO X a E fun o E1 => ∃ ds, (o.get E1).bind D.seq = some ds ∧ Imms ds ∧ k (.val (.tup ds)) E1) (hs : starEach [a] X.env = (false, eval a X.env) :: starEach [] X.env := by rfl) : WO X (.Call (.Name "tuple" p) [a] [] pos) E k :=
  wo_b1 (pe_callTy call_tuple_of hg hm (by decide +kernel) pa_w (he := hs)) (WO.mono h fun o E1 ⟨ds, g1, im, kk⟩ => by
    cases g : o.get E1 with
    | none => rw [g] at g1; simp at g1
    | some d1 =>
      rw [g] at g1
      refine ⟨d1, rfl, _, fun Z H v G rv => GivesP.one fun Q q => ?_, fun d e => by rw [e]; exact kk⟩
      obtain ⟨x, vs, G', rfl, hs, rs⟩ := rv.seq (by simpa using g1)
      have rs0 := rs.nils im
      rcases hs with hs | hs
      · exact ⟨x, vs, rfl, .inl ⟨hs, fun l hl => q _ _ [] (.tup (SqT.of upd_same) (rs0.grow (Grow.new0 hl))) (Grow.new0 hl)⟩⟩
      · exact ⟨x, vs, rfl, .inr ⟨hs, q _ H [] (.tup hs rs0) Grow.refl⟩⟩) hs
/-- list(..) -/
theorem wo_list (hg : Gl X "list") (hm : X.mg "list" = none) (h : WO X a E fun o E1 => ∃ ds, (o.get E1).bind D.seq = some ds ∧ Imms ds ∧ k (.val (.lst ds)) E1) (hs : starEach [a] X.env = (false, eval a X.env) :: starEach [] X.env := by rfl) : WO X (.Call (.Name "list" p) [a] [] pos) E k :=
  wo_b1 (pe_callTy call_list_of hg hm (by decide +kernel) pa_w (he := hs)) (WO.mono h fun o E1 ⟨ds, g1, im, kk⟩ => by
    cases g : o.get E1 with
    | none => rw [g] at g1; simp at g1
    | some d1 =>
      rw [g] at g1
      refine ⟨d1, rfl, _, fun Z H v G rv => GivesP.one fun Q q => ?_, fun d e => by rw [e]; exact kk⟩
      obtain ⟨x, vs, G', rfl, hs, rs⟩ := rv.seq (by simpa using g1)
      exact ⟨x, vs, rfl, hs, fun l hl => q _ _ [l] (.lst upd_same ((rs.nils im).grow (Grow.new hl))) (Grow.new hl)⟩) hs
theorem Reps.ints {K : PySem.W.Frag} {Z : Addr → Prop} {H : Hp} : ∀ {ns : List Int} {vs : List V} {G : List Addr}, Reps K Z H (ns.map D.int) vs G → vs = ns.map V.int
  | [], _, _, .nil => rfl
  | n :: ns, _, _, .cons r rs => by
    cases r
    rw [Reps.ints rs]
    rfl
theorem Reps.ofInts {K : PySem.W.Frag} {Z : Addr → Prop} {H : Hp} : ∀ (ns : List Int), Reps K Z H (ns.map D.int) (ns.map V.int) []
  | [] => .nil
  | n :: ns => .cons (.int n) (Reps.ofInts ns)
theorem Reps.bls {K : PySem.W.Frag} {Z : Addr → Prop} {H : Hp} : ∀ {ns : List Bool} {vs : List V} {G : List Addr}, Reps K Z H (ns.map D.bl) vs G → vs = ns.map V.bl
  | [], _, _, .nil => rfl
  | n :: ns, _, _, .cons r rs => by
    cases r
    rw [Reps.bls rs]
    rfl
/-- all(list of bools) -/
theorem wo_all (hc : X.calm = true) (hg : Gl X "all") (hm : X.mg "all" = none) (h : WO X a E fun o E1 => ∃ ns : List Bool, (o.get E1).bind D.lseq = some (ns.map D.bl) ∧ k (.val (.bl (ns.all id))) E1)
    (hs : starEach [a] X.env = (false, eval a X.env) :: starEach [] X.env := by rfl) : WO X (.Call (.Name "all" p) [a] [] pos) E k :=
  wo_b1 (pe_callB (cr_all hc) hg hm (by decide +kernel) pa_w (he := hs)) (WO.mono h fun o E1 ⟨ns, g1, kk⟩ => by
    cases g : o.get E1 with
    | none => rw [g] at g1; simp at g1
    | some d1 =>
      rw [g] at g1
      refine ⟨d1, rfl, _, fun Z H v G rv => GivesP.one fun Q q => ?_, fun d e => by rw [e]; exact kk⟩
      obtain ⟨x, vs, G', rfl, hs, rs⟩ := rv.lseq (by simpa using g1)
      have ev := rs.bls
      subst ev
      exact ⟨x, ns, rfl, hs, q _ H [] (.bl _) Grow.refl⟩) hs
/-- a tree's built-in class -/
def D.ty : D → Option String
  | .non => some "NoneType"
  | .bl _ => some "bool"
  | .int _ => some "int"
  | .str _ => some "str"
  | .tup _ => some "tuple"
  | .pt _ => some "tuple"
  | .lst _ => some "list"
  | .fz _ => some "list"
  | .ow _ _ => some "list"
  | .dic _ _ => some "dict"
  | .fd _ _ => some "dict"
  | _ => none
theorem Rep.ty {K : PySem.W.Frag} {Z : Addr → Prop} {H : Hp} {d : D} {v : V} {G : List Addr} {t : String} (r : Rep K Z H d v G) (h : d.ty = some t) : TyX K H v (.type t) := by
  cases r <;> simp only [D.ty, Option.some.injEq, reduceCtorEq] at h <;> subst h
  case non => exact .base .non
  case bl => exact .base (.bl _)
  case int => exact .base (.int _)
  case str => exact .base (.str _)
  case tup hs _ =>
    rcases hs with (q | ⟨o, q⟩) | ⟨o, its, m, hk, hc, _⟩
    · exact .base (.tup q)
    · exact .fTuple q
    · exact .kTuple hk hc
  case pt hs _ _ => exact .fTuple hs
  case lst hs _ => exact .base (.lst hs)
  case ow hs _ => exact .base (.lst hs)
  case fz hs _ =>
    rcases hs with ⟨_, (q | ⟨o, q⟩)⟩ | q
    · exact .base (.lst q)
    · exact .base (.frz q)
    · rcases q (fun _ => none) with (q | ⟨o, q⟩) | ⟨o, its, m, hk, hc, _⟩
      · cases q
      · cases q
      · exact .kList hk hc
  case dic hs _ _ => exact .base (.dK hs)
  case fd hs _ => exact .base (.dK hs.2.1)
end
end DL

namespace DL
open PySem PySem.Spec L2
variable [LamT]

section
variable {K : PySem.W.Frag} {Z Z1 Z2 Z' : Addr → Prop} {H H1 H2 H' : Hp} {F F1 F2 F' G Gt G1 G2 G' R Fd Fd' : List Addr} {σ : Sl} {E E1 E2 E' : EnvT} {d d1 d2 : D} {v v1 v2 : V} {ds ds' : List D} {vs vs' : List V} {a : Addr} {i : Nat} {o' : HO}
/-- neither a tuple, nor a table of code objects, nor a code object -/
structure NX (H : Hp) (a : Addr) : Prop where
  tup : ∀ xs, ¬ Rd H a (.tup xs)
  tbl : ∀ ps, H a ≠ some (.tbl ps)
  ext : ∀ φ, H a ≠ some (.ext φ)
/-- what is owned may be changed -/
theorem Stp.upd (ha : a ∈ F) (hz : ¬ Z a) (hm : NX H a) (no : NTb o' := by first | exact ntb_lst | exact ntb_dK | exact ntb_ins | assumption) : Stp Z H F Z (upd H a o') F where
  z1 := fun _ h => h
  z2 := fun _ h => .inl h
  fr := fun b o e hb _ => by rw [upd_ne (fun q => hb (by rw [q]; exact ha))]; exact e
  tb := fun h p hp => by
    obtain ⟨ps, h1, h2, h3⟩ := h p hp
    refine ⟨ps, by rw [upd_ne (fun q => hm.tbl ps (by rw [← q]; exact h1))]; exact h1, h2, fun pos cv hc => ?_⟩
    obtain ⟨c, e1, e2⟩ := h3 pos cv hc
    exact ⟨c, e1, by rw [upd_ne (fun q => hm.ext _ (by rw [← q]; exact e2))]; exact e2⟩
  th := fun b o e n => by
    by_cases h : b = a
    · exact ⟨o', by rw [h]; exact upd_same, no⟩
    · exact ⟨o, by rw [upd_ne h]; exact e, n⟩
  f2 := fun _ h => .inl h
  tu := fun b xs h => by
    have hb : b ≠ a := fun q => hm.tup xs (by rw [← q]; exact h)
    rcases h with h | ⟨o, h⟩
    · exact .inl (by rw [upd_ne hb]; exact h)
    · exact .inr ⟨o, by rw [upd_ne hb]; exact h⟩
  fl := fun b xs z _ h => by
    have hb : b ≠ a := fun q => hz (by rw [← q]; exact z)
    rw [upd_ne hb]
    exact h
  ft := fun b o xs h => by
    have hb : b ≠ a := fun q => hm.tup xs (by rw [← q]; exact .inr ⟨o, h⟩)
    rw [upd_ne hb]
    exact h
/-- a slot's object changed in place: gen tells that the new tree stands -/
theorem EnvS.chg (e : EnvS K Z H E σ F) (hE : E[i]? = some (some d)) (hv : σ[i]? = some (some (.ref a))) (hr : Rep K Z H d (.ref a) (a :: Fd)) (hR : EnvR K Z H (E.set i none) σ R) (hp : F.Perm ((a :: Fd) ++ R)) (hm : NX H a)
    (nt : (Gt ++ F).Nodup) (nzt : ∀ x ∈ Gt, ¬ Z x) (hs : ∀ x ∈ Fd', x ∈ Fd ∨ x ∈ Gt) (hn : (a :: Fd').Nodup) (gen : Stp Z H (Gt ++ F) Z (L2.upd H a o') (Gt ++ F) → Rep K Z (L2.upd H a o') d1 (.ref a) (a :: Fd')) (no : NTb o' := by first | exact ntb_lst | exact ntb_dK | exact ntb_ins | assumption) :
    ∃ F', EnvS K Z (L2.upd H a o') (E.set i (some d1)) σ F' ∧ Stp Z H (Gt ++ F) Z (L2.upd H a o') F' := by
  have nF := hp.nodup_iff.mp e.nd
  have nF' := List.nodup_append.mp nF
  have haF : a ∈ F := hp.mem_iff.mpr (List.mem_append_left _ List.mem_cons_self)
  have s0 : Stp Z H (Gt ++ F) Z (L2.upd H a o') (Gt ++ F) := Stp.upd (List.mem_append_right _ haF) (e.nz a haF) hm
  have s1 : Stp Z H [a] Z (L2.upd H a o') [a] := Stp.upd (by simp) (e.nz a haF) hm
  have hR' := hR.step s1 (fun x hx q => by
    rw [List.mem_singleton.mp q] at hx
    exact nF'.2.2 a List.mem_cons_self a hx rfl)
  obtain ⟨F', h1, h2⟩ := hR'.put (i := i) (d := d1) (v := .ref a) (G := a :: Fd') (by
    obtain ⟨hl, _⟩ := List.getElem?_eq_some_iff.mp hE
    simp [hl]) hv (gen s0)
  rw [List.set_set] at h1
  have sub : ∀ x ∈ a :: Fd', x ∈ Gt ∨ x ∈ a :: Fd := fun x hx => by
    rcases List.mem_cons.mp hx with q | q
    · exact .inr (by rw [q]; exact List.mem_cons_self)
    · exact (hs x q).elim (fun z => .inr (List.mem_cons_of_mem _ z)) .inl
  have inF : ∀ x ∈ F', x ∈ Gt ∨ x ∈ F := fun x hx => by
    rcases List.mem_append.mp (h2.mem_iff.mp hx) with q | q
    · exact (sub x q).imp_right fun z => hp.mem_iff.mpr (List.mem_append_left _ z)
    · exact .inr (hp.mem_iff.mpr (List.mem_append_right _ q))
  have nN : ((a :: Fd') ++ R).Nodup := List.nodup_append.mpr ⟨hn, nF'.2.1, fun x hx y hy q => by
    subst q
    rcases sub x hx with z | z
    · exact (List.nodup_append.mp nt).2.2 x z x (hp.mem_iff.mpr (List.mem_append_right _ hy)) rfl
    · exact nF'.2.2 x z x hy rfl⟩
  refine ⟨F', ⟨h1, h2.nodup_iff.mpr nN, fun x hx => (inF x hx).elim (nzt x) (e.nz x), e.zt.stp s0⟩, s0.sub fun x hx => (inF x hx).elim (List.mem_append_left _) (List.mem_append_right _)⟩
/-- a list in a slot -/
theorem EnvS.lst (e : EnvS K Z H E σ F) (hE : E[i]? = some (some (.lst ds))) : ∃ a vs Fd R, σ[i]? = some (some (.ref a)) ∧ H a = some (.lst vs) ∧ Reps K Z H ds vs Fd ∧ EnvR K Z H (E.set i none) σ R ∧ F.Perm ((a :: Fd) ++ R) := by
  obtain ⟨v, G, R, h1, h2, h3, h4⟩ := e.r.get hE
  cases h2 with
  | lst hl rs => exact ⟨_, _, _, R, h1, hl, rs, h3, h4⟩
theorem lst_nt (h : H a = some (.lst vs)) : NX H a := ⟨(fun xs q => by rcases q with q | ⟨o, q⟩ <;> (rw [h] at q; cases q)), (fun ps q => by rw [h] at q; cases q), fun φ q => by rw [h] at q; cases q⟩
theorem EnvS.chgL (e : EnvS K Z H E σ F) (hE : E[i]? = some (some (.lst ds))) (hv : σ[i]? = some (some (.ref a))) (hl : H a = some (.lst vs)) (rs : Reps K Z H ds vs Fd) (hR : EnvR K Z H (E.set i none) σ R) (hp : F.Perm ((a :: Fd) ++ R))
    (nt : (Gt ++ F).Nodup) (nzt : ∀ x ∈ Gt, ¬ Z x) (hs : ∀ x ∈ Fd', x ∈ Fd ∨ x ∈ Gt) (hn : (a :: Fd').Nodup) (rs' : Reps K Z H ds' vs' Fd') :
    ∃ F', EnvS K Z (L2.upd H a (.lst vs')) (E.set i (some (.lst ds'))) σ F' ∧ Stp Z H (Gt ++ F) Z (L2.upd H a (.lst vs')) F' := by
  have haF : a ∈ F := hp.mem_iff.mpr (List.mem_append_left _ List.mem_cons_self)
  have s1 : Stp Z H [a] Z (L2.upd H a (.lst vs')) [a] := Stp.upd (by simp) (e.nz a haF) (lst_nt hl)
  exact e.chg hE hv (.lst hl rs) hR hp (lst_nt hl) nt nzt hs hn fun _ => .lst upd_same (rs'.step s1 fun x hx q => by
    rw [List.mem_singleton.mp q] at hx
    exact (List.nodup_cons.mp hn).1 hx)
end

section
variable {X : Cx} {n : Nat} {e a b c f : Expr} {es : List Expr} {E : EnvT} {k : Opd → EnvT → Prop} {pos apos p p2 : Pos} {i : Nat} {x : Str}
theorem pe_slot (hN : X.N[i]? = some x) (hv : Vis X.env.scope x := by first | exact Or.inl rfl | exact Or.inr (Or.inl rfl) | exact Or.inr (Or.inr rfl)) (hd : (x == ("__debug__" : Str)) = false := by decide) (hcd : (x == ("__classdict__" : Str)) = false := by decide) : PE X (.Name x p) (tVar i) := pe_var hN hv hd hcd
/-- x.append(e) -/
theorem wo_append (hN : X.N[i]? = some x) (hE : ∃ ds0, E[i]? = some (some (.lst ds0)))
    (h : WO X e E fun o E1 => ∃ d ds, o = .val d ∧ E1[i]? = some (some (.lst ds)) ∧ ds.length < 100000 ∧ k (.val .non) (E1.set i (some (.lst (ds ++ [d])))))
    (hp : PE X (.Name x p) (tVar i)) (hb : PE X (.Call (.Attribute (.Name x p) "append" apos) [e] [] pos) (tBM X.K "list" rAppend (tVar i) (wpA X [e]))) (hs : starEach [e] X.env = (false, eval e X.env) :: starEach [] X.env := by rfl) :
    WO X (.Call (.Attribute (.Name x p) "append" apos) [e] [] pos) E k := by
  intro Z H σ F Q he hk
  obtain ⟨ds0, hE⟩ := hE
  obtain ⟨a0, vs0, Fd0, R0, hv, hl0, _⟩ := he.lst hE
  refine wpE_by hb ⟨_, hv, .inl ⟨rfl, vs0, SqL.of hl0⟩, ?_⟩
  have hA : WA X [e] E fun os E1 => ∃ o, os = [o] ∧ ∃ d ds, o = .val d ∧ E1[i]? = some (some (.lst ds)) ∧ ds.length < 100000 ∧ k (.val .non) (E1.set i (some (.lst (ds ++ [d])))) := wa_cons (WO.mono h fun o E1 q => wa_nil ⟨o, rfl, q⟩) hs
  refine hA Z H σ F _ he fun os E1 Z1 H1 F1 G vs ⟨o, eo, d, ds, ed, hE1, hlen, kk⟩ f1 rs => ?_
  subst eo
  subst ed
  cases rs with
  | cons r1 rn =>
    cases rn
    rename_i w G1
    have f1' : Fin X.K Z H σ F E1 Z1 H1 F1 G1 := by have z := f1; rw [List.append_nil] at z; exact z
    obtain ⟨a1, vs1, Fd, R, hv1, hl1, rd, hR, hp1⟩ := f1.env.lst hE1
    rw [hv] at hv1
    cases hv1
    have hl := rd.len
    have nF := hp1.nodup_iff.mp f1'.env.nd
    have dis := (List.nodup_append.mp f1'.nd).2.2
    have hn : (a0 :: (Fd ++ G1)).Nodup := by
      have n1 := (List.nodup_append.mp nF).1
      refine List.nodup_cons.mpr ⟨fun hm => ?_, List.nodup_append.mpr ⟨(List.nodup_cons.mp n1).2, (List.nodup_append.mp f1'.nd).1, fun y hy z hz q => ?_⟩⟩
      · rcases List.mem_append.mp hm with m | m
        · exact (List.nodup_cons.mp n1).1 m
        · exact dis a0 m a0 (hp1.mem_iff.mpr (List.mem_append_left _ List.mem_cons_self)) rfl
      · subst q
        exact dis y hz y (hp1.mem_iff.mpr (List.mem_append_left _ (List.mem_cons_of_mem _ hy))) rfl
    obtain ⟨F', e2, s2⟩ := f1.env.chgL hE1 hv hl1 rd hR hp1 (Gt := G1) (Fd' := Fd ++ G1) f1'.nd f1'.nz (fun y hy => List.mem_append.mp hy) hn (rd.app (Reps.one r1))
    refine ⟨a0, vs1, w, rfl, rfl, hl1, Nat.lt_of_lt_of_le (by omega) (by decide : 100000 ≤ sizeLine), ?_⟩
    exact hk _ _ Z1 _ F' [] _ kk ⟨e2, e2.nd, (fun y hy => nomatch hy), f1'.st.trans s2⟩ .non
/-- x.insert(e, f), things that own nothing -/
theorem wo_insert (hE : ∃ ds0, E[i]? = some (some (.lst ds0)))
    (h : WO X e E fun o1 E1 => WO X f E1 fun o2 E2 => ∃ j d ds, o1.get E2 = some (.int j) ∧ o2 = .val d ∧ Imm d ∧ E2[i]? = some (some (.lst ds)) ∧ Imms ds ∧ ds.length < 100000 ∧ (0 ≤ j ∧ j < 2 ^ 63) ∧ k (.val .non) (E2.set i (some (.lst (ds.take j.toNat ++ [d] ++ ds.drop j.toNat)))))
    {rr : V → List V → Hp → VK → Prop} (hrr : rr = fun x vs H Q => ∃ (l : Addr) (xs : List V) (i : Int) (y : V), x = .ref l ∧ vs = [.int i, y] ∧ H l = some (.lst xs) ∧ xs.length < sizeLine ∧ 0 ≤ i ∧ i < 2 ^ 63 ∧ Q .non (upd H l (.lst (xs.take i.toNat ++ [y] ++ xs.drop i.toNat))))
    (hb : PE X (.Call (.Attribute (.Name x p) "insert" apos) [e, f] [] pos) (tBM X.K "list" rr (tVar i) (wpA X [e, f]))) (hs : starEach [e, f] X.env = (false, eval e X.env) :: starEach [f] X.env := by rfl) (hs2 : starEach [f] X.env = (false, eval f X.env) :: starEach [] X.env := by rfl) :
    WO X (.Call (.Attribute (.Name x p) "insert" apos) [e, f] [] pos) E k := by
  intro Z H σ F Q he hk
  obtain ⟨ds0, hE⟩ := hE
  obtain ⟨a0, vs0, Fd0, R0, hv, hl0, _⟩ := he.lst hE
  refine wpE_by hb ⟨_, hv, .inl ⟨rfl, vs0, SqL.of hl0⟩, ?_⟩
  have hA : WA X [e, f] E fun os E2 => ∃ o1 o2, os = [o1, o2] ∧ ∃ j d ds, o1.get E2 = some (.int j) ∧ o2 = .val d ∧ Imm d ∧ E2[i]? = some (some (.lst ds)) ∧ Imms ds ∧ ds.length < 100000 ∧ (0 ≤ j ∧ j < 2 ^ 63) ∧ k (.val .non) (E2.set i (some (.lst (ds.take j.toNat ++ [d] ++ ds.drop j.toNat)))) :=
    wa_cons (WO.mono h fun o1 E1 q => wa_cons (WO.mono q fun o2 E2 q => wa_nil ⟨o1, o2, rfl, q⟩) hs2) hs
  refine hA Z H σ F _ he fun os E1 Z1 H1 F1 G vs ⟨o1, o2, eo, j, d, ds, g1, ed, im, hE1, ims, hlen, hj, kk⟩ f1 rs => ?_
  subst eo
  subst ed
  cases rs with
  | cons r1 rn =>
    cases rn with
    | cons r2 rn =>
      cases rn
      rename_i w1 G1 w2 G2
      obtain ⟨Gj, rj, _⟩ := r1.use f1.env g1
      cases rj
      obtain ⟨a1, vs1, Fd, R, hv1, hl1, rd, hR, hp1⟩ := f1.env.lst hE1
      rw [hv] at hv1
      cases hv1
      have hl := rd.len
      have rd0 := rd.nils ims
      have r20 : Rep X.K Z1 H1 d w2 [] := Rep.nils r2 im
      obtain ⟨Ga, ra, _⟩ := rd0.take j.toNat
      obtain ⟨Gb, rb, _⟩ := rd0.drop j.toNat
      have ra0 := ra.nils (imms_iff.mpr fun d hd => imms_iff.mp ims d (List.take_subset _ _ hd))
      have rb0 := rb.nils (imms_iff.mpr fun d hd => imms_iff.mp ims d (List.drop_subset _ _ hd))
      obtain ⟨F', e2, s2⟩ := f1.env.chgL hE1 hv hl1 rd hR hp1 (Gt := []) (Fd' := []) f1.env.nd (fun y hy => nomatch hy) (fun y hy => nomatch hy) (by simp) ((ra0.app (Reps.one r20)).app rb0)
      subst hrr
      refine ⟨a0, vs1, j, w2, rfl, rfl, hl1, Nat.lt_of_lt_of_le (by omega) (by decide : 100000 ≤ sizeLine), hj.1, hj.2, ?_⟩
      exact hk _ _ Z1 _ F' [] _ kk ⟨e2, e2.nd, (fun y hy => nomatch hy), f1.nil.st.trans s2⟩ .non
/-- x.pop() -/
theorem wo_pop {ds : List D} {d : D} (hE : E[i]? = some (some (.lst ds))) (hd : ds[ds.length - 1]? = some d) (hi : Imms ds) (h : k (.val d) (E.set i (some (.lst ds.dropLast))))
    (hb : PE X (.Call (.Attribute (.Name x p) "pop" apos) [] [] pos) (tBM0 X.K "list" rPop (tVar i))) : WO X (.Call (.Attribute (.Name x p) "pop" apos) [] [] pos) E k := by
  intro Z H σ F Q he hk
  obtain ⟨a0, vs, Fd, R, hv, hl0, rd, hR, hp⟩ := he.lst hE
  have rd0 := rd.nils hi
  have hl := rd.len
  obtain ⟨v, G', hv1, rv, _⟩ := rd0.get hd
  refine wpE_by hb ⟨_, hv, .inl ⟨rfl, vs, SqL.of hl0⟩, ?_⟩
  rw [hl] at hv1
  have e1 : ds.dropLast = ds.take (ds.length - 1) := List.dropLast_eq_take
  have e2 : vs.dropLast = vs.take (ds.length - 1) := by rw [hl]; exact List.dropLast_eq_take
  obtain ⟨Ga, ra, _⟩ := rd0.take (ds.length - 1)
  rw [← e1, ← e2] at ra
  have im : Imms ds.dropLast := imms_iff.mpr fun d hd => imms_iff.mp hi d (List.dropLast_subset _ hd)
  obtain ⟨F', e3, s3⟩ := he.chgL hE hv hl0 rd hR hp (Gt := []) (Fd' := []) he.nd (fun y hy => nomatch hy) (fun y hy => nomatch hy) (by simp) (ra.nils im)
  refine ⟨a0, vs, v, rfl, rfl, hl0, hv1, ?_⟩
  have s4 : Stp Z H F Z (upd H a0 (.lst vs.dropLast)) F' := s3
  exact hk _ _ Z _ F' [] v h ⟨e3, e3.nd, (fun y hy => nomatch hy), s4⟩ ((rv.nils (imms_get hi hd)).step s4 fun y hy => nomatch hy)
/-- x.index(e) of a list -/
theorem wo_index {o : Expr} (h : WO X o E fun o1 E1 => ∃ ds0, (o1.get E1).bind D.lseq = some ds0 ∧ WO X e E1 fun o2 E2 => ∃ ds d j z, (o1.get E2).bind D.lseq = some ds ∧ o2.get E2 = some d ∧ flatD d = true ∧ ds.all flatD = true ∧ ds[j]? = some z ∧ deq z d = true ∧
      (∀ (m : Nat) (z' : D), m < j → ds[m]? = some z' → deq z' d = false) ∧ k (.val (.int (j : Nat))) E2)
    (hb : PE X (.Call (.Attribute o "index" apos) [e] [] pos) (tBM X.K "list" (rIndex X.K) (wpE X o) (wpA X [e]))) (hs : starEach [e] X.env = (false, eval e X.env) :: starEach [] X.env := by rfl) :
    WO X (.Call (.Attribute o "index" apos) [e] [] pos) E k := by
  intro Z H σ F Q he hk
  refine wpE_by hb (h Z H σ F _ he fun o1 E1 Z1 H1 F1 G1 v1 ⟨ds0, g0, q⟩ f1 r1 => ?_)
  obtain ⟨d0, gd0, gs0⟩ : ∃ d0, o1.get E1 = some d0 ∧ d0.lseq = some ds0 := by
    cases g : o1.get E1 with
    | none => rw [g] at g0; simp at g0
    | some d0 => rw [g] at g0; exact ⟨d0, rfl, by simpa using g0⟩
  obtain ⟨G0, rr0, _⟩ := r1.use f1.env gd0
  obtain ⟨a0, vs0, G0', ev, hs0, rs0⟩ := rr0.lseq gs0
  refine ⟨by rw [ev]; exact .inl ⟨rfl, vs0, hs0⟩, ?_⟩
  have hA : WA X [e] E1 fun os E2 => ∃ o2, os = [o2] ∧ ∃ ds d j z, (o1.get E2).bind D.lseq = some ds ∧ o2.get E2 = some d ∧ flatD d = true ∧ ds.all flatD = true ∧ ds[j]? = some z ∧ deq z d = true ∧
      (∀ (m : Nat) (z' : D), m < j → ds[m]? = some z' → deq z' d = false) ∧ k (.val (.int (j : Nat))) E2 := wa_cons (WO.mono q fun o E2 q => wa_nil ⟨o, rfl, q⟩) hs
  refine hA Z1 H1 σ F1 _ f1.env fun os E2 Z2 H2 F2 G2 ws ⟨o2, eo, ds, d, j, z, g1, g2, fl, fls, hz, hzd, hno, kk⟩ f2 rs => ?_
  subst eo
  cases rs with
  | cons r2 rn =>
    cases rn
    rename_i w2 G3
    have r1' := r1.step f2.st (f1.off r1.mem f2)
    obtain ⟨d1, gd1, gs1⟩ : ∃ d1, o1.get E2 = some d1 ∧ d1.lseq = some ds := by
      cases g : o1.get E2 with
      | none => rw [g] at g1; simp at g1
      | some d1 => rw [g] at g1; exact ⟨d1, rfl, by simpa using g1⟩
    obtain ⟨G4, rr1, _⟩ := r1'.use f2.env gd1
    obtain ⟨a1, vs, G4', ev1, hs1, rs1⟩ := rr1.lseq gs1
    obtain ⟨G5, rr2, _⟩ := r2.use f2.env g2
    obtain ⟨vz, G6, hvz, rz, _⟩ := rs1.get hz
    have flt := rr2.flat fl
    have fz : ∀ (m : Nat) (z' : D), ds[m]? = some z' → flatD z' = true := fun m z' hm => List.all_eq_true.mp fls z' (List.mem_of_getElem? hm)
    refine ⟨a1, vs, w2, j, vz, ev1, rfl, hs1, flt.1, (Reps.flat rr2 fl rs1 fls).1, hvz, ?_, fun m y hm hy => ?_, ?_⟩
    · rw [flt.2 z vz G6 rz (fz j z hz)]
      exact hzd
    · have hml : m < ds.length := by
        have q1 := (List.getElem?_eq_some_iff.mp hy).1
        have q2 := rs1.len
        omega
      obtain ⟨vy, G7, hvy, ry, _⟩ := rs1.get (i := m) (d := ds[m]) (List.getElem?_eq_getElem hml)
      rw [hy] at hvy
      cases hvy
      rw [flt.2 _ y G7 ry (fz m _ (List.getElem?_eq_getElem hml))]
      exact hno m _ hm (List.getElem?_eq_getElem hml)
    · exact hk _ E2 Z2 H2 F2 [] _ kk (f1.then f2).nil (.int _)
end
end DL

namespace DL
open PySem PySem.Spec L2
variable [LamT]

/-! ### while -/
section
variable {X : Cx} {n : List Nat} {e a b c f : Expr} {es : List Expr} {body : List Stmt} {E : EnvT} {k : KS} {pos p : Pos} {tg iter : Expr}
end

/-! ### what a loop walks -/
/-- m turns, the j-th gives the tree src j -/
structure SrcOk (K : PySem.W.Frag) (J : It) (m : Nat) (src : Nat → D) (Gp : (Addr → Prop) → Hp → Prop) : Prop where
  goes : ∀ Z i H, i < m → Gp Z H → J.go i H
  stops : ∀ Z H, Gp Z H → J.stop m H
  gives : ∀ Z i H x H', i < m → Gp Z H → J.yld i H x H' → Rep K Z H' (src i) x [] ∧ Grow H H' []
/-- what keeps the walked thing: steps, where the watched slots hold what they held -/
def Stay (K : PySem.W.Frag) (w : List (Nat × D)) (Z : Addr → Prop) (H : Hp) (σ : Sl) (F : List Addr) (Gp : (Addr → Prop) → Hp → Prop) : Prop :=
  ∀ E' Z' H' σ' F' G, FinS K (w.map (·.1)) Z H σ F E' Z' H' σ' F' G → (∀ p ∈ w, E'[p.1]? = some (some p.2)) → Gp Z' H'
def wpI (X : Cx) (tg iter : Expr) (σ : Sl) (H : Hp) (R : It → Hp → Prop) : Prop := ∀ (pins : List (Addr × Obj)) (s : Shared), Inv X pins σ H s →
  wpAny (model X.prog X.w) X.A (eval iter X.env) (fun v s1 => wpAny (model X.prog X.w) X.A (pyIter v) (PIE X pins σ tg R) X.xe s1) X.xe s
def WI (X : Cx) (tg iter : Expr) (E : EnvT) (k : List (Nat × D) → Nat → (Nat → D) → EnvT → Prop) : Prop := ∀ (Z : Addr → Prop) (H : Hp) (σ : Sl) (F : List Addr) (R : It → Hp → Prop), EnvS X.K Z H E σ F →
  (∀ w m src E' Z' H' F' J Gp G, k w m src E' → Fin X.K Z H σ F E' Z' H' F' G → SrcOk X.K J m src Gp → Gp Z' H' → Stay X.K w Z' H' σ F' Gp → R J H') → wpI X tg iter σ H R
section
variable {X : Cx} {n : List Nat} {e a b c f : Expr} {es : List Expr} {body : List Stmt} {E : EnvT} {pos p : Pos} {tg iter : Expr}
theorem pi_w : PI X tg iter (wpI X tg iter) := ⟨fun pins s σ H R I h => h pins s I⟩
theorem wpI_by {t : TI} {σ : Sl} {H : Hp} {R : It → Hp → Prop} (h : PI X tg iter t) (q : t σ H R) : wpI X tg iter σ H R := fun pins s I => h.run pins s σ H R I q
/-- for over anything, by a word of the turn and the slots -/
theorem ws_for {k : KS} (hp : PassesOwn (model X.prog X.w) X.A X.env X.xe) (hc : X.calm = true)
    (h : WI X tg iter E fun w m src E1 => ∃ I : Nat → EnvT → Prop, I 0 E1 ∧ (∀ j E', j ≤ m → I j E' → ∀ p ∈ w, E'[p.1]? = some (some p.2)) ∧
      (∀ j E', j < m → I j E' → WG X (w.map (·.1) ++ n) tg (src j) E' fun E2 => WSs X (w.map (·.1) ++ n) body E2 { nx := I (j + 1), rt := k.rt, bk := k.nx, ct := I (j + 1) }) ∧ ∀ E', I m E' → k.nx E')
    (hs : ∀ x, foldedSetIterable iter X.env x = pure x := by intro _; rfl) : WS X n (.For tg iter body [] pos) E k := by
  intro Z H σ F D he hk
  refine wpS_by (ps_for hp hc pi_w pg_w pss_w hs) (h Z H σ F _ he fun w m src E1 Z1 H1 F1 J Gp G ⟨I, i0, iw, step, fin⟩ f1 ok g1 stay => ?_)
  have f10 := f1.nil
  have pn : ∀ {σ' : Sl}, Pin (w.map (·.1) ++ n) σ σ' → Pin n σ σ' := fun h => h.sub fun i hi => List.mem_append_right _ hi
  have lower : ∀ {E' Z' H' σ' F' G'}, FinS X.K (w.map (·.1) ++ n) Z1 H1 σ F1 E' Z' H' σ' F' G' → FinS X.K n Z H σ F E' Z' H' σ' F' G' := fun q => ⟨q.env, q.nd, q.nz, f10.st.trans q.st, pn q.pin⟩
  have gp : ∀ {j E' Z' H' σ' F'}, j ≤ m → I j E' → FinS X.K (w.map (·.1) ++ n) Z1 H1 σ F1 E' Z' H' σ' F' [] → Gp Z' H' := fun hj ij q => stay _ _ _ _ _ _ ⟨q.env, q.nd, q.nz, q.st, q.pin.sub fun i hi => List.mem_append_left _ hi⟩ (iw _ _ hj ij)
  refine ⟨fun i l σ' H' => l = m - i ∧ i ≤ m ∧ ∃ E' Z' F', I i E' ∧ FinS X.K (w.map (·.1) ++ n) Z1 H1 σ F1 E' Z' H' σ' F' [], ⟨m, by simp, Nat.zero_le _, E1, Z1, F1, i0, ⟨f10.env, f10.nd, f10.nz, Stp.refl, Pin.refl⟩⟩, ?_⟩
  rintro i l σ2 H2 ⟨rfl, hi, E2, Z2, F2, i2, f2⟩
  have gp2 := gp hi i2 f2
  by_cases hlt : i < m
  · refine .inr ⟨ok.goes Z2 i H2 hlt gp2, fun σ' H' => ∃ E' Z' F', I (i + 1) E' ∧ FinS X.K (w.map (·.1) ++ n) Z1 H1 σ F1 E' Z' H' σ' F' [], fun σ' H' q => ⟨m - (i + 1), by omega, rfl, hlt, q⟩, fun x H3 y => ?_⟩
    obtain ⟨rx, gr⟩ := ok.gives Z2 i H2 x H3 hlt gp2 y
    have e3 : EnvS X.K Z2 H3 E2 σ2 F2 := ⟨f2.env.r.kp gr.kp fun a _ o _ e => gr.gr a o e, f2.env.nd, f2.env.nz, f2.env.zt.gr gr⟩
    have f3 : FinS X.K (w.map (·.1) ++ n) Z1 H1 σ F1 E2 Z2 H3 σ2 F2 [] := ⟨e3, e3.nd, (fun a h => nomatch h), f2.st.trans gr.st, f2.pin⟩
    refine step i E2 hlt i2 Z2 H3 σ2 F2 [] x _ e3 rx e3.nd (fun a h => nomatch h) fun E4 Z4 H4 σ4 F4 q4 f4 => ?_
    have f34 := f3.trans (show FinS X.K (w.map (·.1) ++ n) Z2 H3 σ2 F2 E4 Z4 H4 σ4 F4 [] from f4)
    refine q4 Z4 H4 σ4 F4 _ f4.env ⟨fun E5 Z5 H5 σ5 F5 q5 f5 => ⟨E5, Z5, F5, q5, f34.trans f5⟩, fun d v E5 Z5 H5 σ5 F5 G5 q5 f5 r5 => hk.rt d v E5 Z5 H5 σ5 F5 G5 q5 (lower (f34.trans f5)) r5,
      fun E5 Z5 H5 σ5 F5 q5 f5 => hk.nx E5 Z5 H5 σ5 F5 q5 (lower (f34.trans f5)), fun E5 Z5 H5 σ5 F5 q5 f5 => ⟨E5, Z5, F5, q5, f34.trans f5⟩⟩
  · have e : i = m := by omega
    subst e
    exact .inl ⟨ok.stops Z2 H2 gp2, hk.nx E2 Z2 H2 σ2 F2 (fin E2 i2) (lower f2)⟩

/-! ### sources -/
theorem seq_of {o : Opd} {ds : List D} {g : D → Option (List D)} (h : (o.get E).bind g = some ds) : ∃ d, o.get E = some d ∧ g d = some ds := by
  cases e : o.get E with
  | none => rw [e] at h; simp at h
  | some d => rw [e] at h; exact ⟨d, rfl, by simpa using h⟩
theorem getD_some {ds : List D} {i : Nat} {d : D} (h : ds[i]? = some d) : ds.getD i .non = d := by rw [List.getD_eq_getElem?_getD, h]; rfl
theorem SqT.stp {K : PySem.W.Frag} {Z Z' : Addr → Prop} {H H' : Hp} {F F' : List Addr} {a : Addr} {vs : List V} (s : Stp Z H F Z' H' F') (h : SqT K H a vs) : SqT K H' a vs := SqT.kp s.tu h
/-- what must stand still while a list is walked -/
def watch (E : EnvT) : Opd → List (Nat × D)
  | .val _ => []
  | .bor i => [(i, (E[i]?.join).getD .non)]
/-- a list of things that own nothing, in a slot or just made -/
theorem wi_lst {k : List (Nat × D) → Nat → (Nat → D) → EnvT → Prop} (h : WO X iter E fun o E1 => ∃ ds, (o.get E1).bind D.lseq = some ds ∧ Imms ds ∧ k (watch E1 o) ds.length (fun i => ds.getD i .non) E1) : WI X tg iter E k := by
  intro Z H σ F R he hk
  refine wpI_by (pi_list pe_w) (h Z H σ F _ he fun o E1 Z1 H1 F1 G v ⟨ds, g1, im, kk⟩ f1 r1 => ?_)
  obtain ⟨d1, gd, gs⟩ := seq_of g1
  obtain ⟨G', r', _⟩ := r1.use f1.env gd
  obtain ⟨a, vs, G3, rfl, hs, rs⟩ := r'.lseq gs
  have rs0 := rs.nils im
  refine ⟨a, rfl, ⟨vs, hs⟩, hk (watch E1 o) ds.length _ E1 Z1 H1 F1 _ (fun Z' H' => ∃ vs, SqL X.K H' a vs ∧ Reps X.K Z' H' ds vs []) [] kk f1.nil ⟨fun Z' i H' hi ⟨ws, q1, q2⟩ => ?_, fun Z' H' ⟨ws, q1, q2⟩ => ⟨ws, q1, by rw [q2.len]; exact Nat.le_refl _⟩, fun Z' i H' x H'' hi ⟨ws, q1, q2⟩ y => ?_⟩ ⟨vs, hs, rs0⟩ fun E' Z' H' σ' F' G4 fs hE => ?_⟩
  · obtain ⟨w, _, hw, _, _⟩ := q2.get (i := i) (d := ds[i]) (List.getElem?_eq_getElem hi)
    exact ⟨ws, w, q1, hw⟩
  · obtain ⟨e, hx⟩ := y
    subst e
    obtain ⟨w, G3, hw, rw', _⟩ := q2.get (i := i) (d := ds[i]) (List.getElem?_eq_getElem hi)
    rw [hx ws q1] at hw
    cases hw
    rw [getD_some (List.getElem?_eq_getElem hi)]
    exact ⟨rw'.nils (imms_get im (List.getElem?_eq_getElem hi)), Grow.refl⟩
  · cases o with
    | val d2 =>
      cases gd
      have hr : Rep X.K Z' H' d1 (.ref a) G := Rep.step fs.st r1 fun x hx hf => (List.nodup_append.mp f1.nd).2.2 x hx x hf rfl
      obtain ⟨a2, vs2, G5, e2, hs2, rs2⟩ := hr.lseq gs
      cases e2
      exact ⟨vs2, hs2, rs2.nils im⟩
    | bor i =>
      have hg : E1[i]?.join = some d1 := gd
      have hv : σ[i]? = some (some (.ref a)) := r1.1
      have hi' := hE (i, (E1[i]?.join).getD .non) (by simp [watch])
      rw [hg] at hi'
      obtain ⟨v2, G5, R5, h1, h2, _⟩ := fs.env.r.get (i := i) (d := d1) hi'
      have hp : σ'[i]? = σ[i]? := fs.pin i (by simp [watch])
      rw [hp, hv] at h1
      cases h1
      obtain ⟨a2, vs2, G6, e2, hs2, rs2⟩ := h2.lseq gs
      cases e2
      exact ⟨vs2, hs2, rs2.nils im⟩
theorem wi_range1 {k : List (Nat × D) → Nat → (Nat → D) → EnvT → Prop} (hg : Gl X "range") (hm : X.mg "range" = none) (h : WO X a E fun o E1 => ∃ j : Int, o.get E1 = some (.int j) ∧ (-(2 ^ 62) ≤ j ∧ j < 2 ^ 62) ∧ k [] j.toNat (fun i => .int (0 + (i : Int))) E1)
    (hs : starEach [a] X.env = [(false, eval a X.env)] := by rfl) (hs2 : starEach [a] X.env = (false, eval a X.env) :: starEach [] X.env := by rfl) : WI X tg (.Call (.Name "range" p) [a] [] pos) E k := by
  intro Z H σ F R he hk
  have hA : WA X [a] E fun os E1 => ∃ o, os = [o] ∧ ∃ j : Int, o.get E1 = some (.int j) ∧ (-(2 ^ 62) ≤ j ∧ j < 2 ^ 62) ∧ k [] j.toNat (fun i => .int (0 + (i : Int))) E1 := wa_cons (WO.mono h fun o E1 q => wa_nil ⟨o, rfl, q⟩) hs2
  refine wpI_by (pi_range1 hg hm pa_w hs) (hA Z H σ F _ he fun os E1 Z1 H1 F1 G vs ⟨o, eo, j, g, hj, kk⟩ f1 rs => ?_)
  subst eo
  cases rs with
  | cons r1 rn =>
    cases rn
    obtain ⟨G', r', _⟩ := r1.use f1.env g
    cases r'
    have wk := walk_range (lo := 0) (n := j.toNat)
    refine ⟨j, rfl, hj.1, hj.2, hk [] j.toNat _ E1 Z1 H1 F1 _ (fun _ _ => True) [] kk f1.nil ⟨fun _ i H' hi q => wk.goes i H' hi trivial, fun _ H' q => wk.stops H' trivial, fun Z' i H' x H'' hi q y => ?_⟩ trivial fun _ _ _ _ _ _ _ _ => trivial⟩
    obtain ⟨e, hx⟩ := wk.yields i H' x H'' hi trivial y
    subst e hx
    exact ⟨.int _, Grow.refl⟩
end
end DL

namespace DL
open PySem PySem.Spec L2
variable [LamT]

section
variable {X : Cx} {a : Expr} {E : EnvT} {pos p : Pos}
end
end DL

namespace DL
open PySem PySem.Spec L2
variable [LamT]
open PyProof.Rows (envOfC)

/-! ### a pair as a target -/
section
variable {X : Cx} {n : List Nat} {E : EnvT} {pos p : Pos}
theorem wg_pair {i j kk : Nat} {x y : Str} {d1 d2 : D} {k : EnvT → Prop} {px py pt : Pos} (hc : X.calm = true) (hN : X.N.Nodup) (hi : X.N[i]? = some x) (hj : X.N[j]? = some y) (hx : Loc X.env.scope x) (hy : Loc X.env.scope y) (hni : i ∉ n) (hnj : j ∉ n) (hE : i < E.length) (hE2 : j < E.length)
    (h : k ((E.set i (some d1)).set j (some d2))) (hf : X.fn x = true ∨ X.env.scope.names.lookup x = some .local := by first | exact .inl rfl | exact .inr rfl | assumption) (hf2 : X.fn y = true ∨ X.env.scope.names.lookup y = some .local := by first | exact .inl rfl | exact .inr rfl | assumption)
    (hp : ∀ t, PGs X [.Name x px, .Name y py] t → PG X (.Tuple [.Name x px, .Name y py] kk pt) (gTup X.K 2 t)) (hp2 : ∀ t u, PG X (.Name x px) t → PGs X [.Name y py] u → PGs X [.Name x px, .Name y py] (gCons t u)) (hp3 : ∀ t, PG X (.Name y py) t → PGs X [.Name y py] (gCons t gNil)) :
    WG X n (.Tuple [.Name x px, .Name y py] kk pt) (.tup [d1, d2]) E k := by
  intro Z H σ F G v Q he r nd nz hk
  refine wpG_by (hp _ (hp2 _ _ (pg_name hN hi hx hf) (hp3 _ (pg_name hN hj hy hf2)))) ?_
  cases r with
  | tup hs rs =>
    cases rs with
    | cons r1 rs =>
      cases rs with
      | cons r2 rs =>
        cases rs
        rename_i v1 G1 v2 G2
        have ndr : (G2 ++ F).Nodup := (List.Sublist.append_right (by rw [List.append_nil]; exact List.sublist_append_right G1 G2) F).nodup nd
        have ndl : (G1 ++ F).Nodup := (List.Sublist.append_right (List.sublist_append_left G1 _) F).nodup nd
        obtain ⟨F1, h1, m1⟩ := he.asg r1 ndl (fun a ha => nz a (List.mem_append_left _ ha)) hE
        have n12 : ∀ a ∈ G2, a ∉ G1 := fun a ha hb => by
          have q := (List.nodup_append.mp (List.nodup_append.mp nd).1).2.2
          exact q a hb a (List.mem_append_left _ ha) rfl
        have ndr2 : (G2 ++ F1).Nodup := List.nodup_append.mpr ⟨(List.nodup_append.mp ndr).1, h1.nd, fun a ha b hb e => by
          subst e
          rcases m1 a hb with q | q
          · exact n12 a ha q
          · exact (List.nodup_append.mp ndr).2.2 a ha a q rfl⟩
        obtain ⟨F2, h2, m2⟩ := h1.asg r2 ndr2 (fun a ha => nz a (List.mem_append_right _ (List.mem_append_left _ ha))) (by rw [List.length_set]; exact hE2)
        refine ⟨_, _, rfl, hs, rfl, v1, [v2], rfl, v2, [], rfl, rfl, ?_⟩
        refine hk _ Z H _ F2 h ⟨h2, h2.nd, (fun a q => nomatch q), Stp.refl.sub fun a ha => ?_, (Pin.set hni).trans (Pin.set hnj)⟩
        rcases m2 a ha with q | q
        · exact List.mem_append_left _ (List.mem_append_right _ (List.mem_append_left _ q))
        · rcases m1 a q with z | z
          · exact List.mem_append_left _ (List.mem_append_left _ z)
          · exact List.mem_append_right _ z
end

/-! ### a def's promise over trees -/
structure Ct where
  α : Type
  pre : α → List D → Prop
  post : α → D → List D → Prop
/-- the first pin arguments come back changed, the others are given away -/
def toSp (K : PySem.W.Frag) (pin : Nat) (S : Ct) : Sp := fun vs H Q _ => ∃ Z ds F, Reps K Z H ds vs F ∧ F.Nodup ∧ (∀ a ∈ F, ¬ Z a) ∧ Zt K Z H ∧ ∃ a : S.α, S.pre a ds ∧ ∀ d ds', S.post a d ds' →
  ∀ v Z' H' G F', Reps K Z' H' ds' (vs.take pin) F' → Rep K Z' H' d v G → (G ++ F').Nodup → (∀ a ∈ G ++ F', ¬ Z' a) → Zt K Z' H' → Stp Z H F Z' H' (G ++ F') → Q v H'
section
variable {K : PySem.W.Frag} {Z Z1 Z2 Z' : Addr → Prop} {H H1 H2 H' : Hp} {F F1 F2 F' G G1 G2 G' R : List Addr} {σ σ' : Sl} {E E1 E2 E' : EnvT}
theorem EnvR.start (r : Reps K Z H ds vs F) (m : Nat) : EnvR K Z H (ds.map some ++ List.replicate m none) (vs.map some ++ List.replicate m none) F := by
  have base : ∀ m : Nat, EnvR K Z H (List.replicate m none) (List.replicate m none) [] := fun m => by
    induction m with
    | zero => exact .nil
    | succ m ih => exact .no ih
  revert vs F
  induction ds with
  | nil => intro vs F r; cases r; exact base m
  | cons d ds ih =>
    intro vs F r
    cases r with
    | cons r rs => exact .so r (ih rs)
theorem EnvR.back : ∀ {E : EnvT} {σ : Sl} {F : List Addr}, EnvR K Z H E σ F → ∀ (pin : Nat) (vs : List V) (ds' : List D), pin ≤ vs.length → (∀ i, i < pin → σ[i]? = (vs.map some)[i]?) → E.take pin = ds'.map some → ∃ F', Reps K Z H ds' (vs.take pin) F' ∧ F'.Sublist F
  | _, _, _, _, 0, vs, ds', _, _, e => by
    have z : ds' = [] := by
      cases ds' with
      | nil => rfl
      | cons d ds => simp at e
    subst z
    exact ⟨[], by rw [List.take_zero]; exact .nil, List.nil_sublist _⟩
  | _, _, _, .nil, pin + 1, vs, ds', hl, hs, e => by
    cases vs with
    | nil => simp at hl
    | cons v vs =>
      have q := hs 0 (Nat.succ_pos _)
      simp at q
  | _, _, _, .no r, pin + 1, vs, ds', hl, hs, e => by
    cases ds' with
    | nil => simp at e
    | cons d ds => simp at e
  | _, _, _, .so (v := w) r rs, pin + 1, vs, ds', hl, hs, e => by
    cases vs with
    | nil => simp at hl
    | cons v vs =>
      have q := hs 0 (Nat.succ_pos _)
      have ew : w = v := by simpa using q
      subst ew
      cases ds' with
      | nil => simp at e
      | cons d ds =>
        rw [List.take_succ_cons, List.map_cons] at e
        injection e with e1 e2
        cases e1
        obtain ⟨F', h1, h2⟩ := EnvR.back rs pin vs ds (by simpa using hl) (fun i hi => by simpa using hs (i + 1) (by omega)) e2
        exact ⟨_, .cons r h1, List.Sublist.append_left h2 _⟩
end
section
variable {P : Program} {w : World} {K : PySem.W.Frag} {mg : Str → Option Value} {base : Heap}
/-- a def keeps its promise, from its body -/
theorem fn_ok {x qual : Str} {st : Stmt} {dvs : List V} {kws : List (Str × V)} {f : Addr} {fd : FuncData} {N ps : List Str} {k pin : Nat} {S : Ct} (F : FunD K x qual (defArgs st) (defBody st) (defScope st) dvs kws f fd) (sc : FnScope N ps (defScope st))
    (hlen : ∀ a ds, S.pre a ds → ds.length = ps.length) (hpin : pin ≤ ps.length)
    (body : ∀ (cdv : Value) (A : Around) (outer : List Env) (s : Shared) (H : Hp) (E : XK), Room k (A.deeper (envOfC qual (defScope st) s.heap.objs.size f cdv)) → ∀ (a : S.α) (ds : List D), S.pre a ds →
      (let X : Cx := (cxOf CX0 P w K mg base N qual (defScope st) f cdv A outer s H E).nox
      WSs X (List.range pin) (defBody st) (ds.map some ++ List.replicate (N.length - ps.length) none)
        { nx := fun E' => ∃ ds', E'.take pin = ds'.map some ∧ S.post a .non ds', rt := fun d E' => ∃ ds', E'.take pin = ds'.map some ∧ S.post a d ds' })) : FnOk P w K mg base CX0 (k + 1) f fd ps (toSp K pin S) := by
  have ln : ∀ vs H Q E, toSp K pin S vs H Q E → vs.length = ps.length := fun vs H Q E ⟨Z, ds, F, r, _, _, _, a, pa, _⟩ => by rw [← r.len]; exact hlen a ds pa
  refine F.ok sc ln fun cdv A outer s H vs Q E hr hsp => ?_
  have hl := ln _ _ _ _ hsp
  obtain ⟨Z, ds, F0, r, nd, nz, zt, a, pa, hq⟩ := hsp
  refine ⟨_, PSs.nox pss_w, ?_⟩
  have he : EnvS K Z H (ds.map some ++ List.replicate (N.length - ps.length) none) (start N vs) F0 := ⟨by
    have q := EnvR.start r (N.length - ps.length)
    unfold L2.start
    rw [hl]
    exact q, nd, nz, zt⟩
  have getv : ∀ {σ' : Sl}, Pin (List.range pin) (start N vs) σ' → ∀ i, i < pin → σ'[i]? = (vs.map some)[i]? := fun hpn i hi => by
    rw [hpn i (List.mem_range.mpr hi)]
    unfold L2.start
    rw [List.getElem?_append_left]
    rw [List.length_map, hl]
    omega
  refine body cdv A outer s H E hr a ds pa Z H (start N vs) F0 _ he ⟨fun E' Z' H' σ' F' ⟨ds', e, po⟩ f => ?_, fun d v E' Z' H' σ' F' G ⟨ds', e, po⟩ f rv => ?_, fun _ _ _ _ _ q _ => q.elim, fun _ _ _ _ _ q _ => q.elim⟩
  · obtain ⟨F2, r2, s2⟩ := f.env.r.back pin vs ds' (by omega) (getv f.pin) e
    exact hq .non ds' po .non Z' H' [] F2 r2 .non (s2.nodup f.env.nd) (fun a ha => f.env.nz a (s2.subset ha)) f.env.zt (f.st.sub fun x hx => s2.subset hx)
  · obtain ⟨F2, r2, s2⟩ := f.env.r.back pin vs ds' (by omega) (getv f.pin) e
    refine hq d ds' po v Z' H' G F2 r2 rv ((List.Sublist.append_left s2 G).nodup f.nd) (fun a ha => ?_) f.env.zt (f.st.sub fun x hx => (List.Sublist.append_left s2 G).subset hx)
    rcases List.mem_append.mp ha with q | q
    · exact f.nz a q
    · exact f.env.nz a (s2.subset q)
end

/-! ### calls -/
inductive Gets (E : EnvT) : List Opd → List D → Prop
  | nil : Gets E [] []
  | val {d : D} {os : List Opd} {ds : List D} : Gets E os ds → Gets E (.val d :: os) (d :: ds)
  | bor {i : Nat} {d : D} {os : List Opd} {ds : List D} : E[i]? = some (some d) → Imm d → Gets E os ds → Gets E (.bor i :: os) (d :: ds)
section
variable {K : PySem.W.Frag} {Z : Addr → Prop} {H : Hp} {F : List Addr} {σ : Sl} {E : EnvT}
theorem Gets.reps (he : EnvS K Z H E σ F) : ∀ {os : List Opd} {ds : List D} {vs : List V} {G : List Addr}, Gets E os ds → OpdRs K Z H σ os vs G → ∃ G', Reps K Z H ds vs G' ∧ G'.Sublist G
  | _, _, _, _, .nil, .nil => ⟨_, .nil, List.Sublist.refl _⟩
  | _, _, _, _, .val g, .cons r rs => by
    obtain ⟨G', h1, h2⟩ := Gets.reps he g rs
    exact ⟨_, .cons r h1, List.Sublist.append_left h2 _⟩
  | _, _, _, _, .bor (i := i) (d := d) hE im g, .cons (v := v) r rs => by
    obtain ⟨G', h1, h2⟩ := Gets.reps he g rs
    obtain ⟨G1, r1, _⟩ := OpdR.use (o := .bor i) he r (d := d) (by show E[i]?.join = some d; rw [hE]; rfl)
    exact ⟨_, .cons (r1.nils im) h1, h2.trans (List.sublist_append_right _ _)⟩
end
theorem Gets.of {E : EnvT} : ∀ {os : List Opd} {ds : List D}, valsOf os = some ds → Gets E os ds
  | [], ds, h => by
    rw [valsOf] at h
    cases h
    exact .nil
  | .val d :: os, ds, h => by
    rw [valsOf] at h
    cases e : valsOf os with
    | none => rw [e] at h; cases h
    | some es =>
      rw [e] at h
      cases h
      exact .val (Gets.of e)
  | .bor _ :: _, ds, h => by
    rw [valsOf] at h
    cases h
section
variable {X : Cx} {E : EnvT} {k : Opd → EnvT → Prop} {f : Expr} {es : List Expr} {S : Ct} {XE : XK}
theorem wo_call0 (hp : PE X f (tCall (toSp X.K 0 S) [] XE (wpA X es))) (h : WA X es E fun os E1 => ∃ ds, valsOf os = some ds ∧ ∃ a, S.pre a ds ∧ ∀ d, S.post a d [] → k (.val d) E1) : WO X f E k := by
  intro Z H σ F Q he hk
  refine wpE_by hp (h Z H σ F _ he fun os E1 Z1 H1 F1 G vs ⟨ds, g0, a, pa, hq⟩ f1 rs => ?_)
  have g := Gets.of (E := E1) g0
  obtain ⟨G', r, sub⟩ := g.reps f1.env rs
  have f2 := f1.sub sub
  rw [List.append_nil]
  refine ⟨Z1, ds, G', r, (List.nodup_append.mp f2.nd).1, f2.nz, f1.env.zt, a, pa, fun d ds' po v Z' H' G2 F2 r2 rv nd nz zt st => ?_⟩
  rw [List.take_zero] at r2
  cases r2
  have st0 : Stp Z1 H1 G' Z' H' G2 := st.sub fun x hx => List.mem_append_left _ hx
  have n2 : G2.Nodup := (List.nodup_append.mp nd).1
  have ap := st0.apart (G := F1) (F1 := G') (F2 := G2) f1.env.r.mem (by
    refine List.nodup_append.mpr ⟨f1.env.nd, (List.nodup_append.mp f2.nd).1, fun x hx y hy e => ?_⟩
    subst e
    exact (List.nodup_append.mp f2.nd).2.2 x hy x hx rfl) n2
  have nzF := st0.nz f1.env.r.mem ap.2 f1.env.nz
  refine hk (.val d) E1 Z' H' F1 G2 v (hq d po) ⟨⟨f1.env.r.step st0 ap.2, f1.env.nd, nzF, zt⟩, ?_, fun x hx => nz x (List.mem_append_left _ hx), ?_⟩ rv
  · refine List.nodup_append.mpr ⟨n2, f1.env.nd, fun x hx y hy e => ?_⟩
    subst e
    exact (List.nodup_append.mp ap.1).2.2 x hy x hx rfl
  · exact f2.st.trans (st0.more (fun x hx => List.mem_append_left _ hx) fun x hx => (List.mem_append.mp hx).imp_right fun z => List.mem_append_right _ z)
/-- the first argument an owned thing in a slot -/
theorem wo_call1 (hp : PE X f (tCall (toSp X.K 1 S) [] XE (wpA X es))) (h : WA X es E fun os E1 => ∃ i os' d0 ds, os = .bor i :: os' ∧ E1[i]? = some (some d0) ∧ valsOf os' = some ds ∧ ∃ a, S.pre a (d0 :: ds) ∧ ∀ d d0', S.post a d [d0'] → k (.val d) (E1.set i (some d0'))) : WO X f E k := by
  intro Z H σ F Q he hk
  refine wpE_by hp (h Z H σ F _ he fun os E1 Z1 H1 F1 G vs ⟨i, os', d0, ds, eo, hE, g0, a, pa, hq⟩ f1 rs => ?_)
  subst eo
  have g := Gets.of (E := E1) g0
  cases rs with
  | cons r0 rs =>
    rename_i v0 G0' vs' Gs
    obtain ⟨hv, eG⟩ := r0
    subst eG
    rw [List.nil_append] at f1
    obtain ⟨Gs', r, sub⟩ := g.reps f1.env rs
    have f2 := f1.sub sub
    obtain ⟨v0', G0, R, hv', rp, rR, pm⟩ := f1.env.r.get hE
    rw [hv] at hv'
    cases hv'
    rw [List.append_nil]
    have nF : (G0 ++ R).Nodup := pm.nodup_iff.mp f1.env.nd
    have nA : (G0 ++ Gs').Nodup := by
      refine List.nodup_append.mpr ⟨(List.nodup_append.mp nF).1, (List.nodup_append.mp f2.nd).1, fun x hx y hy e => ?_⟩
      subst e
      exact (List.nodup_append.mp f2.nd).2.2 x hy x (pm.mem_iff.mpr (List.mem_append_left _ hx)) rfl
    have nzA : ∀ x ∈ G0 ++ Gs', ¬ Z1 x := fun x hx => by
      rcases List.mem_append.mp hx with q | q
      · exact f1.env.nz x (pm.mem_iff.mpr (List.mem_append_left _ q))
      · exact f2.nz x q
    refine ⟨Z1, d0 :: ds, G0 ++ Gs', .cons rp r, nA, nzA, f1.env.zt, a, pa, fun d ds' po v Z' H' G2 F2 r2 rv nd nz zt st => ?_⟩
    have et : (v0 :: vs').take 1 = [v0] := rfl
    rw [et] at r2
    cases r2 with
    | cons r2 rn =>
      cases rn
      rename_i d0' Fd
      rw [List.append_nil] at nd nz st
      have nR : ∀ x ∈ R, x ∉ G0 ++ Gs' := fun x hx hm => by
        rcases List.mem_append.mp hm with q | q
        · exact (List.nodup_append.mp nF).2.2 x q x hx rfl
        · exact (List.nodup_append.mp f2.nd).2.2 x q x (pm.mem_iff.mpr (List.mem_append_right _ hx)) rfl
      have rR' := rR.step st nR
      obtain ⟨F3, e3, p3⟩ := rR'.put (i := i) (d := d0') (v := v0) (G := Fd) (by
        obtain ⟨hl, _⟩ := List.getElem?_eq_some_iff.mp hE
        simp [hl]) hv r2
      rw [List.set_set] at e3
      have apR : ∀ x ∈ R, x ∉ G2 ++ Fd := fun x hx hm => by
        rcases st.f2 x hm with q | q
        · exact nR x hx q
        · obtain ⟨o, e, n⟩ := rR.mem x hx
          exact q o e n
      have nd3 : (G2 ++ (Fd ++ R)).Nodup := by
        rw [← List.append_assoc]
        refine List.nodup_append.mpr ⟨nd, (List.nodup_append.mp nF).2.1, fun x hx y hy e => ?_⟩
        subst e
        exact apR x hy hx
      have mem3 : ∀ x ∈ F3, x ∈ Fd ∨ x ∈ R := fun x hx => List.mem_append.mp (p3.mem_iff.mp hx)
      have nzR := st.nz rR.mem nR fun x hx => f1.env.nz x (pm.mem_iff.mpr (List.mem_append_right _ hx))
      have hsub : ∀ x ∈ G0 ++ Gs', x ∈ Gs' ++ F1 := fun x hx => by
        rcases List.mem_append.mp hx with q | q
        · exact List.mem_append_right _ (pm.mem_iff.mpr (List.mem_append_left _ q))
        · exact List.mem_append_left _ q
      refine hk (.val d) _ Z' H' F3 G2 v (hq d d0' po) ⟨⟨e3, p3.nodup_iff.mpr (List.nodup_append.mp nd3).2.1, fun x hx => (mem3 x hx).elim (fun q => nz x (List.mem_append_right _ q)) (nzR x), zt⟩,
        (List.Perm.append_left G2 p3).nodup_iff.mpr nd3, fun x hx => nz x (List.mem_append_left _ hx), ?_⟩ rv
      refine f2.st.trans (st.more hsub fun x hx => ?_)
      rcases List.mem_append.mp hx with q | q
      · exact .inl (List.mem_append_left _ q)
      · rcases mem3 x q with z | z
        · exact .inl (List.mem_append_right _ z)
        · exact .inr (List.mem_append_right _ (pm.mem_iff.mpr (List.mem_append_right _ z)))
end
end DL

namespace DL
open PySem PySem.Spec L2
variable [LamT]

/-! ### slots forgotten -/
def wipeE (E : EnvT) : List Nat → EnvT
  | [] => E
  | i :: is => (wipeE E is).set i none
theorem wipe_get (σ : Sl) : ∀ (vs : List Nat) (j : Nat), (wipe σ vs)[j]? = if j ∈ vs ∧ j < σ.length then some none else σ[j]?
  | [], j => by simp [wipe]
  | v :: vs, j => by
    rw [wipe, List.getElem?_set, wipe_length, wipe_get σ vs j]
    by_cases h : v = j
    · subst h
      by_cases hl : v < σ.length
      · simp [hl]
      · have z : σ[v]? = none := List.getElem?_eq_none_iff.mpr (by omega)
        simp [hl, z]
    · have h' : ¬ j = v := fun e => h e.symm
      simp [h, h']
theorem wipe_idem (σ : Sl) (vs : List Nat) : wipe (wipe σ vs) vs = wipe σ vs := by
  apply List.ext_getElem?
  intro j
  rw [wipe_get, wipe_length, wipe_get]
  split <;> rfl
theorem wipe_set {σ : Sl} {i : Nat} {o : Option V} {vs : List Nat} (h : i ∈ vs) : wipe (σ.set i o) vs = wipe σ vs := by
  apply List.ext_getElem?
  intro j
  rw [wipe_get, wipe_get, List.length_set]
  by_cases hj : j ∈ vs ∧ j < σ.length
  · rw [if_pos hj, if_pos hj]
  · rw [if_neg hj, if_neg hj, List.getElem?_set]
    by_cases e : i = j
    · subst e
      have hl : ¬ i < σ.length := fun q => hj ⟨h, q⟩
      have z : σ[i]? = none := List.getElem?_eq_none_iff.mpr (by omega)
      simp [hl, z]
    · simp [e]
section
variable {K : PySem.W.Frag} {Z Z1 Z2 Z' : Addr → Prop} {H H1 H2 H' : Hp} {F F1 F2 F' G G1 G2 G' R : List Addr} {σ σ' : Sl} {E E1 E2 E' : EnvT}
theorem wipeE_length (E : EnvT) : ∀ vs : List Nat, (wipeE E vs).length = E.length
  | [] => rfl
  | v :: vs => by rw [wipeE, List.length_set, wipeE_length E vs]
theorem wipeE_get (E : EnvT) : ∀ (vs : List Nat) (j : Nat), (wipeE E vs)[j]? = if j ∈ vs ∧ j < E.length then some none else E[j]?
  | [], j => by simp [wipeE]
  | v :: vs, j => by
    rw [wipeE, List.getElem?_set, wipeE_length, wipeE_get E vs j]
    by_cases h : v = j
    · subst h
      by_cases hl : v < E.length
      · simp [hl]
      · have z : E[v]? = none := List.getElem?_eq_none_iff.mpr (by omega)
        simp [hl, z]
    · have h' : ¬ j = v := fun e => h e.symm
      simp [h, h']
theorem EnvR.wipe (r : EnvR K Z H E σ F) : ∀ vs : List Nat, ∃ F2, EnvR K Z H (wipeE E vs) (L2.wipe σ vs) F2 ∧ F2.Sublist F
  | [] => ⟨F, r, List.Sublist.refl _⟩
  | v :: vs => by
    obtain ⟨F2, h1, h2⟩ := EnvR.wipe r vs
    obtain ⟨F3, h3, h4⟩ := h1.drop v none
    exact ⟨F3, h3, h4.trans h2⟩
/-- other values in slots that nothing is known of -/
theorem EnvR.other : ∀ {E : EnvT} {σ : Sl} {F : List Addr}, EnvR K Z H E σ F → ∀ σ' : Sl, σ'.length = σ.length → (∀ (i : Nat) (d : D), E[i]? = some (some d) → σ'[i]? = σ[i]?) → EnvR K Z H E σ' F
  | _, _, _, .nil, σ', hl, _ => by
    have e : σ' = [] := List.eq_nil_of_length_eq_zero hl
    rw [e]
    exact .nil
  | _, _, _, .no r, σ', hl, h => by
    cases σ' with
    | nil => simp at hl
    | cons o σ' => exact .no (EnvR.other r σ' (by simpa using hl) fun i d e => by simpa using h (i + 1) d (by simpa using e))
  | _, _, _, .so (v := v) r rs, σ', hl, h => by
    cases σ' with
    | nil => simp at hl
    | cons o σ' =>
      have e0 : o = some v := by simpa using h 0 _ rfl
      rw [e0]
      exact .so r (EnvR.other rs σ' (by simpa using hl) fun i d e => by simpa using h (i + 1) d (by simpa using e))
theorem EnvS.wipe (e : EnvS K Z H E σ F) (vs : List Nat) : ∃ F2, EnvS K Z H (wipeE E vs) (L2.wipe σ vs) F2 ∧ F2.Sublist F := by
  obtain ⟨F2, h1, h2⟩ := e.r.wipe vs
  exact ⟨F2, ⟨h1, h2.nodup e.nd, fun a ha => e.nz a (h2.subset ha), e.zt⟩, h2⟩
theorem EnvS.unwipe {E0 : EnvT} {vs : List Nat} (e : EnvS K Z H (wipeE E0 vs) (L2.wipe σ vs) F) : EnvS K Z H (wipeE E0 vs) σ F :=
  ⟨e.r.other σ (wipe_length σ vs).symm fun i d h => by
    have hl := e.r.len
    rw [wipeE_length, wipe_length] at hl
    rw [wipeE_get] at h
    rw [wipe_get]
    by_cases q : i ∈ vs ∧ i < E0.length
    · rw [if_pos q] at h
      cases h
    · rw [if_neg (by rw [← hl]; exact q)], e.nd, e.nz, e.zt⟩
end

/-! ### a comprehension's target -/
/-- d is bound to names that are forgotten behind the turn -/
def TgB (K : PySem.W.Frag) (g : TG) (vs : List Nat) (d : D) (E E2 : EnvT) : Prop := ∀ (Z : Addr → Prop) (H : Hp) (σ : Sl) (v : V) (F : List Addr) (Q : Sl → Hp → Prop), EnvS K Z H E σ F → Rep K Z H d v [] →
  (∀ σ2 F2, EnvS K Z H E2 σ2 F2 → (∀ a ∈ F2, a ∈ F) → wipe σ2 vs = wipe σ vs → Q σ2 H) → g v σ H Q
theorem tgb_name {K : PySem.W.Frag} {i : Nat} {vs : List Nat} {d : D} {E : EnvT} (hi : i ∈ vs) (hE : i < E.length) : TgB K (gName i) vs d E (E.set i (some d)) := by
  intro Z H σ v F Q he r hq
  obtain ⟨F', h1, h2⟩ := he.asg (i := i) r he.nd (fun a h => nomatch h) hE
  exact hq _ F' h1 (fun a ha => (h2 a ha).elim (fun q => nomatch q) id) (wipe_set hi)
/-! ### tests of a comprehension -/
def wpTs (X : Cx) (ifs : List Expr) (σ : Sl) (H : Hp) (Q : Bool → Hp → Prop) : Prop := ∀ (pins : List (Addr × Obj)) (s : Shared), Inv X pins σ H s →
  wpAny (model X.prog X.w) X.A (forIn ifs true fun c r => if r = true then do let ok ← isTrue c X.env (eval c X.env); pure (ForInStep.yield ok) else pure (ForInStep.yield r)) (TP X pins σ Q) X.xe s
def WIf (X : Cx) (ifs : List Expr) (E : EnvT) (k : Bool → EnvT → Prop) : Prop := ∀ (Z : Addr → Prop) (H : Hp) (σ : Sl) (F : List Addr) (Q : Bool → Hp → Prop), EnvS X.K Z H E σ F →
  (∀ (b : Bool) (E' : EnvT) (Z' : Addr → Prop) (H' : Hp) (F' : List Addr), k b E' → Fin X.K Z H σ F E' Z' H' F' [] → Q b H') → wpTs X ifs σ H Q
section
variable {X : Cx} {E : EnvT} {c : Expr} {k : Bool → EnvT → Prop}
theorem wif_nil (h : k true E) : WIf X [] E k := fun Z H σ F Q he hk pins s I => pts_nil.run pins s σ H Q I (hk true E Z H F h (Fin.refl he))
theorem wif_one (h : WT X c E k) : WIf X [c] E k := fun Z H σ F Q he hk pins s I => (pts_one pt_w).run pins s σ H Q I (h Z H σ F Q he hk)
end

/-! ### [elt for tg in iter if ..] -/
section
variable {X : Cx} {elt tg iter : Expr} {ifs : List Expr} {scope : Scope} {own : List (Str × Nat)} {pos : Pos} {E : EnvT} {k : Opd → EnvT → Prop} {g : TG}
theorem WI.mono {X : Cx} {tg iter : Expr} {E : EnvT} {k k' : List (Nat × D) → Nat → (Nat → D) → EnvT → Prop} (h : WI X tg iter E k) (m : ∀ w mm src E', k w mm src E' → k' w mm src E') : WI X tg iter E k' := fun Z H σ F R he hk => h Z H σ F R he fun w mm src E' Z' H' F' J Gp G q => hk w mm src E' Z' H' F' J Gp G (m w mm src E' q)
abbrev lcT (X : Cx) (elt tg iter : Expr) (ifs : List Expr) (scope : Scope) (g : TG) (vs : List Nat) : TE := tLc (wpI X tg iter) g (fun σ' H' Q' => ∀ (s : Shared) (H0 : Hp) (C : Addr) (cl : List (Str × Addr)) (fp : List Addr), wpTs (X.blk s H0 scope (compEnvC scope cl C X.env) fp) ifs σ' H' Q')
  (fun σ' H' Q' => ∀ (s : Shared) (H0 : Hp) (C : Addr) (cl : List (Str × Addr)) (fp : List Addr), wpE (X.blk s H0 scope (compEnvC scope cl C X.env) fp) elt σ' H' Q') vs
theorem lc_tree
    (h : WI X tg iter E fun w m src E1 => ∃ I : Nat → List D → EnvT → Prop, I 0 [] (wipeE E1 (own.map (·.2))) ∧ (∀ j acc E', j ≤ m → I j acc E' → ∀ p ∈ w, E'[p.1]? = some (some p.2)) ∧
      (∀ j acc E', j < m → I j acc E' → ∃ E2, TgB X.K g (own.map (·.2)) (src j) E' E2 ∧ ∀ (s : Shared) (H : Hp) (C : Addr) (cl : List (Str × Addr)) (fp : List Addr),
        WIf (X.blk s H scope (compEnvC scope cl C X.env) fp) ifs E2 fun b E3 => (b = true → ∀ (s : Shared) (H : Hp) (C : Addr) (cl : List (Str × Addr)) (fp : List Addr), WE (X.blk s H scope (compEnvC scope cl C X.env) fp) elt E3 fun y E4 => acc.length < 100000 ∧ I (j + 1) (acc ++ [y]) (wipeE E4 (own.map (·.2)))) ∧ (b = false → I (j + 1) acc (wipeE E3 (own.map (·.2))))) ∧
      ∀ acc E', I m acc E' → k (.val (.lst acc)) E') : ∀ (Z : Addr → Prop) (H : Hp) (σ : Sl) (F : List Addr) (Q : VK), EnvS X.K Z H E σ F →
  (∀ (o : Opd) (E' : EnvT) (Z' : Addr → Prop) (H' : Hp) (F' G : List Addr) (v : V), k o E' → Fin X.K Z H σ F E' Z' H' F' G → OpdR X.K Z' H' σ o v G → Q v H') → lcT X elt tg iter ifs scope g (own.map (·.2)) σ H Q := by
  intro Z H σ F Q he hk
  generalize hvs : own.map (·.2) = vs at h ⊢
  refine h Z H σ F _ he fun w m src E1 Z1 H1 F1 J Gp G ⟨I, i0, iw, step, fin⟩ f1 sok g1 stay => ?_
  have f10 := f1.nil
  intro Dd hD
  obtain ⟨Fw, ew, subw⟩ := f10.env.wipe vs
  refine ⟨fun i l H' => l = m - i ∧ i ≤ m ∧ ∃ acc E0 Z' F' Ga ws, I i acc (wipeE E0 vs) ∧ EnvS X.K Z' H' (wipeE E0 vs) (wipe σ vs) F' ∧ H' Dd = some (.lst ws) ∧ Reps X.K Z' H' acc ws Ga ∧ ((Dd :: Ga) ++ F').Nodup ∧ (∀ a ∈ Dd :: Ga, ¬ Z' a) ∧ Stp Z1 H1 F1 Z' H' ((Dd :: Ga) ++ F'), ⟨m, by simp, Nat.zero_le _, ?_⟩, ?_⟩
  · have gr := Grow.new (H := H1) (p := Dd) (o := .lst []) hD
    have dF : Dd ∉ Fw := fun q => by
      obtain ⟨o, e, _⟩ := ew.r.mem Dd q
      rw [hD] at e
      cases e
    refine ⟨[], E1, Z1, Fw, [], [], i0, ⟨ew.r.kp gr.kp fun a _ o _ e => gr.gr a o e, ew.nd, ew.nz, ew.zt.gr gr⟩, upd_same, .nil, List.nodup_cons.mpr ⟨by simpa using dF, by simpa using ew.nd⟩, fun a ha z => ?_, ?_⟩
    · rw [List.mem_singleton.mp ha] at z
      obtain ⟨o, e, _⟩ := f10.env.zt.th Dd z
      rw [hD] at e
      cases e
    · refine (gr.st (Z := Z1) (F := F1)).sub fun x hx => ?_
      rcases List.mem_cons.mp hx with q | q
      · rw [q]; exact List.mem_append_left _ (by simp)
      · exact List.mem_append_right _ (subw.subset (by simpa using q))
  · rintro i l H2 ⟨rfl, hi, acc, E0, Z2, F2, Ga, ws, i2, e2, hD2, ra, nd2, nz2, st2⟩
    have gp : Gp Z2 H2 := stay (wipeE E0 vs) Z2 H2 σ F2 (Dd :: Ga) ⟨e2.unwipe, nd2, nz2, st2, Pin.refl⟩ (iw i acc _ hi i2)
    by_cases hlt : i < m
    · refine .inr ⟨sok.goes Z2 i H2 hlt gp, fun H' => ∃ acc E0 Z' F' Ga ws, I (i + 1) acc (wipeE E0 vs) ∧ EnvS X.K Z' H' (wipeE E0 vs) (wipe σ vs) F' ∧ H' Dd = some (.lst ws) ∧ Reps X.K Z' H' acc ws Ga ∧ ((Dd :: Ga) ++ F').Nodup ∧ (∀ a ∈ Dd :: Ga, ¬ Z' a) ∧ Stp Z1 H1 F1 Z' H' ((Dd :: Ga) ++ F'), fun H' q => ⟨m - (i + 1), by omega, rfl, hlt, q⟩, fun x H3 y => ?_⟩
      obtain ⟨rx, gr⟩ := sok.gives Z2 i H2 x H3 hlt gp y
      have e3 : EnvS X.K Z2 H3 (wipeE E0 vs) (wipe σ vs) F2 := ⟨e2.r.kp gr.kp fun a _ o _ e => gr.gr a o e, e2.nd, e2.nz, e2.zt.gr gr⟩
      have hD3 : H3 Dd = some (.lst ws) := gr.gr _ _ hD2
      have ra3 := ra.grow gr
      have st3 : Stp Z1 H1 F1 Z2 H3 ((Dd :: Ga) ++ F2) := st2.trans gr.st
      have memA : ∀ a ∈ Dd :: Ga, ∃ u, H3 a = some u ∧ NTb u := fun a ha => by
        rcases List.mem_cons.mp ha with q | q
        · exact ⟨_, by rw [q]; exact hD3, ntb_lst⟩
        · exact ra3.mem a q
      obtain ⟨E4, tb, run⟩ := step i acc _ hlt i2
      refine tb Z2 H3 (wipe σ vs) x F2 _ e3 rx fun σ4 F4 e4 sub4 hw4 => ?_
      refine ⟨by rw [hw4, wipe_idem], ?_⟩
      have nd4 : ((Dd :: Ga) ++ F4).Nodup := List.nodup_append.mpr ⟨(List.nodup_append.mp nd2).1, e4.nd, fun a ha b hb q => (List.nodup_append.mp nd2).2.2 a ha b (sub4 b hb) q⟩
      have st4 : Stp Z1 H1 F1 Z2 H3 ((Dd :: Ga) ++ F4) := st3.sub fun a ha => by
        rcases List.mem_append.mp ha with q | q
        · exact List.mem_append_left _ q
        · exact List.mem_append_right _ (sub4 a q)
      intro s H0 C cl fp
      refine run s H0 C cl fp Z2 H3 σ4 F4 _ e4 fun b E5 Z5 H5 F5 q5 f5 => ?_
      have off5 := f5.st.apart (G := Dd :: Ga) (F1 := F4) (F2 := F5) memA nd4 f5.nd
      have nz5 := f5.st.nz memA off5.2 nz2
      have hD5 : H5 Dd = some (.lst ws) := f5.st.fr _ _ hD3 (off5.2 Dd List.mem_cons_self) ntb_lst
      have ra5 := ra3.step f5.st fun a ha => off5.2 a (List.mem_cons_of_mem _ ha)
      have st5 : Stp Z1 H1 F1 Z5 H5 ((Dd :: Ga) ++ F5) := st4.push f5.st
      cases b with
      | false =>
        rw [if_neg Bool.false_ne_true]
        obtain ⟨F6, e6, sub6⟩ := f5.env.wipe vs
        have ew : wipe σ4 vs = wipe σ vs := by rw [hw4, wipe_idem]
        rw [ew] at e6
        exact ⟨acc, E5, Z5, F6, Ga, ws, q5.2 rfl, e6, hD5, ra5, (List.Sublist.append_left sub6 _).nodup off5.1, nz5, st5.sub fun a ha => (List.Sublist.append_left sub6 _).subset ha⟩
      | true =>
        rw [if_pos rfl]
        intro s' H0' C' cl' fp'
        refine q5.1 rfl s' H0' C' cl' fp' Z5 H5 σ4 F5 _ f5.env fun o E6 Z6 H6 F6 Gy y6 ⟨dy, eo, hacc, iy⟩ f6 r6 => ?_
        subst eo
        have ry : Rep X.K Z6 H6 dy y6 Gy := r6
        have off6 := f6.st.apart (G := Dd :: Ga) (F1 := F5) (F2 := Gy ++ F6) (fun a ha => by
          rcases List.mem_cons.mp ha with q | q
          · exact ⟨_, by rw [q]; exact hD5, ntb_lst⟩
          · exact ra5.mem a q) off5.1 f6.nd
        have nz6 := f6.st.nz (fun a ha => by
          rcases List.mem_cons.mp ha with q | q
          · exact ⟨_, by rw [q]; exact hD5, ntb_lst⟩
          · exact ra5.mem a q) off6.2 nz5
        have hD6 : H6 Dd = some (.lst ws) := f6.st.fr _ _ hD5 (off6.2 Dd List.mem_cons_self) ntb_lst
        have ra6 := ra5.step f6.st fun a ha => off6.2 a (List.mem_cons_of_mem _ ha)
        have st6 : Stp Z1 H1 F1 Z6 H6 ((Dd :: Ga) ++ (Gy ++ F6)) := st5.push f6.st
        have hlen := ra6.len
        refine ⟨ws, hD6, Nat.lt_of_lt_of_le (by omega) (by decide : 100000 ≤ sizeLine), ?_⟩
        have su : Stp Z6 H6 [Dd] Z6 (upd H6 Dd (.lst (ws ++ [y6]))) [Dd] := Stp.upd (by simp) (nz6 Dd List.mem_cons_self) (lst_nt hD6)
        have ndall := off6.1
        have notD : ∀ a ∈ Ga ++ (Gy ++ F6), a ∉ [Dd] := fun a ha hm => by
          rw [List.mem_singleton.mp hm] at ha
          have q : (Dd :: (Ga ++ (Gy ++ F6))).Nodup := ndall
          exact (List.nodup_cons.mp q).1 ha
        obtain ⟨F7, e7, sub7⟩ := f6.env.wipe vs
        have ew : wipe σ4 vs = wipe σ vs := by rw [hw4, wipe_idem]
        rw [ew] at e7
        have nd7 : ((Dd :: (Ga ++ Gy)) ++ F7).Nodup := by
          have q : ((Dd :: Ga) ++ (Gy ++ F7)).Nodup := (List.Sublist.append_left (List.Sublist.append_left sub7 Gy) (Dd :: Ga)).nodup ndall
          rw [← List.append_assoc] at q
          exact q
        refine ⟨acc ++ [dy], E6, Z6, F7, Ga ++ Gy, ws ++ [y6], iy, ?_, upd_same, ?_, nd7, fun a ha => ?_, ?_⟩
        · refine ⟨e7.r.step su fun a ha => notD a (List.mem_append_right _ (List.mem_append_right _ (sub7.subset ha))), e7.nd, e7.nz, e7.zt.stp su⟩
        · exact (ra6.step su fun a ha => notD a (List.mem_append_left _ ha)).app (Reps.one (ry.step su fun a ha => notD a (List.mem_append_right _ (List.mem_append_left _ ha))))
        · rcases List.mem_cons.mp ha with q | q
          · rw [q]; exact nz6 Dd List.mem_cons_self
          · rcases List.mem_append.mp q with z | z
            · exact nz6 a (List.mem_cons_of_mem _ z)
            · exact f6.nz a z
        · refine st6.trans (su.more (fun a ha => by rw [List.mem_singleton.mp ha]; exact List.mem_append_left _ List.mem_cons_self) fun a ha => ?_)
          rcases List.mem_append.mp ha with q | q
          · rcases List.mem_cons.mp q with z | z
            · exact .inl (by rw [z]; simp)
            · rcases List.mem_append.mp z with y | y
              · exact .inr (List.mem_append_left _ (List.mem_cons_of_mem _ y))
              · exact .inr (List.mem_append_right _ (List.mem_append_left _ y))
          · exact .inr (List.mem_append_right _ (List.mem_append_right _ (sub7.subset q)))
    · have e : i = m := by omega
      subst e
      refine .inl ⟨sok.stops Z2 H2 gp, ?_⟩
      refine hk _ _ Z2 H2 F2 (Dd :: Ga) _ (fin acc _ i2) ⟨e2.unwipe, nd2, nz2, f10.st.trans st2⟩ (.lst hD2 ra)

theorem wo_lc (hc : X.calm = true) (hN : X.N.Nodup) (ok : BlkOk X.N X.env.scope scope own)
    (hg : ∀ (s : Shared) (H : Hp) (C : Addr) (cl : List (Str × Addr)) (fp : List Addr), PG (X.blk s H scope (compEnvC scope cl C X.env) fp) tg g)
    (h : WI X tg iter E fun w m src E1 => ∃ I : Nat → List D → EnvT → Prop, I 0 [] (wipeE E1 (own.map (·.2))) ∧ (∀ j acc E', j ≤ m → I j acc E' → ∀ p ∈ w, E'[p.1]? = some (some p.2)) ∧
      (∀ j acc E', j < m → I j acc E' → ∃ E2, TgB X.K g (own.map (·.2)) (src j) E' E2 ∧ ∀ (s : Shared) (H : Hp) (C : Addr) (cl : List (Str × Addr)) (fp : List Addr),
        WIf (X.blk s H scope (compEnvC scope cl C X.env) fp) ifs E2 fun b E3 => (b = true → ∀ (s : Shared) (H : Hp) (C : Addr) (cl : List (Str × Addr)) (fp : List Addr), WE (X.blk s H scope (compEnvC scope cl C X.env) fp) elt E3 fun y E4 => acc.length < 100000 ∧ I (j + 1) (acc ++ [y]) (wipeE E4 (own.map (·.2)))) ∧ (b = false → I (j + 1) acc (wipeE E3 (own.map (·.2))))) ∧
      ∀ acc E', I m acc E' → k (.val (.lst acc)) E')
    (hs : ∀ x, foldedSetIterable iter X.env x = pure x := by intro _; rfl) : WO X (.ListComp elt [⟨tg, iter, ifs, 0⟩] scope pos) E k := by
  intro Z H σ F Q he hk
  exact wpE_by (pe_lc (pos := pos) (elt := elt) (ifs := ifs) hc hN (pi_w (iter := iter) (tg := tg)) ok hg (fun s H0 C cl fp => ⟨fun pins s' σ' H' Q' I' q => q s H0 C cl fp pins s' I'⟩) (fun s H0 C cl fp => ⟨fun pins s' σ' H' Q' I' q => q s H0 C cl fp pins s' I'⟩) hs) (lc_tree h Z H σ F Q he hk)

/-- y = [..] on one line -/
theorem ws_setLc {i : Nat} {y : Str} {py spos : Pos} {n : List Nat} {ks : KS} (hc : X.calm = true) (hN : X.N.Nodup) (hy : X.N[i]? = some y) (hyl : X.env.scope.names.lookup y = some .local) (hn : i ∉ n) (ok : BlkOk X.N X.env.scope scope own)
    (hg : ∀ (s : Shared) (H : Hp) (C : Addr) (cl : List (Str × Addr)) (fp : List Addr), PG (X.blk s H scope (compEnvC scope cl C X.env) fp) tg g)
    (h : WI X tg iter E fun w m src E1 => ∃ I : Nat → List D → EnvT → Prop, I 0 [] (wipeE E1 (own.map (·.2))) ∧ (∀ j acc E', j ≤ m → I j acc E' → ∀ p ∈ w, E'[p.1]? = some (some p.2)) ∧
      (∀ j acc E', j < m → I j acc E' → ∃ E2, TgB X.K g (own.map (·.2)) (src j) E' E2 ∧ ∀ (s : Shared) (H : Hp) (C : Addr) (cl : List (Str × Addr)) (fp : List Addr),
        WIf (X.blk s H scope (compEnvC scope cl C X.env) fp) ifs E2 fun b E3 => (b = true → ∀ (s : Shared) (H : Hp) (C : Addr) (cl : List (Str × Addr)) (fp : List Addr), WE (X.blk s H scope (compEnvC scope cl C X.env) fp) elt E3 fun y E4 => acc.length < 100000 ∧ I (j + 1) (acc ++ [y]) (wipeE E4 (own.map (·.2)))) ∧ (b = false → I (j + 1) acc (wipeE E3 (own.map (·.2))))) ∧
      ∀ acc E', I m acc E' → i < E'.length ∧ ks.nx (E'.set i (some (.lst acc))))
    (hsw : swapsWith (.ListComp elt [⟨tg, iter, ifs, 0⟩] scope pos) (some (.Name y py)) spos.line X.env = pure true)
    (hs : ∀ x, foldedSetIterable iter X.env x = pure x := by intro _; rfl) : WS X n (.Assign [.Name y py] (.ListComp elt [⟨tg, iter, ifs, 0⟩] scope pos) spos) E ks := by
  intro Z H σ F Dd he hk
  refine wpS_by (ps_setLc (pos := pos) (elt := elt) (ifs := ifs) (tt := (fun σ' H' Q' => ∀ (s : Shared) (H0 : Hp) (C : Addr) (cl : List (Str × Addr)) (fp : List Addr), wpTs (X.blk s H0 scope (compEnvC scope cl C X.env) fp) ifs σ' H' Q')) (te := (fun σ' H' Q' => ∀ (s : Shared) (H0 : Hp) (C : Addr) (cl : List (Str × Addr)) (fp : List Addr), wpE (X.blk s H0 scope (compEnvC scope cl C X.env) fp) elt σ' H' Q')) hc hN hy hyl hsw (pi_w (iter := iter) (tg := tg)) ok hg (fun s H0 C cl fp => ⟨fun pins s' σ' H' Q' I' q => q s H0 C cl fp pins s' I'⟩) (fun s H0 C cl fp => ⟨fun pins s' σ' H' Q' I' q => q s H0 C cl fp pins s' I'⟩) hs) ?_
  refine lc_tree (k := fun o E' => ∃ d, o = .val d ∧ i < E'.length ∧ ks.nx (E'.set i (some d))) (WI.mono h fun w m src E1 ⟨I, h1, h2, h3, h4⟩ => ⟨I, h1, h2, h3, fun acc E' q => ⟨_, rfl, h4 acc E' q⟩⟩) Z H σ F _ he fun o E1 Z1 H1 F1 G v ⟨d, eo, hE, q⟩ f r => ?_
  subst eo
  obtain ⟨F', e1, e2⟩ := f.env.asg r f.nd f.nz hE
  exact hk.nx _ Z1 H1 _ F' q ⟨e1, e1.nd, (fun a q => nomatch q), f.st.sub fun a ha => List.mem_append.mpr (e2 a ha), Pin.set hn⟩
end
end DL

namespace DL
open PySem PySem.Spec L2
variable [LamT]

/-! ### overloaded operators, by trees -/
inductive AddD : D → D → D → Prop
  | int {i j : Int} : AddD (.int i) (.int j) (.int (i + j))
  | lst {ds es : List D} : Imms ds → Imms es → ds.length + es.length ≤ 100000 → AddD (.lst ds) (.lst es) (.lst (ds ++ es))
  | tup {d e : D} {ds es : List D} : d.tseq = some ds → e.tseq = some es → Imms ds → Imms es → ds.length + es.length ≤ 100000 → AddD d e (.tup (ds ++ es))
  | str {x y : Str} : x.length + y.length ≤ 100000 → AddD (.str x) (.str y) (.str (x ++ y))
inductive MulD : D → D → D → Prop
  | int {i j : Int} : CMul i j → MulD (.int i) (.int j) (.int (i * j))
  | lst {ds : List D} {j : Int} : Imms ds → (-(2 ^ 63) ≤ j ∧ j < 2 ^ 63) → ds.length * j.toNat ≤ 100000 → MulD (.lst ds) (.int j) (.lst (List.replicate j.toNat ds).flatten)
section
variable {X : Cx} {a b : Expr} {E : EnvT} {k : Opd → EnvT → Prop} {pos p : Pos} {K : PySem.W.Frag}
theorem Op2.or1 {r r' : R2} {d1 d2 d : D} (h : Op2 K r d1 d2 d) : Op2 K (fun x y H Q => r x y H Q ∨ r' x y H Q) d1 d2 d := fun Z H v1 v2 G1 G2 r1 r2 Q q => .inl (h Z H v1 v2 G1 G2 r1 r2 Q q)
theorem Op2.or2 {r r' : R2} {d1 d2 d : D} (h : Op2 K r' d1 d2 d) : Op2 K (fun x y H Q => r x y H Q ∨ r' x y H Q) d1 d2 d := fun Z H v1 v2 G1 G2 r1 r2 Q q => .inr (h Z H v1 v2 G1 G2 r1 r2 Q q)
theorem op2_catL {ds es : List D} (i1 : Imms ds) (i2 : Imms es) (hl : ds.length + es.length ≤ 100000) : Op2 K rCat (.lst ds) (.lst es) (.lst (ds ++ es)) := fun Z H v1 v2 G1 G2 r1 r2 Q q => by
  cases r1 with
  | lst h1 s1 =>
    cases r2 with
    | lst h2 s2 =>
      have l1 := s1.len
      have l2 := s2.len
      exact ⟨_, _, _, _, rfl, rfl, h1, h2, Nat.le_trans (by omega) (by decide : 100000 ≤ sizeLine), fun p hp => q _ _ [p] (.lst upd_same (((s1.nils i1).app (s2.nils i2)).grow (Grow.new hp))) (Grow.new hp)⟩
theorem op2_catT {d1 d2 : D} {ds es : List D} (g1 : d1.tseq = some ds) (g2 : d2.tseq = some es) (i1 : Imms ds) (i2 : Imms es) (hl : ds.length + es.length ≤ 100000) : Op2 K (rCatA K) d1 d2 (.tup (ds ++ es)) := fun Z H v1 v2 G1 G2 r1 r2 Q q => by
  obtain ⟨p1, vs1, rfl, h1, s1⟩ := r1.tseq g1
  obtain ⟨p2, vs2, rfl, h2, s2⟩ := r2.tseq g2
  have l1 := s1.len
  have l2 := s2.len
  have r := (s1.nils i1).app (s2.nils i2)
  refine ⟨_, _, _, _, rfl, rfl, h1, h2, Nat.le_trans (by omega) (by decide : 100000 ≤ sizeLine), fun e0 => ?_, fun _ e0 => ?_, fun _ _ p hp => ?_⟩
  · refine q _ H [] (.tup h2 ?_) Grow.refl
    rw [e0] at r
    exact r
  · refine q _ H [] (.tup h1 ?_) Grow.refl
    rw [e0, List.append_nil] at r
    exact r
  · exact q _ _ [] (.tup (SqT.of upd_same) (r.grow (Grow.new0 hp))) (Grow.new0 hp)
theorem op2_addS {x y : Str} (hl : x.length + y.length ≤ 100000) : Op2 K (fun x y H Q => ∃ i j, x = .str i ∧ y = .str j ∧ i.length + j.length ≤ sizeLine ∧ Q (.str (i ++ j)) H) (.str x) (.str y) (.str (x ++ y)) := fun Z H v1 v2 G1 G2 r1 r2 Q q => by
  cases r1
  cases r2
  exact ⟨x, y, rfl, rfl, Nat.le_trans hl (by decide : 100000 ≤ sizeLine), q _ H [] (.str _) Grow.refl⟩
theorem op2_repL {ds : List D} {i : Int} (i1 : Imms ds) (hi : -(2 ^ 63) ≤ i ∧ i < 2 ^ 63) (hl : ds.length * i.toNat ≤ 100000) : Op2 K rRep (.lst ds) (.int i) (.lst (List.replicate i.toNat ds).flatten) := fun Z H v1 v2 G1 G2 r1 r2 Q q => by
  cases r2
  cases r1 with
  | lst h1 s1 =>
    have l1 := s1.len
    exact ⟨_, i, _, rfl, rfl, h1, hi.1, hi.2, Nat.le_trans (by rw [← l1]; exact hl) (by decide : 100000 ≤ sizeLine), fun p hp => q _ _ [p] (.lst upd_same (((s1.nils i1).rep i.toNat).grow (Grow.new hp))) (Grow.new hp)⟩
theorem wo_addD (h : WO X a E fun o1 E1 => WO X b E1 fun o2 E2 => ∃ d1 d2 d, o1.get E2 = some d1 ∧ o2.get E2 = some d2 ∧ AddD d1 d2 d ∧ k (.val d) E2) : WO X (.BinOp a .Add b pos) E k :=
  wo_bin (((op_add.or op_cat).or op_catA).or op_add_str) (WO.mono h fun o1 E1 q => WO.mono q fun o2 E2 ⟨d1, d2, d, g1, g2, ad, kk⟩ => ⟨d1, d2, d, g1, g2, by
    cases ad with
    | int => exact ((op2_I0 fun _ _ => .int _).or1.or1).or1
    | lst i1 i2 hl => exact ((op2_catL i1 i2 hl).or2.or1).or1
    | tup t1 t2 i1 i2 hl => exact (op2_catT t1 t2 i1 i2 hl).or2.or1
    | str hl => exact (op2_addS hl).or2, kk⟩)
theorem wo_mulD (h : WO X a E fun o1 E1 => WO X b E1 fun o2 E2 => ∃ d1 d2 d, o1.get E2 = some d1 ∧ o2.get E2 = some d2 ∧ MulD d1 d2 d ∧ k (.val d) E2) : WO X (.BinOp a .Mult b pos) E k :=
  wo_bin (op_mul.or op_rep) (WO.mono h fun o1 E1 q => WO.mono q fun o2 E2 ⟨d1, d2, d, g1, g2, ad, kk⟩ => ⟨d1, d2, d, g1, g2, by
    cases ad with
    | int hc => exact (op2_I hc fun _ _ => .int _).or1
    | lst i1 hj hl => exact (op2_repL i1 hj hl).or2, kk⟩)
end
/-! ### == by trees -/
theorem deq_int {i j : Int} : deq (.int i) (.int j) = decide (i = j) := by
  unfold deq
  simp only [toPy, PyData.eqv]
  exact Bool.beq_eq_decide_eq i j
theorem shp_int {i : Int} : Shp (.int i) := by
  unfold Shp SeqAt.shaped
  simp [toPy, PyData.canLay0, PyData.depth]
theorem shp_non : Shp .non := by
  unfold Shp SeqAt.shaped
  simp [toPy, PyData.canLay0, PyData.depth]
/-- a shape by its depth -/
def ShpN (n : Nat) (d : D) : Prop := (toPy d).canLay0 = true ∧ (toPy d).depth ≤ n
theorem ShpN.shp {n : Nat} {d : D} (h : ShpN n d) (hn : n ≤ 64) : Shp d := by
  unfold Shp SeqAt.shaped
  rw [Bool.and_eq_true]
  exact ⟨h.1, decide_eq_true (Nat.le_trans h.2 hn)⟩
theorem shpN_int {n : Nat} {i : Int} : ShpN n (.int i) := ⟨by simp [toPy, PyData.canLay0], by simp [toPy, PyData.depth]⟩
theorem shpN_all {n : Nat} : ∀ {ds : List D}, (∀ d ∈ ds, ShpN n d) → PyData.canLayAll0 (toPys ds) = true ∧ PyData.depthAll (toPys ds) ≤ n
  | [], _ => by simp [toPys, PyData.canLayAll0, PyData.depthAll]
  | d :: ds, h => by
    obtain ⟨h1, h2⟩ := shpN_all (n := n) (ds := ds) fun d hd => h d (List.mem_cons_of_mem _ hd)
    obtain ⟨h3, h4⟩ := h d List.mem_cons_self
    rw [toPys, PyData.canLayAll0, PyData.depthAll, h3, h1]
    exact ⟨rfl, Nat.max_le.mpr ⟨h4, h2⟩⟩
theorem shpN_tup {n : Nat} {ds : List D} (h : ∀ d ∈ ds, ShpN n d) : ShpN (n + 1) (.tup ds) := by
  obtain ⟨h1, h2⟩ := shpN_all h
  exact ⟨by rw [toPy, PyData.canLay0]; exact h1, by rw [toPy, PyData.depth]; omega⟩
theorem shpN_pt {n : Nat} {ds : List D} (h : ∀ d ∈ ds, ShpN n d) : ShpN (n + 1) (.pt ds) := by
  obtain ⟨h1, h2⟩ := shpN_all h
  exact ⟨by rw [toPy, PyData.canLay0]; exact h1, by rw [toPy, PyData.depth]; omega⟩
theorem shpN_lst {n : Nat} {ds : List D} (h : ∀ d ∈ ds, ShpN n d) : ShpN (n + 1) (.lst ds) := by
  obtain ⟨h1, h2⟩ := shpN_all h
  exact ⟨by rw [toPy, PyData.canLay0]; exact h1, by rw [toPy, PyData.depth]; omega⟩
def deqs (ds es : List D) : Bool := PyData.eqvAll (toPys ds) (toPys es)
theorem deqs_nil : deqs [] [] = true := by simp [deqs, toPys, PyData.eqvAll]
theorem deqs_cons {d e : D} {ds es : List D} : deqs (d :: ds) (e :: es) = (deq d e && deqs ds es) := by simp [deqs, deq, toPys, PyData.eqvAll]
theorem deqs_nc {d : D} {ds : List D} : deqs [] (d :: ds) = false := by simp [deqs, toPys, PyData.eqvAll]
theorem deqs_cn {d : D} {ds : List D} : deqs (d :: ds) [] = false := by simp [deqs, toPys, PyData.eqvAll]
theorem deq_tt {d e : D} {ds es : List D} (h1 : d.tseq = some ds) (h2 : e.tseq = some es) : deq d e = deqs ds es := by
  cases d <;> simp only [D.tseq, Option.some.injEq, reduceCtorEq] at h1 <;> cases e <;> simp only [D.tseq, Option.some.injEq, reduceCtorEq] at h2 <;> subst h1 <;> subst h2 <;> simp [deq, deqs, toPy, PyData.eqv]
theorem deq_ll {d e : D} {ds es : List D} (h1 : d.lseq = some ds) (h2 : e.lseq = some es) : deq d e = deqs ds es := by
  cases d <;> simp only [D.lseq, Option.some.injEq, reduceCtorEq] at h1 <;> cases e <;> simp only [D.lseq, Option.some.injEq, reduceCtorEq] at h2 <;> subst h1 <;> subst h2 <;> simp [deq, deqs, toPy, PyData.eqv]
theorem deqs_ints : ∀ {xs ys : List Int}, deqs (xs.map D.int) (ys.map D.int) = decide (xs = ys)
  | [], [] => by simp [deqs_nil]
  | [], y :: ys => by simp [deqs_nc]
  | x :: xs, [] => by simp [deqs_cn]
  | x :: xs, y :: ys => by
    rw [List.map_cons, List.map_cons, deqs_cons, deq_int, deqs_ints]
    by_cases h : x = y <;> by_cases h2 : xs = ys <;> simp [h, h2]
end DL

namespace DL
open PySem PySem.Spec L2
variable [LamT]

/-! ### dicts whose keys and values stand in two lists -/
theorem valV_zip {k : Key} {v : V} : ∀ {ks : List Key} {vs : List V} {j : Nat}, ks.Nodup → ks[j]? = some k → vs[j]? = some v → valV (ks.zip vs) k = some v
  | [], _, j, _, h, _ => by simp at h
  | _ :: _, [], j, _, _, h => by simp at h
  | k0 :: ks, v0 :: vs, 0, _, h1, h2 => by
    have e1 : k0 = k := by simpa using h1
    have e2 : v0 = v := by simpa using h2
    rw [List.zip_cons_cons, valV_pos (p := (k0, v0)) e1, e2]
  | k0 :: ks, v0 :: vs, j + 1, nd, h1, h2 => by
    have h1' : ks[j]? = some k := by simpa using h1
    have ne : ¬ k0 = k := fun e => (List.nodup_cons.mp nd).1 (by rw [e]; exact List.mem_of_getElem? h1')
    rw [List.zip_cons_cons, valV_neg (p := (k0, v0)) ne]
    exact valV_zip (List.nodup_cons.mp nd).2 h1' (by simpa using h2)
theorem map_zip_put {k : Key} {v : V} : ∀ {ks : List Key} {vs : List V} {j : Nat}, ks.Nodup → ks[j]? = some k → (ks.zip vs).map (fun kv => if kv.1 = k then (kv.1, v) else kv) = ks.zip (vs.set j v)
  | [], _, j, _, h => by simp at h
  | _ :: _, [], j, _, _ => by simp
  | k0 :: ks, v0 :: vs, 0, nd, h1 => by
    have e1 : k0 = k := by simpa using h1
    have rest : (ks.zip vs).map (fun kv => if kv.1 = k then (kv.1, v) else kv) = ks.zip vs := by
      conv => rhs; rw [← List.map_id (ks.zip vs)]
      refine List.map_congr_left fun p hp => ?_
      have hm : p.1 ∈ ks := (List.of_mem_zip hp).1
      have ne : ¬ p.1 = k := fun e => (List.nodup_cons.mp nd).1 (by rw [e1, ← e]; exact hm)
      rw [if_neg ne]
      rfl
    rw [List.zip_cons_cons, List.map_cons, rest, List.set_cons_zero, List.zip_cons_cons, if_pos e1]
  | k0 :: ks, v0 :: vs, j + 1, nd, h1 => by
    have h1' : ks[j]? = some k := by simpa using h1
    have ne : ¬ k0 = k := fun e => (List.nodup_cons.mp nd).1 (by rw [e]; exact List.mem_of_getElem? h1')
    rw [List.zip_cons_cons, List.map_cons, map_zip_put (List.nodup_cons.mp nd).2 h1', List.set_cons_succ, List.zip_cons_cons, if_neg ne]
theorem putK_zip {k : Key} {v v0 : V} {ks : List Key} {vs : List V} {j : Nat} (nd : ks.Nodup) (h1 : ks[j]? = some k) (h2 : vs[j]? = some v0) : putK (ks.zip vs) k v = ks.zip (vs.set j v) := by
  unfold putK
  rw [if_pos, map_zip_put nd h1]
  rw [valV_any, valV_zip nd h1 h2]
  rfl
section
variable {K : PySem.W.Frag} {Z Z1 Z2 Z' : Addr → Prop} {H H1 H2 H' : Hp} {F F1 F2 F' G Gt G1 G2 G' R Fd Fd' : List Addr} {σ : Sl} {E E1 E2 E' : EnvT} {d d0 d1 d2 : D} {v v1 v2 : V} {ds ds' : List D} {vs vs' : List V} {a b : Addr} {i : Nat} {o' : HO}
theorem Reps.setI : ∀ {ds : List D} {vs : List V} {G : List Addr} {j : Nat}, Reps K Z H ds vs G → ds[j]? = some d0 → Imm d0 → Rep K Z H d v [] → Reps K Z H (ds.set j d) (vs.set j v) G
  | _, _, _, _, .nil, h, _, _ => by simp at h
  | _, _, _, 0, .cons r rs, h, hi, r' => by
    have e := Option.some.inj (by simpa using h)
    subst e
    have e2 := r.imm hi
    subst e2
    exact .cons r' rs
  | _, _, _, j + 1, .cons r rs, h, hi, r' => .cons r (Reps.setI rs (by simpa using h) hi r')
/-- a slot's tree changed in place, anywhere within -/
theorem EnvS.chgN (e : EnvS K Z H E σ F) (hE : E[i]? = some (some d)) (hv : σ[i]? = some (some v)) (hr : Rep K Z H d v G) (hR : EnvR K Z H (E.set i none) σ R) (hp : F.Perm (G ++ R)) (hb : b ∈ G) (hm : NX H b)
    (hs : ∀ x ∈ G1, x ∈ G) (hn : G1.Nodup) (rep : Rep K Z (L2.upd H b o') d1 v G1) (no : NTb o' := by first | exact ntb_lst | exact ntb_dK | exact ntb_ins | assumption) :
    ∃ F', EnvS K Z (L2.upd H b o') (E.set i (some d1)) σ F' ∧ Stp Z H F Z (L2.upd H b o') F' := by
  have nF := List.nodup_append.mp (hp.nodup_iff.mp e.nd)
  have hbF : b ∈ F := hp.mem_iff.mpr (List.mem_append_left _ hb)
  have s0 : Stp Z H F Z (L2.upd H b o') F := Stp.upd hbF (e.nz b hbF) hm
  have s1 : Stp Z H [b] Z (L2.upd H b o') [b] := Stp.upd (by simp) (e.nz b hbF) hm
  have hR' := hR.step s1 (fun x hx q => by
    rw [List.mem_singleton.mp q] at hx
    exact nF.2.2 b hb b hx rfl)
  obtain ⟨F', h1, h2⟩ := hR'.put (i := i) (d := d1) (v := v) (G := G1) (by
    obtain ⟨hl, _⟩ := List.getElem?_eq_some_iff.mp hE
    simp [hl]) hv rep
  rw [List.set_set] at h1
  have inF : ∀ x ∈ F', x ∈ F := fun x hx => by
    rcases List.mem_append.mp (h2.mem_iff.mp hx) with q | q
    · exact hp.mem_iff.mpr (List.mem_append_left _ (hs x q))
    · exact hp.mem_iff.mpr (List.mem_append_right _ q)
  have nN : (G1 ++ R).Nodup := List.nodup_append.mpr ⟨hn, nF.2.1, fun x hx y hy q => nF.2.2 x (hs x hx) y hy q⟩
  refine ⟨F', ⟨h1, h2.nodup_iff.mpr nN, fun x hx => e.nz x (inF x hx), e.zt.stp s0⟩, s0.sub inF⟩
theorem dic_nt {kvs : List (Key × V)} (h : H a = some (.dK kvs)) : NX H a := ⟨(fun xs q => by rcases q with q | ⟨o, q⟩ <;> (rw [h] at q; cases q)), (fun ps q => by rw [h] at q; cases q), fun φ q => by rw [h] at q; cases q⟩
theorem EnvS.dic {ks : List Key} (e : EnvS K Z H E σ F) (hE : E[i]? = some (some (.dic ks ds))) : ∃ a vs Fd R, σ[i]? = some (some (.ref a)) ∧ H a = some (.dK (ks.zip vs)) ∧ ks.length = vs.length ∧ Reps K Z H ds vs Fd ∧ EnvR K Z H (E.set i none) σ R ∧ F.Perm ((a :: Fd) ++ R) := by
  obtain ⟨v, G, R, h1, h2, h3, h4⟩ := e.r.get hE
  cases h2 with
  | dic hl hk rs => exact ⟨_, _, _, R, h1, hl, hk, rs, h3, h4⟩
/-- a list of ints that stands in an owned row -/
theorem Reps.within {g : Int} {gs : List Int} : ∀ {ds : List D} {vs : List V} {G : List Addr} {j : Nat}, Reps K Z H ds vs G → ds[j]? = some (.lst ((g :: gs).map D.int)) → G.Nodup →
    ∃ b ws, vs[j]? = some (.ref b) ∧ H b = some (.lst ws) ∧ ws = (g :: gs).map V.int ∧ b ∈ G ∧ (∀ H', (∀ y ∈ G, y ≠ b → ∀ o, NTb o → H y = some o → H' y = some o) → Kp Z H Z H' → H' b = some (.lst (gs.map V.int)) → Reps K Z H' (ds.set j (.lst (gs.map D.int))) vs G)
  | _, _, _, _, .nil, h, _ => by simp at h
  | _, _, _, 0, .cons r1 rs1, h, nd => by
    have ndp := List.nodup_append.mp nd
    have e := Option.some.inj (by simpa using h)
    subst e
    cases r1 with
    | lst hb rr =>
      rename_i b ws Fb
      have ei := Reps.ints (ns := g :: gs) rr
      have ef := rr.imm (imms_ints (xs := g :: gs))
      subst ei
      subst ef
      refine ⟨b, _, rfl, hb, rfl, List.mem_append_left _ List.mem_cons_self, fun H' hk kp hb' => ?_⟩
      refine .cons (.lst hb' (Reps.ofInts gs)) (rs1.kp kp fun y hy o nt ho => hk y (List.mem_append_right _ hy) (fun q => ?_) o nt ho)
      subst q
      exact ndp.2.2 y List.mem_cons_self y hy rfl
  | _, _, _, j + 1, .cons r1 rs1, h, nd => by
    have ndp := List.nodup_append.mp nd
    obtain ⟨b, ws, h1, h2, h3, h4, h5⟩ := Reps.within rs1 (by simpa using h) ndp.2.1
    refine ⟨b, ws, by simpa using h1, h2, h3, List.mem_append_right _ h4, fun H' hk kp hb' => ?_⟩
    refine .cons (r1.kp kp fun y hy o nt ho => hk y (List.mem_append_left _ hy) (fun q => ?_) o nt ho) (h5 H' (fun y hy => hk y (List.mem_append_right _ hy)) kp hb')
    subst q
    exact ndp.2.2 y hy y h4 rfl
end
section
variable {X : Cx} {n : List Nat} {E : EnvT} {k : Opd → EnvT → Prop} {ks : KS} {pos pos' apos p p2 : Pos} {i j jj : Nat} {x z : Str} {e : Expr} {keys : List Key} {ds : List D} {d : D}
/-- x['z'] -/
theorem wo_dget (hu : X.A.units + 1 < cLine) (hN : X.N[i]? = some x) (hE : E[i]? = some (some (.dic keys ds))) (hk : keys.Nodup) (hj : keys[j]? = some (.inr z)) (hd : ds[j]? = some d) (hi : Imm d) (h : k (.val d) E)
    (hv : Vis X.env.scope x := by first | exact Or.inl rfl | exact Or.inr (Or.inl rfl) | exact Or.inr (Or.inr rfl)) (hdb : (x == ("__debug__" : Str)) = false := by decide) (hcd : (x == ("__classdict__" : Str)) = false := by decide) :
    WO X (.Subscript (.Name x p) (.Constant (.str z) jj p2) pos) E k := by
  intro Z H σ F Q he hk'
  obtain ⟨a, vs, Fd, R, hv1, hH, hl, rs, hR, hp⟩ := he.dic hE
  obtain ⟨v, G', hvj, rv, _⟩ := rs.get hd
  refine wpE_by (pe_dget hu (pe_var hN hv hdb hcd) pe_str (fun _ _ => rfl)) ⟨_, hv1, a, v, rfl, ?_, hk' _ E Z H F [] v h (Fin.refl he) (rv.nils hi)⟩
  have g := DGet.k (k := Sum.inr z) hH
  rw [valV_zip hk hj hvj] at g
  exact g
/-- x['z'] = e, of a thing that owns nothing -/
theorem ws_dput (hu : X.A.units + 1 < cLine) (hN : X.N[i]? = some x) (h : WE X e E fun d E1 => ∃ keys ds j d0, E1[i]? = some (some (.dic keys ds)) ∧ keys.Nodup ∧ keys[j]? = some (.inr z) ∧ ds[j]? = some d0 ∧ Imm d0 ∧ Imm d ∧ keys.length ≤ 100000 ∧ ks.nx (E1.set i (some (.dic keys (ds.set j d)))))
    (hs : swapsWith e (some (.Subscript (.Name x p) (.Constant (.str z) jj p2) pos')) pos.line X.env = pure false := by rfl)
    (hv : Vis X.env.scope x := by first | exact Or.inl rfl | exact Or.inr (Or.inl rfl) | exact Or.inr (Or.inr rfl)) (hdb : (x == ("__debug__" : Str)) = false := by decide) (hcd : (x == ("__classdict__" : Str)) = false := by decide) :
    WS X n (.Assign [.Subscript (.Name x p) (.Constant (.str z) jj p2) pos'] e pos) E ks := by
  intro Z H σ F D he hk'
  refine wpS_by (ps_dput hu (pe_var hN hv hdb hcd) pe_str pe_w hs) (h Z H σ F _ he fun o E1 Z1 H1 F1 G v ⟨d, eo, keys, ds, j, d0, hE, hk, hj, hd, hi0, hi, hlen, q⟩ f r => ?_)
  subst eo
  obtain ⟨a, vs, Fd, R, hv1, hH, hl, rs, hR, hp⟩ := f.env.dic hE
  have rv : Rep X.K Z1 H1 d v [] := Rep.nils r hi
  obtain ⟨v0, G0, hvj, _, _⟩ := rs.get hd
  have nG := (List.nodup_append.mp (hp.nodup_iff.mp f.env.nd)).1
  have haF : a ∈ F1 := hp.mem_iff.mpr (List.mem_append_left _ List.mem_cons_self)
  have s1 : Stp Z1 H1 [a] Z1 (upd H1 a (.dK (putK (keys.zip vs) (Sum.inr z) v))) [a] := Stp.upd (by simp) (f.env.nz a haF) (dic_nt hH)
  have rep : Rep X.K Z1 (upd H1 a (.dK (putK (keys.zip vs) (Sum.inr z) v))) (.dic keys (ds.set j d)) (.ref a) (a :: Fd) := by
    refine .dic (vs := vs.set j v) ?_ (by rw [List.length_set]; exact hl) ((rs.setI hd hi0 rv).step s1 fun y hy q => ?_)
    · rw [upd_same, putK_zip hk hj hvj]
    · rw [List.mem_singleton.mp q] at hy
      exact (List.nodup_cons.mp nG).1 hy
  obtain ⟨F', e2, s2⟩ := f.env.chgN hE hv1 (.dic hH hl rs) hR hp List.mem_cons_self (dic_nt hH) (fun y hy => hy) nG rep
  refine ⟨_, hv1, a, _, rfl, DPut.k (k := Sum.inr z) hH ?_, ?_⟩
  · rw [List.length_zip]
    exact Nat.lt_of_le_of_lt (Nat.le_trans (Nat.min_le_left _ _) hlen) (by decide)
  · exact hk'.nx _ Z1 _ σ F' q ⟨e2, e2.nd, (fun y hy => nomatch hy), f.nil.st.trans s2, Pin.refl⟩
/-- x['z'].pop(0), a list of ints -/
theorem wo_dpop {g : Int} {gs : List Int} (hu : X.A.units + 1 < cLine) (hN : X.N[i]? = some x) (hE : E[i]? = some (some (.dic keys ds))) (hk : keys.Nodup) (hj : keys[j]? = some (.inr z)) (hd : ds[j]? = some (.lst ((g :: gs).map D.int))) (h : k (.val (.int g)) (E.set i (some (.dic keys (ds.set j (.lst (gs.map D.int)))))))
    (hb : ∀ t, PE X (.Subscript (.Name x p) (.Constant (.str z) jj p2) pos') t → PE X (.Call (.Attribute (.Subscript (.Name x p) (.Constant (.str z) jj p2) pos') "pop" apos) [e] [] pos) (tBM X.K "list" rPopAt t (tCons (tC (.int 0)) tNil)))
    (hv : Vis X.env.scope x := by first | exact Or.inl rfl | exact Or.inr (Or.inl rfl) | exact Or.inr (Or.inr rfl)) (hdb : (x == ("__debug__" : Str)) = false := by decide) (hcd : (x == ("__classdict__" : Str)) = false := by decide) :
    WO X (.Call (.Attribute (.Subscript (.Name x p) (.Constant (.str z) jj p2) pos') "pop" apos) [e] [] pos) E k := by
  intro Z H σ F Q he hk'
  obtain ⟨a, vs, Fd, R, hv1, hH, hl, rs, hR, hp⟩ := he.dic hE
  obtain ⟨v, G', hvj, rv, _⟩ := rs.get hd
  have nG := (List.nodup_append.mp (hp.nodup_iff.mp he.nd)).1
  obtain ⟨b, ws, hb1, hb2, hb3, hb4, hb5⟩ := Reps.within rs hd (List.nodup_cons.mp nG).2
  subst hb3
  have eb : v = .ref b := by rw [hvj] at hb1; exact Option.some.inj hb1
  subst eb
  have hbF : b ∈ F := hp.mem_iff.mpr (List.mem_append_left _ (List.mem_cons_of_mem _ hb4))
  have s1 : Stp Z H [b] Z (upd H b (.lst (gs.map V.int))) [b] := Stp.upd (by simp) (he.nz b hbF) (lst_nt hb2)
  have nab : a ≠ b := fun q => (List.nodup_cons.mp nG).1 (by rw [q]; exact hb4)
  have rep : Rep X.K Z (upd H b (.lst (gs.map V.int))) (.dic keys (ds.set j (.lst (gs.map D.int)))) (.ref a) (a :: Fd) :=
    .dic (vs := vs) (by rw [upd_ne nab]; exact hH) hl (hb5 _ (fun y hy hne o _ ho => by rw [upd_ne hne]; exact ho) s1.kp upd_same)
  obtain ⟨F', e2, s2⟩ := he.chgN hE hv1 (.dic hH hl rs) hR hp (List.mem_cons_of_mem _ hb4) (lst_nt hb2) (fun y hy => hy) nG rep
  refine wpE_by (hb _ (pe_dget hu (pe_var hN hv hdb hcd) pe_str (fun _ _ => rfl))) ⟨_, hv1, a, .ref b, rfl, ?_, .inl ⟨rfl, _, SqL.of hb2⟩, ?_⟩
  · have g := DGet.k (k := Sum.inr z) hH
    rw [valV_zip hk hj hvj] at g
    exact g
  · have hix : ixN ((g :: gs).map V.int).length 0 = some 0 := by
      unfold ixN
      rw [if_pos (by decide), if_pos (by simp)]
      rfl
    refine ⟨b, _, 0, 0, .int g, rfl, rfl, hb2, by decide, by decide, (ixN_seq hix).1, rfl, ?_⟩
    exact hk' _ _ Z _ F' [] _ h ⟨e2, e2.nd, (fun y hy => nomatch hy), s2⟩ (.int g)
end
end DL

namespace DL
open PySem PySem.Spec L2
variable [LamT]
section
variable {X : Cx} {n : List Nat} {E : EnvT} {k : Opd → EnvT → Prop} {pos : Pos} {e : Expr}
/-- a list that will not change any more -/
theorem wo_freeze (h : WO X e E fun o E1 => ∃ ds, o = .val (.lst ds) ∧ Imms ds ∧ k (.val (.fz ds)) E1) : WO X e E k := by
  intro Z H σ F Q he hk
  refine h Z H σ F Q he fun o E1 Z1 H1 F1 G v ⟨ds, eo, im, q⟩ f r => ?_
  subst eo
  have r' : Rep X.K Z1 H1 (.lst ds) v G := r
  cases r' with
  | lst hl rs =>
    rename_i a vs Fd
    have ed := rs.imm im
    subst ed
    have aG : a ∉ F1 := fun q => (List.nodup_append.mp f.nd).2.2 a (by simp) a q rfl
    refine hk _ E1 (fun b => Z1 b ∨ b = a) H1 F1 [] _ q ⟨⟨f.env.r.kp ⟨fun _ z => .inl z, fun _ _ z => z, fun _ _ _ _ z => z, fun _ _ _ z => z⟩ fun _ _ _ _ z => z, f.env.nd, fun x hx z => ?_, fun x z => ?_, f.env.zt.tb⟩, f.env.nd, (fun x hx => nomatch hx), ?_⟩ (.fz (.inl ⟨.inr rfl, .inl hl⟩) (rs.kp ⟨fun _ z => .inl z, fun _ _ z => z, fun _ _ _ _ z => z, fun _ _ _ z => z⟩ fun x hx => nomatch hx))
    · rcases z with z | z
      · exact f.env.nz x hx z
      · exact aG (by rw [← z]; exact hx)
    · rcases z with z | z
      · exact f.env.zt.th x z
      · exact ⟨_, by rw [z]; exact hl, ntb_lst⟩
    · refine ⟨fun x z => .inl (f.st.z1 x z), fun x z => ?_, f.st.fr, f.st.tb, f.st.th, fun x hx => f.st.f2 x (List.mem_append_right _ hx), f.st.tu, f.st.fl, f.st.ft⟩
      rcases z with z | z
      · exact f.st.z2 x z
      · rw [z]
        exact .inr (f.st.f2 a (List.mem_append_left _ (by simp)))
end
/-! ### {'z': e, ..} -/
def WVs (X : Cx) : List Expr → EnvT → (List D → EnvT → Prop) → Prop
  | [], E, k => k [] E
  | e :: es, E, k => WE X e E fun d E1 => WVs X es E1 fun ds E2 => k (d :: ds) E2
def pairT (X : Cx) : List Str → List Expr → List (TE × TE)
  | z :: zs, e :: es => (tC (.str z), wpE X e) :: pairT X zs es
  | _, _ => []
theorem pairs_run {X : Cx} : ∀ {zs : List Str} {es : List Expr} {E : EnvT} {k : List D → EnvT → Prop}, zs.length = es.length → WVs X es E k → ∀ (Z : Addr → Prop) (H : Hp) (σ : Sl) (F : List Addr) (Q : List (V × V) → Hp → Prop), EnvS X.K Z H E σ F →
    (∀ (ds : List D) (E' : EnvT) (Z' : Addr → Prop) (H' : Hp) (F' G : List Addr) (vs : List V), k ds E' → ds.length = es.length → Fin X.K Z H σ F E' Z' H' F' G → Reps X.K Z' H' ds vs G → Q ((zs.map V.str).zip vs) H') → tPairs (pairT X zs es) σ H Q
  | [], [], E, k, _, h, Z, H, σ, F, Q, he, hk => hk [] E Z H F [] [] h rfl (Fin.refl he) .nil
  | z :: zs, e :: es, E, k, hl, h, Z, H, σ, F, Q, he, hk => by
    show wpE X e σ H _
    refine h Z H σ F _ he fun o E1 Z1 H1 F1 G1 v ⟨d, eo, q⟩ f r => ?_
    subst eo
    have r1 : Rep X.K Z1 H1 d v G1 := r
    refine pairs_run (by simpa using hl) q Z1 H1 σ F1 _ f.env fun ds E2 Z2 H2 F2 G2 vs q2 l2 f2 rs => ?_
    exact hk (d :: ds) E2 Z2 H2 F2 (G1 ++ G2) (v :: vs) q2 (by rw [List.length_cons, List.length_cons, l2]) (f.join r1.mem f2) (.cons (r1.step f2.st (f.off r1.mem f2)) rs)
  | [], _ :: _, _, _, hl, _, _, _, _, _, _, _, _ => by simp at hl
  | _ :: _, [], _, _, hl, _, _, _, _, _, _, _, _ => by simp at hl
theorem mergeK_new : ∀ {more kvs : List (Key × V)}, (∀ p ∈ more, valV kvs p.1 = none) → (more.map (·.1)).Nodup → mergeK kvs more = kvs ++ more
  | [], kvs, _, _ => by rw [List.append_nil]; rfl
  | p :: more, kvs, h, nd => by
    have h0 := h p List.mem_cons_self
    show mergeK (putK kvs p.1 p.2) more = _
    have ndc : (p.1 :: more.map (·.1)).Nodup := nd
    rw [putK_new p.2 h0, mergeK_new (fun q hq => ?_) (List.nodup_cons.mp ndc).2, List.append_assoc]
    · rfl
    · rw [valV_snoc p.1 q.1 p.2 kvs h0, if_neg, h q (List.mem_cons_of_mem _ hq)]
      intro e
      exact (List.nodup_cons.mp ndc).1 (by rw [← e]; exact List.mem_map_of_mem hq)
section
variable {X : Cx} {n : List Nat} {E : EnvT} {k : Opd → EnvT → Prop} {pos : Pos}
theorem wo_disp {keys : List (Option Expr)} {es : List Expr} {zs : List Str} (hp : PE X (.Dict keys es pos) (tDisp (pairT X zs es))) (hl : zs.length = es.length) (hl15 : zs.length ≤ 15) (nd : zs.Nodup) (h : WVs X es E fun ds E1 => k (.val (.dic (zs.map Sum.inr) ds)) E1) : WO X (.Dict keys es pos) E k := by
  intro Z H σ F Q he hk
  refine wpE_by hp fun p hp0 => ?_
  have g0 := Grow.new (H := H) (p := p) (o := .dK []) hp0
  have e0 : EnvS X.K Z (upd H p (.dK [])) E σ F := ⟨he.r.kp g0.kp fun a _ o _ e => g0.gr a o e, he.nd, he.nz, he.zt.gr g0⟩
  have pF : p ∉ F := fun q => by
    obtain ⟨o, e, _⟩ := he.r.mem p q
    rw [hp0] at e
    cases e
  have pZ : ¬ Z p := fun q => by
    obtain ⟨o, e, _⟩ := he.zt.th p q
    rw [hp0] at e
    cases e
  refine pairs_run hl h Z _ σ F _ e0 fun ds E2 Z2 H2 F2 G vs q ld f rs => ?_
  have f0 : Stp Z H F Z (upd H p (.dK [])) ([p] ++ F) := g0.st
  have mem0 : ∀ a ∈ [p], ∃ u, upd H p (.dK []) a = some u ∧ NTb u := fun a ha => ⟨.dK [], by rw [List.mem_singleton.mp ha]; exact upd_same, ntb_dK⟩
  have ap := f.st.apart (G := [p]) (F1 := F) (F2 := G ++ F2) mem0 (List.nodup_cons.mpr ⟨pF, he.nd⟩) f.nd
  have hH2 : H2 p = some (.dK []) := f.st.fr p _ upd_same (ap.2 p (by simp)) ntb_dK
  have nz2 := f.st.nz (G := [p]) mem0 ap.2 (fun a ha => by rw [List.mem_singleton.mp ha]; exact pZ)
  have stA : Stp Z H F Z2 H2 ([p] ++ (G ++ F2)) := f0.push f.st
  have hv := rs.len
  have hkl : (zs.map (Sum.inr : Str → Key)).length = vs.length := by rw [List.length_map]; omega
  have ndk : (zs.map (Sum.inr : Str → Key)).Nodup := List.Pairwise.map _ (fun a b hab e => hab (Sum.inr.inj e)) nd
  refine ⟨hH2, (zs.map Sum.inr).zip vs, ?_, ?_, ?_⟩
  · rw [List.zip_map_left, List.zip_map_left, List.map_map]
    rfl
  · rw [List.length_zip, List.length_map]
    omega
  · rw [mergeK_new (kvs := []) (fun _ _ => rfl) (by rw [List.map_fst_zip (by omega)]; exact ndk), List.nil_append]
    have ndall : (p :: (G ++ F2)).Nodup := ap.1
    have su : Stp Z2 H2 [p] Z2 (upd H2 p (.dK ((zs.map Sum.inr).zip vs))) [p] := Stp.upd (by simp) (nz2 p (by simp)) (dic_nt hH2)
    have notP : ∀ a ∈ G ++ F2, a ∉ [p] := fun a ha hm => by
      rw [List.mem_singleton.mp hm] at ha
      exact (List.nodup_cons.mp ndall).1 ha
    refine hk _ E2 Z2 _ F2 (p :: G) (.ref p) q ⟨⟨f.env.r.step su fun a ha => notP a (List.mem_append_right _ ha), f.env.nd, f.env.nz, f.env.zt.stp su⟩, ndall, fun x hx => ?_, ?_⟩ (.dic upd_same hkl (rs.step su fun a ha => notP a (List.mem_append_left _ ha)))
    · rcases List.mem_cons.mp hx with z | z
      · rw [z]; exact nz2 p (by simp)
      · exact f.nz x z
    · refine stA.trans (su.more (fun a ha => by rw [List.mem_singleton.mp ha]; simp) fun a ha => ?_)
      rcases List.mem_cons.mp ha with z | z
      · exact .inl (by rw [z]; simp)
      · exact .inr (List.mem_append_right _ z)
end
end DL

namespace DL
open PySem PySem.Spec L2
variable [LamT]

/-! ### comparisons, by trees -/
def rD (X : Cx) (op : CmpOp) : R2 := fun x y H Q => ∃ r : R2, OpR X (compareOp op) r ∧ r x y H Q
theorem opr_D {X : Cx} {op : CmpOp} : OpR X (compareOp op) (rD X op) := fun pins s σ H x y v u Q I rx ry ⟨r, ho, q⟩ => ho pins s σ H x y v u Q I rx ry q
def CmpD (X : Cx) (op : CmpOp) (d1 d2 : D) (t : Bool) : Prop := Op2 X.K (rD X op) d1 d2 (.bl t)
theorem shp_lay {d : D} (h : Shp d) : (toPy d).canLay0 = true := by
  unfold Shp SeqAt.shaped at h
  rw [Bool.and_eq_true] at h
  exact h.1
section
variable {X : Cx} {n : List Nat} {e a b c l f : Expr} {es rs : List Expr} {E : EnvT} {k : Opd → EnvT → Prop} {kb : Bool → EnvT → Prop} {ks : KS} {pos p : Pos} {op op' op1 op2 : CmpOp} {ops : List CmpOp} {r r' r1 r2 : Expr}
theorem CmpD.mk {op : CmpOp} {r : R2} {d1 d2 : D} {t : Bool} (ho : OpR X (compareOp op) r) (h : Op2 X.K r d1 d2 (.bl t)) : CmpD X op d1 d2 t := fun Z H v1 v2 G1 G2 r1 r2 Q q => ⟨r, ho, h Z H v1 v2 G1 G2 r1 r2 Q q⟩
theorem cmp_lt {i j : Int} : CmpD X .Lt (.int i) (.int j) (decide (i < j)) := .mk op_lt (op2_I0 fun _ _ => .bl _)
theorem cmp_le {i j : Int} : CmpD X .LtE (.int i) (.int j) (decide (i ≤ j)) := .mk op_le (op2_I0 fun _ _ => .bl _)
theorem cmp_gt {i j : Int} : CmpD X .Gt (.int i) (.int j) (decide (j < i)) := .mk op_gt (op2_I0 fun _ _ => .bl _)
theorem cmp_ge {i j : Int} : CmpD X .GtE (.int i) (.int j) (decide (j ≤ i)) := .mk op_ge (op2_I0 fun _ _ => .bl _)
theorem cmp_eqI {i j : Int} : CmpD X .Eq (.int i) (.int j) (decide (i = j)) := .mk op_eq fun Z H v1 v2 G1 G2 r1 r2 Q q => by
  cases r1
  cases r2
  refine ⟨rfl, q _ H [] ?_ Grow.refl⟩
  have e1 : decide (V.int i = V.int j) = decide (i = j) := by by_cases h : i = j <;> simp [h]
  rw [e1]
  exact .bl _
theorem cmp_neI {i j : Int} : CmpD X .NotEq (.int i) (.int j) (!decide (i = j)) := .mk op_ne fun Z H v1 v2 G1 G2 r1 r2 Q q => by
  cases r1
  cases r2
  refine ⟨rfl, q _ H [] ?_ Grow.refl⟩
  have e1 : decide (V.int i = V.int j) = decide (i = j) := by by_cases h : i = j <;> simp [h]
  rw [e1]
  exact .bl _
theorem cmp_eqS {i j : Str} : CmpD X .Eq (.str i) (.str j) (decide (i = j)) := .mk op_eq fun Z H v1 v2 G1 G2 r1 r2 Q q => by
  cases r1
  cases r2
  refine ⟨rfl, q _ H [] ?_ Grow.refl⟩
  have e1 : decide (V.str i = V.str j) = decide (i = j) := by by_cases h : i = j <;> simp [h]
  rw [e1]
  exact .bl _
theorem cmp_isN {d : D} : CmpD X .Is d .non (isNon d) := .mk op_isN fun Z H v1 v2 G1 G2 r1 r2 Q q => by
  cases r2
  refine ⟨rfl, q _ H [] ?_ Grow.refl⟩
  rw [r1.isNon]
  exact .bl _
theorem cmp_notN {d : D} : CmpD X .IsNot d .non (!isNon d) := .mk op_notN fun Z H v1 v2 G1 G2 r1 r2 Q q => by
  cases r2
  refine ⟨rfl, q _ H [] ?_ Grow.refl⟩
  rw [r1.isNon]
  exact .bl _
theorem cmp_eq {d1 d2 : D} (hu : X.A.units + 64 < cLine) (s1 : Shp d1) (s2 : Shp d2) : CmpD X .Eq d1 d2 (deq d1 d2) := .mk (op_eqD hu) fun Z H v1 v2 G1 G2 r1 r2 Q q =>
  ⟨_, _, r1.dp (shp_lay s1), r2.dp (shp_lay s2), s1, s2, q _ H [] (.bl _) Grow.refl⟩
theorem cmp_ne {d1 d2 : D} (hu : X.A.units + 64 < cLine) (s1 : Shp d1) (s2 : Shp d2) : CmpD X .NotEq d1 d2 (!deq d1 d2) := .mk (op_neD hu) fun Z H v1 v2 G1 G2 r1 r2 Q q =>
  ⟨_, _, r1.dp (shp_lay s1), r2.dp (shp_lay s2), s1, s2, q _ H [] (.bl _) Grow.refl⟩
theorem wo_cmpD (hm : behindInMarks op b = false) (h : WO X a E fun o1 E1 => WO X b E1 fun o2 E2 => ∃ d1 d2 t, o1.get E2 = some d1 ∧ o2.get E2 = some d2 ∧ CmpD X op d1 d2 t ∧ k (.val (.bl t)) E2) : WO X (.Compare a [op] [b] pos) E k :=
  wo_cmp opr_D hm (WO.mono h fun o1 E1 q => WO.mono q fun o2 E2 ⟨d1, d2, t, g1, g2, c, kk⟩ => ⟨d1, d2, _, g1, g2, c, kk⟩)
theorem wt_cmpD (hm : behindInMarks op b = false) (h : WO X a E fun o1 E1 => WO X b E1 fun o2 E2 => ∃ d1 d2 t, o1.get E2 = some d1 ∧ o2.get E2 = some d2 ∧ CmpD X op d1 d2 t ∧ kb t E2) : WT X (.Compare a [op] [b] pos) E kb := by
  intro Z H σ F Q he hk
  refine wpT_by (pt_cmpR opr_D pe_w pe_w hm) (h Z H σ F _ he fun o1 E1 Z1 H1 F1 G1 v1 k1 f1 r1 => ?_)
  refine k1 Z1 H1 σ F1 _ f1.env fun o2 E2 Z2 H2 F2 G2 v2 ⟨d1, d2, t, g1, g2, op, k2⟩ f2 r2 => ?_
  have r1' := r1.step f2.st (f1.off r1.mem f2)
  obtain ⟨G3, q1, _⟩ := r1'.use f2.env g1
  obtain ⟨G4, q2, _⟩ := r2.use f2.env g2
  refine op Z2 H2 v1 v2 G3 G4 q1 q2 _ fun v H' G rv gr => ?_
  cases rv
  exact ⟨t, rfl, hk t E2 Z2 H' F2 k2 ((f1.then f2).nil.grow gr).nil⟩

/-! ### chains of comparisons of ints -/
def CmpI (X : Cx) (op : CmpOp) (f : Int → Int → Bool) : Prop := OpR X (compareOp op) (rI0 fun i j => .bl (f i j))
def wpTC (X : Cx) (i : Int) (ops : List CmpOp) (es : List Expr) (σ : Sl) (H : Hp) (Q : Bool → Hp → Prop) : Prop := ∀ (pins : List (Addr × Obj)) (s : Shared) (pos : Pos) (u : Value), Inv X pins σ H s → RelV (.int i) u →
  wpAny (model X.prog X.w) X.A (testChain pos u ops (evalEach es X.env)) (TP X pins σ Q) X.xe s
def WTC (X : Cx) (i : Int) (ops : List CmpOp) (es : List Expr) (E : EnvT) (k : Bool → EnvT → Prop) : Prop := ∀ (Z : Addr → Prop) (H : Hp) (σ : Sl) (F : List Addr) (Q : Bool → Hp → Prop), EnvS X.K Z H E σ F →
  (∀ (b : Bool) (E' : EnvT) (Z' : Addr → Prop) (H' : Hp) (F' : List Addr), k b E' → Fin X.K Z H σ F E' Z' H' F' [] → Q b H') → wpTC X i ops es σ H Q
theorem wtc_last {i : Int} {f : Int → Int → Bool} (hf : CmpI X op f) (h : WO X r E fun o E1 => ∃ j, o.get E1 = some (.int j) ∧ kb (f i j) E1) : WTC X i [op] [r] E kb := by
  intro Z H σ F Q he hk pins s pos u I ru
  refine PyProof.Rows.test_last (thn (h Z H σ F (fun v H1 => ∃ j, v = .int j ∧ Q (f i j) H1) he (fun o E1 Z1 H1 F1 G v ⟨j, g, q⟩ f1 rv => ?_) pins s I) fun v s1 ⟨x, H1, I1, r1, q1⟩ => ?_)
  · obtain ⟨G', r', _⟩ := rv.use f1.env g
    cases r'
    exact ⟨j, rfl, hk _ E1 Z1 H1 F1 q f1.nil⟩
  · obtain ⟨j, rfl, q⟩ := q1
    refine thn (hf pins s1 σ H1 (.int i) (.int j) u v (fun z H2 => z = .bl (f i j) ∧ Q (f i j) H2) I1 ru r1 ⟨i, j, rfl, rfl, rfl, q⟩) fun c s2 ⟨z, H2, I2, r2, ez, q2⟩ => ?_
    subst ez
    cases r2
    exact wpAny_truthy_bool ⟨H2, I2, q2⟩
theorem wtc_link {i : Int} {f : Int → Int → Bool} (hf : CmpI X op f) (h : WO X r E fun o E1 => ∃ j, o.get E1 = some (.int j) ∧ (f i j = true → WTC X j (op' :: ops) (r' :: rs) E1 kb) ∧ (f i j = false → kb false E1)) : WTC X i (op :: op' :: ops) (r :: r' :: rs) E kb := by
  intro Z H σ F Q he hk pins s pos u I ru
  show wpAny (model X.prog X.w) X.A (testChain pos u (op :: op' :: ops) (eval r X.env :: eval r' X.env :: evalEach rs X.env)) (TP X pins σ Q) X.xe s
  refine PyProof.Rows.test_link (thn (h Z H σ F (fun v H1 => ∃ j, v = .int j ∧ (f i j = true → wpTC X j (op' :: ops) (r' :: rs) σ H1 Q) ∧ (f i j = false → Q false H1)) he (fun o E1 Z1 H1 F1 G v ⟨j, g, q1, q2⟩ f1 rv => ?_) pins s I) fun v s1 ⟨x, H1, I1, r1, q1⟩ => ?_)
  · obtain ⟨G', r', _⟩ := rv.use f1.env g
    cases r'
    exact ⟨j, rfl, fun ht => q1 ht Z1 H1 σ F1 Q f1.env fun b E2 Z2 H2 F2 k2 f2 => hk b E2 Z2 H2 F2 k2 (f1.then f2), fun ht => hk _ E1 Z1 H1 F1 (q2 ht) f1.nil⟩
  · obtain ⟨j, rfl, qt, qf⟩ := q1
    refine thn (hf pins s1 σ H1 (.int i) (.int j) u v (fun z H2 => z = .bl (f i j) ∧ H2 = H1) I1 ru r1 ⟨i, j, rfl, rfl, rfl, rfl⟩) fun c s2 ⟨z, H2, I2, r2, ez, e2⟩ => ?_
    subst ez
    subst e2
    cases r2
    refine wpAny_truthy_bool ?_
    cases hb : f i j with
    | true => rw [if_pos rfl]; exact qt hb pins s2 pos v I2 r1
    | false => rw [if_neg Bool.false_ne_true]; exact ⟨H2, I2, qf hb⟩
theorem wt_chain {rs : List Expr} (h : WO X l E fun o E1 => ∃ i, o.get E1 = some (.int i) ∧ WTC X i (op1 :: op2 :: ops) (r1 :: r2 :: rs) E1 kb)
    (hm : lastMarks (op1 :: op2 :: ops) (r1 :: r2 :: rs) = false := by with_unfolding_all rfl) : WT X (.Compare l (op1 :: op2 :: ops) (r1 :: r2 :: rs) pos) E kb := by
  intro Z H σ F Q he hk pins s I
  refine PyProof.Rows.isTrue_chain (thn (h Z H σ F (fun v H1 => ∃ i, v = .int i ∧ wpTC X i (op1 :: op2 :: ops) (r1 :: r2 :: rs) σ H1 Q) he (fun o E1 Z1 H1 F1 G v ⟨i, g, q⟩ f1 rv => ?_) pins s I) fun v s1 ⟨x, H1, I1, rx, q1⟩ => ?_) hm
  · obtain ⟨G', r', _⟩ := rv.use f1.env g
    cases r'
    exact ⟨i, rfl, q Z1 H1 σ F1 Q f1.env fun b E2 Z2 H2 F2 k2 f2 => hk b E2 Z2 H2 F2 k2 (f1.then f2)⟩
  · obtain ⟨i, rfl, q⟩ := q1
    exact q pins s1 pos v I1 rx
/-! as values -/
def wpVC (X : Cx) (i : Int) (ops : List CmpOp) (es : List Expr) (σ : Sl) (H : Hp) (Q : VK) : Prop := ∀ (pins : List (Addr × Obj)) (s : Shared) (pos : Pos) (u : Value), Inv X pins σ H s → RelV (.int i) u →
  wpAny (model X.prog X.w) X.A (compareChain pos u ops (evalEach es X.env)) (EP X pins σ Q) X.xe s
def WVC (X : Cx) (i : Int) (ops : List CmpOp) (es : List Expr) (E : EnvT) (k : Bool → EnvT → Prop) : Prop := ∀ (Z : Addr → Prop) (H : Hp) (σ : Sl) (F : List Addr) (Q : VK), EnvS X.K Z H E σ F →
  (∀ (b : Bool) (E' : EnvT) (Z' : Addr → Prop) (H' : Hp) (F' : List Addr), k b E' → Fin X.K Z H σ F E' Z' H' F' [] → Q (.bl b) H') → wpVC X i ops es σ H Q
theorem wo_chain {rs : List Expr} (h : WO X l E fun o E1 => ∃ i, o.get E1 = some (.int i) ∧ WVC X i (op1 :: op2 :: ops) (r1 :: r2 :: rs) E1 fun t E2 => k (.val (.bl t)) E2)
    (hm : lastMarks (op1 :: op2 :: ops) (r1 :: r2 :: rs) = false := by with_unfolding_all rfl) : WO X (.Compare l (op1 :: op2 :: ops) (r1 :: r2 :: rs) pos) E k := by
  intro Z H σ F Q he hk pins s I
  refine PyProof.Rows.Compare_chain (thn (h Z H σ F (fun v H1 => ∃ i, v = .int i ∧ wpVC X i (op1 :: op2 :: ops) (r1 :: r2 :: rs) σ H1 Q) he (fun o E1 Z1 H1 F1 G v ⟨i, g, q⟩ f1 rv => ?_) pins s I) fun v s1 ⟨x, H1, I1, rx, q1⟩ => ?_) hm
  · obtain ⟨G', r', _⟩ := rv.use f1.env g
    cases r'
    exact ⟨i, rfl, q Z1 H1 σ F1 Q f1.env fun b E2 Z2 H2 F2 k2 f2 => hk _ E2 Z2 H2 F2 [] _ k2 (f1.then f2) (.bl b)⟩
  · obtain ⟨i, rfl, q⟩ := q1
    exact q pins s1 pos v I1 rx
end

/-! ### more stores -/
section
variable {X : Cx} {n : List Nat} {e a b c : Expr} {E : EnvT} {ks : KS} {pos p pos' : Pos} {i j : Nat} {x y : Str}
/-- x += e, ints -/
theorem ws_augI {m : Int} (hN : X.N.Nodup) (hi : X.N[i]? = some x) (hE : E[i]? = some (some (.int m))) (hx : Loc X.env.scope x) (hn : i ∉ n) (h : WO X e E fun o E1 => ∃ m2, o.get E1 = some (.int m2) ∧ i < E1.length ∧ ks.nx (E1.set i (some (.int (m + m2)))))
    (hf : X.fn x = true ∨ X.env.scope.names.lookup x = some .local := by first | exact .inl rfl | exact .inr rfl | assumption) : WS X n (.AugAssign (.Name x pos') .Add e pos) E ks := by
  intro Z H σ F Dd he hk
  obtain ⟨v, G, R, hv, rv, _, _⟩ := he.r.get hE
  cases rv
  refine wpS_by (ps_aug hN hi hx pe_w ip_add hf) ⟨_, hv, h Z H σ F _ he fun o E1 Z1 H1 F1 G1 v1 ⟨m2, g, hl, q⟩ f r => ?_⟩
  obtain ⟨G', r', _⟩ := r.use f.env g
  cases r'
  obtain ⟨F', h1, h2⟩ := f.env.asg (i := i) (.int (m + m2)) f.env.nd (fun a h => nomatch h) hl
  exact ⟨m, m2, rfl, rfl, hk.nx _ Z1 H1 _ F' q ⟨h1, h1.nd, (fun a q => nomatch q), f.nil.st.sub fun a ha => (h2 a ha).elim (fun z => nomatch z) id, Pin.set hn⟩⟩
/-- x = y = e, of a thing that owns nothing -/
theorem ws_asg2 {px py : Pos} (hN : X.N.Nodup) (hi : X.N[i]? = some x) (hj : X.N[j]? = some y) (hx : Loc X.env.scope x) (hy : Loc X.env.scope y) (hni : i ∉ n) (hnj : j ∉ n)
    (h : WE X e E fun d E1 => Imm d ∧ i < E1.length ∧ j < E1.length ∧ ks.nx ((E1.set i (some d)).set j (some d)))
    (hf : X.fn x = true ∨ X.env.scope.names.lookup x = some .local := by first | exact .inl rfl | exact .inr rfl | assumption) (hf2 : X.fn y = true ∨ X.env.scope.names.lookup y = some .local := by first | exact .inl rfl | exact .inr rfl | assumption)
    (ha : (assignEach [.Name x px, .Name y py] X.env).map (·.2) = [assign (.Name x px) X.env, assign (.Name y py) X.env] := by rfl) (hw : swappedStores [.Name x px, .Name y py] e X.env = pure none := by rfl) :
    WS X n (.Assign [.Name x px, .Name y py] e pos) E ks := by
  intro Z H σ F Dd he hk
  refine wpS_by (ps_asg2 pe_w (pg_name hN hi hx hf) (pg_name hN hj hy hf2) ha hw) (h Z H σ F _ he fun o E1 Z1 H1 F1 G v ⟨d, eo, im, li, lj, q⟩ f r => ?_)
  subst eo
  have r0 : Rep X.K Z1 H1 d v [] := Rep.nils r im
  obtain ⟨F2, h1, m1⟩ := f.env.asg (i := i) r0 f.env.nd (fun a h => nomatch h) li
  obtain ⟨F3, h2, m2⟩ := h1.asg (i := j) r0 h1.nd (fun a h => nomatch h) (by rw [List.length_set]; exact lj)
  exact hk.nx _ Z1 H1 _ F3 q ⟨h2, h2.nd, (fun a q => nomatch q), f.nil.st.sub fun a ha => (m2 a ha).elim (fun z => nomatch z) fun z => (m1 a z).elim (fun z => nomatch z) id, (Pin.set hni).trans (Pin.set hnj)⟩
/-- x, y = a, b -/
theorem ws_par {px py pt pt2 : Pos} {kt k2 : Nat} (hc : X.calm = true) (hN : X.N.Nodup) (hi : X.N[i]? = some x) (hj : X.N[j]? = some y) (hij : i ≠ j) (hni : i ∉ n) (hnj : j ∉ n)
    (hx : X.env.scope.names.lookup x = some .local) (hy : X.env.scope.names.lookup y = some .local)
    (h : WA X [a, b] E fun os E1 => ∃ d1 d2, os = [.val d1, .val d2] ∧ i < E1.length ∧ j < E1.length ∧ ks.nx ((E1.set i (some d1)).set j (some d2)))
    (hw : swappedStores [.Tuple [.Name x px, .Name y py] kt pt] (.Tuple [a, b] k2 pt2) X.env = pure (some [x, y]))
    (hs : swapsWithSole [.Tuple [.Name x px, .Name y py] kt pt] (.Tuple [a, b] k2 pt2) pos.line X.env = pure false := by rfl) :
    WS X n (.Assign [.Tuple [.Name x px, .Name y py] kt pt] (.Tuple [a, b] k2 pt2) pos) E ks := by
  intro Z H σ F Dd he hk
  refine wpS_by (ps_par hc hN hi hj hij hx hy pa_w hw hs) (h Z H σ F _ he fun os E1 Z1 H1 F1 G vs ⟨d1, d2, eo, li, lj, q⟩ f rs => ?_)
  subst eo
  cases rs with
  | cons r1 rs =>
    cases rs with
    | cons r2 rs =>
      cases rs
      rename_i v1 G1 v2 G2
      have f' := f
      rw [List.append_nil] at f'
      have rr1 : Rep X.K Z1 H1 d1 v1 G1 := r1
      have rr2 : Rep X.K Z1 H1 d2 v2 G2 := r2
      have nd := f'.nd
      have ndr : (G2 ++ F1).Nodup := (List.Sublist.append_right (List.sublist_append_right G1 G2) F1).nodup nd
      have ndl : (G1 ++ F1).Nodup := (List.Sublist.append_right (List.sublist_append_left G1 G2) F1).nodup nd
      obtain ⟨F2, h1, m1⟩ := f'.env.asg (i := i) rr1 ndl (fun a ha => f'.nz a (List.mem_append_left _ ha)) li
      have n12 : ∀ a ∈ G2, a ∉ G1 := fun a ha hb => (List.nodup_append.mp (List.nodup_append.mp nd).1).2.2 a hb a ha rfl
      have ndr2 : (G2 ++ F2).Nodup := List.nodup_append.mpr ⟨(List.nodup_append.mp ndr).1, h1.nd, fun a ha b hb e => by
        subst e
        rcases m1 a hb with q | q
        · exact n12 a ha q
        · exact (List.nodup_append.mp ndr).2.2 a ha a q rfl⟩
      obtain ⟨F3, h2, m2⟩ := h1.asg (i := j) rr2 ndr2 (fun a ha => f'.nz a (List.mem_append_right _ ha)) (by rw [List.length_set]; exact lj)
      refine ⟨v1, v2, rfl, hk.nx _ Z1 H1 _ F3 q ⟨h2, h2.nd, (fun a q => nomatch q), f'.st.sub fun a ha => ?_, (Pin.set hni).trans (Pin.set hnj)⟩⟩
      rcases m2 a ha with z | z
      · exact List.mem_append_left _ (List.mem_append_right _ z)
      · exact (m1 a z).elim (fun w => List.mem_append_left _ (List.mem_append_left _ w)) (List.mem_append_right _)
end

/-! ### calls of the module's defs -/
/-- the def's object at f, its parameters -/
structure FdAt (K : PySem.W.Frag) (f : Addr) (fd : FuncData) (ps : List Str) : Prop where
  at_ : ∃ oc od osl, K.lookup f = some ⟨oc, od, .func fd, osl⟩
  ps : ps = fd.params.args.map (·.arg)
theorem FdAt.of {K : PySem.W.Frag} {x q : Str} {pa : Arguments} {b : List Stmt} {sc : Scope} {dvs : List V} {kws : List (Str × V)} {f : Addr} {fd : FuncData} {ps : List Str} (F : FunD K x q pa b sc dvs kws f fd) (h : ps = pa.args.map (·.arg)) : FdAt K f fd ps := by
  obtain ⟨oc, od, dV, kV, doc, pm, an, cdv, ct, osl, rfl, lk, _⟩ := F.ex
  exact ⟨⟨oc, od, osl, lk⟩, h⟩
/-- at x stands a def that keeps sp -/
structure Cal (P : Program) (w : World) (K : PySem.W.Frag) (mg : Str → Option Value) (base : Heap) (k : Nat) (x : Str) (sp : Sp) : Prop where
  ex : ∃ (f : Addr) (fd : FuncData) (ps : List Str), FnOk P w K mg base CX0 k f fd ps sp ∧ mg x = some (.ref f) ∧ PySem.W.keepIn K (.ref f) = true ∧ Binds K fd ps [] ∧ FdAt K f fd ps
section
variable {X : Cx} {E : EnvT} {kk : Opd → EnvT → Prop} {e : Expr} {es : List Expr} {S : Ct} {x : Str} {k j : Nat} {p pos : Pos}
theorem wo_c0 (c : Cal X.prog X.w X.K X.mg X.base k x (toSp X.K 0 S)) (hr : Room j X.A) (hk : k ≤ j) (hg : Gl X x)
    (h : WA X (e :: es) E fun os E1 => ∃ ds, valsOf os = some ds ∧ ∃ a, S.pre a ds ∧ ∀ d, S.post a d [] → kk (.val d) E1)
    (hdb : (x == ("__debug__" : Str)) = false := by decide) (he : starEach (e :: es) X.env = (false, eval e X.env) :: starEach es X.env := by rfl) (hpl : (backTo pos (starEach es X.env)).any (·.1) = false := by rfl) :
    WO X (.Call (.Name x p) (e :: es) [] pos) E kk := by
  obtain ⟨f, fd, ps, F, hm, kp, b, _⟩ := c.ex
  exact wo_call0 (pe_call F (hr.mono hk) hg hm kp b .nil pass0 pa_w hdb he hpl) h
theorem wo_c1 (c : Cal X.prog X.w X.K X.mg X.base k x (toSp X.K 1 S)) (hr : Room j X.A) (hk : k ≤ j) (hg : Gl X x)
    (h : WA X (e :: es) E fun os E1 => ∃ i os' d0 ds, os = .bor i :: os' ∧ E1[i]? = some (some d0) ∧ valsOf os' = some ds ∧ ∃ a, S.pre a (d0 :: ds) ∧ ∀ d d0', S.post a d [d0'] → kk (.val d) (E1.set i (some d0')))
    (hdb : (x == ("__debug__" : Str)) = false := by decide) (he : starEach (e :: es) X.env = (false, eval e X.env) :: starEach es X.env := by rfl) (hpl : (backTo pos (starEach es X.env)).any (·.1) = false := by rfl) :
    WO X (.Call (.Name x p) (e :: es) [] pos) E kk := by
  obtain ⟨f, fd, ps, F, hm, kp, b, _⟩ := c.ex
  exact wo_call1 (pe_call F (hr.mono hk) hg hm kp b .nil pass0 pa_w hdb he hpl) h
end
/-- a def of the module -/
structure Has (K : PySem.W.Frag) (mg : Str → Option Value) (x : Str) (st : Stmt) (ps : List Str) : Prop where
  ex : ∃ (f : Addr) (fd : FuncData), FunD K x x (defArgs st) (defBody st) (defScope st) [] [] f fd ∧ mg x = some (.ref f) ∧ Binds K fd ps []
open PyProof.Rows (envOfC) in
theorem cal_of {P : Program} {w : World} {K : PySem.W.Frag} {mg : Str → Option Value} {base : Heap} {x : Str} {st : Stmt} {N ps : List Str} {k pin : Nat} {S : Ct} (h : Has K mg x st ps) (sc : FnScope N ps (defScope st))
    (hlen : ∀ a ds, S.pre a ds → ds.length = ps.length) (hpin : pin ≤ ps.length)
    (body : ∀ (f : Addr) (cdv : Value) (A : Around) (outer : List Env) (s : Shared) (H : Hp) (E : XK), Room k (A.deeper (envOfC x (defScope st) s.heap.objs.size f cdv)) → ∀ (a : S.α) (ds : List D), S.pre a ds →
      (let X : Cx := (cxOf CX0 P w K mg base N x (defScope st) f cdv A outer s H E).nox
      WSs X (List.range pin) (defBody st) (ds.map some ++ List.replicate (N.length - ps.length) none)
        { nx := fun E' => ∃ ds', E'.take pin = ds'.map some ∧ S.post a .non ds', rt := fun d E' => ∃ ds', E'.take pin = ds'.map some ∧ S.post a d ds' })) (hps : ps = (defArgs st).args.map (·.arg) := by rfl) : Cal P w K mg base (k + 1) x (toSp K pin S) := by
  obtain ⟨f, fd, F, hm, b⟩ := h.ex
  exact ⟨f, fd, ps, fn_ok F sc hlen hpin (body f), hm, F.kp, b, .of F hps⟩
end DL

/-! a tuple sorted -/
namespace SrtO
open PySem PyProof.Rows Srt
section
variable {prog : Program} {w : World} {A : Around} {E : Value → Shared → Prop} {s : Shared}
/-- sorted of a tuple: collected by the rule for both sequences, then sorted as a list -/
theorem sorted_tupS {l : Addr} {vs : List Value} {ltv : Value → Value → Bool} {Q : Value → Shared → Prop} (O : Swo ltv) (hl : IsTup s.heap l vs.toArray) (small : vs.length ≤ sizeLine)
    (able : 2 ≤ vs.length → ∀ (s1 : Shared) (a : Addr), SortableO prog w A.in1.in1 s1 a vs ltv)
    (fin : ∀ (g h' : Heap) (out : List Value) (c : Nat), (∀ b o, s.heap.get? b = some o → g.get? b = some o) → (∀ b o, g.get? b = some o → h'.get? b = some o) → h'.get? g.objs.size = some (seqObj "list" out.toArray c) → Srtd ltv out → Stb ltv out vs → Q (.ref g.objs.size) { s with heap := h' }) :
    wpAny (model prog w) A (call (.builtin "sorted") [.ref l]) Q E s := by
  obtain ⟨ob, there, kind, _, cells⟩ := hl
  refine Calls.call_function_entry kind_sorted plain_sorted entry_sorted (args_sorted1 _) (show wpAny _ _ (Builtin.«sorted» _) _ _ _ from ?_)
  unfold Builtin.«sorted»
  refine wpAny_bind (m := checkCount "sorted" 1 1 _) (wpAny_pure (wpAny_bind (wpAny_collect_seq l (.inr rfl) there kind cells (fun g keep => ?_) (by simpa using small))))
  have back : vs.toArray.toList = vs := by simp
  rw [back]
  have made : (g.push (seqObj "list" vs.toArray 0)).get? g.objs.size = some (seqObj "list" vs.toArray 0) := Heap.get?_push_size _ rfl
  refine wpAny_bind (wpAny_newList (wpAny_bind (wpAny_holding (wpAny_call_entry slot_list_sort ⟨_, made, rfl⟩ entry_list_sort (list_sort_ord O made small (fun h2 => able h2 _ _) fun out s1 s2 => ⟨_, rfl, ?_⟩) (args_list_sort _)))) small)
  obtain ⟨c, told⟩ := sortedHeap_at (vs := vs) (out := out.toArray) made
  refine wpAny_pure ⟨_, rfl, fin g _ out c keep (fun b o e => ?_) told s1 s2⟩
  have lt := Heap.lt_size e
  show (sortedHeap (g.push (seqObj "list" vs.toArray 0)) g.objs.size vs out.toArray).get? b = some o
  rw [sortedHeap_old (Nat.ne_of_lt lt) (by rw [size_push']; exact Nat.lt_succ_of_lt lt), Heap.get?_push_of_some _ e]
end
end SrtO
namespace DL
open PySem PySem.Spec L2
variable [LamT]
section
variable {X : Cx}
/-- sorted(tuple of ints) -/
def rSortT (K : PySem.W.Frag) : List V → Hp → VK → Prop := fun vs H Q => ∃ (a : Addr) (ns : List Int), vs = [V.ref a] ∧ SqT K H a (ns.map V.int) ∧
  ∀ (ns' : List Int) (p : Addr), ns'.Perm ns → ns'.Pairwise (· ≤ ·) → H p = none → Q (.ref p) (upd H p (.lst (ns'.map V.int)))
theorem cr_sortT : CallR X (.builtin "sorted") (rSortT X.K) := by
  intro pins s σ H vs us Q I r h
  obtain ⟨a, ns, rfl, hs, q⟩ := h
  obtain ⟨its, rv, hl, hz⟩ := I.tuple hs
  rw [Vals.ref1 r]
  have hi := rv.ints
  refine SrtO.sorted_tupS SrtO.swo_int hl (by rw [← rv.length]; exact hz) (fun h2 s1 a' => SrtO.ints_sortable hi h2) fun g h' out c k1 k2 told h1 h2 => ?_
  obtain ⟨q1, q2, q3⟩ := SrtO.ints_out hi h1 h2
  have lz : ((out.map SrtO.iv).map V.int).length ≤ sizeLine := by
    rw [List.length_map] at hz ⊢
    rw [q2.length_eq]
    exact hz
  have I1 : Inv X pins σ H { s with heap := g } := I.kept (t' := s.toks) k1
  exact ⟨.ref _, upd H g.objs.size (.lst ((out.map SrtO.iv).map V.int)), I1.laid (t' := s.toks) k2 (Nat.le_refl _) ⟨lz, out, c, vals_of_ints q1, told⟩, rfl, q _ _ q2 q3 (I1.hok.fresh (Nat.le_refl _))⟩
/-- tuple(list), the new object known whole -/
def rTupF (K : PySem.W.Frag) : List V → Hp → VK → Prop := fun vs H Q => ∃ (p : Addr) (xs : List V), vs = [V.ref p] ∧ SqL K H p xs ∧ ∀ q ob, H q = none → ob.dict = none → Q (.ref q) (upd H q (.frz ob (.tup xs)))
theorem cr_tupF : CallR X (.type "tuple") (rTupF X.K) := by
  intro pins s σ H vs us Q I r h
  obtain ⟨p, xs, rfl, hs, q⟩ := h
  obtain ⟨its, rv, pl, hz⟩ := I.list hs
  rw [Vals.ref1 r]
  refine call_tuple_list pl.isList (fun h' hk => ?_) (by rw [List.size_toArray, ← rv.length]; exact hz)
  have I1 : Inv X pins σ H { s with heap := h' } := I.kept (t' := s.toks) hk
  have I2 : Inv X pins σ (upd H h'.objs.size (.frz { cls := .type "tuple", data := .seq its.toArray } (.tup xs))) { s with heap := h'.push { cls := .type "tuple", data := .seq its.toArray } } :=
    I1.laid (t' := s.toks) (fun b o e => Heap.get?_push_of_some _ e) (Nat.le_refl _) ⟨Heap.get?_push_size _ rfl, (show ObjOk X.prog X.w _ _ _ (.tup xs) from ⟨hz, its, rv, PyProof.Rows.IsTup.new _ _⟩)⟩
  exact ⟨.ref h'.objs.size, _, I2, rfl, q _ _ (I1.hok.fresh (Nat.le_refl _)) rfl⟩
end
section
variable {X : Cx} {a e o : Expr} {E : EnvT} {k : Opd → EnvT → Prop} {pos apos p p2 p3 : Pos}
theorem wo_tupleF (hg : Gl X "tuple") (hm : X.mg "tuple" = none) (h : WO X a E fun o E1 => ∃ ds, (o.get E1).bind D.lseq = some ds ∧ Imms ds ∧ k (.val (.pt ds)) E1) (hs : starEach [a] X.env = (false, eval a X.env) :: starEach [] X.env := by rfl) : WO X (.Call (.Name "tuple" p) [a] [] pos) E k :=
  wo_b1 (pe_callTy cr_tupF hg hm (by decide +kernel) pa_w (he := hs)) (WO.mono h fun o E1 ⟨ds, g1, im, kk⟩ => by
    cases g : o.get E1 with
    | none => rw [g] at g1; simp at g1
    | some d1 =>
      rw [g] at g1
      refine ⟨d1, rfl, _, fun Z H v G rv => GivesP.one fun Q q => ?_, fun d e => by rw [e]; exact kk⟩
      obtain ⟨x, vs, G', rfl, hs, rs⟩ := rv.lseq (by simpa using g1)
      exact ⟨x, vs, rfl, hs, fun l ob hl hd => q _ _ [] (.pt upd_same hd ((rs.nils im).grow (Grow.new0 hl))) (Grow.new0 hl)⟩) hs
/-- t.index(i), a tuple known whole -/
def tTIx (to : TE) (t : TA) : TE := fun σ H Q => to σ H fun x H1 => ∃ (a : Addr) (ob : Obj) (ns : List Int), x = .ref a ∧ H1 a = some (.frz ob (.tup (ns.map V.int))) ∧ ob.dict = none ∧ t σ H1 fun xs H2 => ∃ i : Int, xs = [.int i] ∧ i ∈ ns ∧ H2 a = some (.frz ob (.tup (ns.map V.int))) ∧ Q (.int (ns.idxOf i : Nat)) H2
theorem pe_tix {to : TE} {t : TA} (ho : PE X o to) (ha : PA X [e] t)
    (hbase : attributeBase o "index" X.env (eval o X.env) = eval o X.env := by rfl)
    (hfew : ((backTo pos (starEach [e] X.env)).all (fun x => !x.1) && (backToKw pos (keywordEach [] X.env)).all (fun x => x.1.isSome)
      && decide ([e].length + ([] : List Keyword).length + (if ([] : List Keyword).isEmpty then 0 else 1) < 30)) = true := by rfl)
    (hline : (apos.endLine == pos.line) = true := by rfl) (hs : starEach [e] X.env = (false, eval e X.env) :: starEach [] X.env := by rfl) :
    PE X (.Call (.Attribute o "index" apos) [e] [] pos) (tTIx to t) := by
  refine ⟨fun pins s σ H Q I h => ?_⟩
  refine wpAny_Call_method_late hbase hfew hline rfl (thn (ho.run pins s σ H _ I h) fun v s1 ⟨x, H1, I1, r1, a, ob, ns, ex, hH, hd, q1⟩ => ?_)
  subst ex
  cases r1
  obtain ⟨hob, hz, its, rv, tp⟩ := (show ObjOk X.prog X.w H1 s1.heap a (.frz ob (.tup (ns.map V.int))) from I1.hok a _ hH)
  refine ⟨"tuple", "tuple.index", PySem.F.plainAttrs_tuple, PySem.F.slot_tuple_index, PySem.F.type_tuple_index, tp.typeIs, fun b eb => by cases eb; exact ⟨ob, hob, hd⟩, ?_⟩
  have hA := ha.run pos pins s1 σ H1 _ I1 q1
  rw [hs] at hA ⊢
  refine Calls.callWith_builtin (by rfl) (Calls.evalArgs_plain ?_)
  refine thn hA fun us s2 ⟨vs, H2, I2, r2, i, ev, hi, hH2, q2⟩ => ?_
  subst ev
  obtain ⟨u, eu, ru⟩ := Vals.one r2
  subst eu
  obtain ⟨t', rfl⟩ := ru
  obtain ⟨_, _, its2, rv2, tp2⟩ := (show ObjOk X.prog X.w H2 s2.heap a (.frz ob (.tup (ns.map V.int))) from I2.hok a _ hH2)
  exact PySem.SeqAt.tuple_index_ints tp2 rv2.ints hi ⟨.int _, H2, I2.tok _, ⟨_, rfl⟩, q2⟩
theorem wo_tix (h : WO X o E fun o1 E1 => ∃ ns : List Int, o1.get E1 = some (.pt (ns.map D.int)) ∧ WO X e E1 fun o2 E2 => ∃ i, o2.get E2 = some (.int i) ∧ i ∈ ns ∧ k (.val (.int (ns.idxOf i : Nat))) E2)
    (hbase : attributeBase o "index" X.env (eval o X.env) = eval o X.env := by rfl)
    (hfew : ((backTo pos (starEach [e] X.env)).all (fun x => !x.1) && (backToKw pos (keywordEach [] X.env)).all (fun x => x.1.isSome)
      && decide ([e].length + ([] : List Keyword).length + (if ([] : List Keyword).isEmpty then 0 else 1) < 30)) = true := by rfl)
    (hline : (apos.endLine == pos.line) = true := by rfl) (hs : starEach [e] X.env = (false, eval e X.env) :: starEach [] X.env := by rfl) :
    WO X (.Call (.Attribute o "index" apos) [e] [] pos) E k := by
  intro Z H σ F Q he hk
  refine wpE_by (pe_tix pe_w pa_w hbase hfew hline hs) (h Z H σ F _ he fun o1 E1 Z1 H1 F1 G1 v1 ⟨ns, g0, q⟩ f1 r1 => ?_)
  obtain ⟨G0, rr0, _⟩ := r1.use f1.env g0
  cases rr0 with
  | pt hH hd rs =>
    rename_i a ob vs
    have ev := rs.ints
    subst ev
    refine ⟨a, ob, ns, rfl, hH, hd, ?_⟩
    have hA : WA X [e] E1 fun os E2 => ∃ o2, os = [o2] ∧ ∃ i, o2.get E2 = some (.int i) ∧ i ∈ ns ∧ k (.val (.int (ns.idxOf i : Nat))) E2 := wa_cons (WO.mono q fun o E2 q => wa_nil ⟨o, rfl, q⟩) hs
    refine hA Z1 H1 σ F1 _ f1.env fun os E2 Z2 H2 F2 G2 ws ⟨o2, eo, i, g2, hi, kk⟩ f2 rs2 => ?_
    subst eo
    cases rs2 with
    | cons r2 rn =>
      cases rn
      obtain ⟨G5, rr2, _⟩ := r2.use f2.env g2
      cases rr2
      exact ⟨i, rfl, hi, f2.st.ft _ _ _ hH, hk _ E2 Z2 H2 F2 [] _ kk (f1.then f2).nil (.int _)⟩
/-- xs.index(i), a list of ints -/
theorem idxOf_first {ns : List Int} {i : Int} (h : i ∈ ns) : ns[ns.idxOf i]? = some i ∧ ∀ m, m < ns.idxOf i → ns[m]? ≠ some i := by
  induction ns with
  | nil => cases h
  | cons a ns ih =>
    rw [List.idxOf_cons]
    by_cases e : a = i
    · subst e
      simp
    · have e' : (a == i) = false := beq_eq_false_iff_ne.mpr e
      rw [e', cond_false]
      have hm : i ∈ ns := by
        rcases List.mem_cons.mp h with q | q
        · exact absurd q.symm e
        · exact q
      obtain ⟨h1, h2⟩ := ih hm
      refine ⟨by simpa using h1, fun m hm => ?_⟩
      cases m with
      | zero => simpa using e
      | succ m => simpa using h2 m (by omega)
theorem wo_indexI (h : WO X o E fun o1 E1 => ∃ ds0, (o1.get E1).bind D.lseq = some ds0 ∧ WO X e E1 fun o2 E2 => ∃ (ns : List Int) (i : Int), (o1.get E2).bind D.lseq = some (ns.map D.int) ∧ o2.get E2 = some (.int i) ∧ i ∈ ns ∧ k (.val (.int (ns.idxOf i : Nat))) E2)
    (hb : PE X (.Call (.Attribute o "index" apos) [e] [] pos) (tBM X.K "list" (rIndex X.K) (wpE X o) (wpA X [e]))) (hs : starEach [e] X.env = (false, eval e X.env) :: starEach [] X.env := by rfl) :
    WO X (.Call (.Attribute o "index" apos) [e] [] pos) E k :=
  wo_index (WO.mono h fun o1 E1 ⟨ds0, g0, q⟩ => ⟨ds0, g0, WO.mono q fun o2 E2 ⟨ns, i, g1, g2, hi, kk⟩ => by
    obtain ⟨h1, h2⟩ := idxOf_first hi
    refine ⟨ns.map D.int, .int i, ns.idxOf i, .int i, g1, g2, rfl, ?_, by rw [List.getElem?_map, h1]; rfl, by rw [deq_int]; exact decide_eq_true rfl, fun m z' hm hz => ?_, kk⟩
    · rw [List.all_map]
      exact List.all_eq_true.mpr fun _ _ => rfl
    · rw [List.getElem?_map] at hz
      cases hn : ns[m]? with
      | none => rw [hn] at hz; cases hz
      | some y =>
        rw [hn] at hz
        cases hz
        rw [deq_int]
        exact decide_eq_false fun ey => h2 m hm (by rw [hn, ey])⟩) hb hs
/-- xs[::-1] -/
theorem wo_revL {kx : Nat} (h : WO X e E fun o E1 => ∃ ds, (o.get E1).bind D.lseq = some ds ∧ Imms ds ∧ k (.val (.lst ds.reverse)) E1) : WO X (.Subscript e (.Slice none none (some (.UnaryOp .USub (.Constant (.int 1) kx p) p2)) p3) pos) E k := by
  intro Z H σ F Q he hk
  refine wpE_by (pe_revL pe_w) (h Z H σ F _ he fun o E1 Z1 H1 F1 G v ⟨ds, g1, im, kk⟩ f1 r1 => ?_)
  obtain ⟨d1, gd, gs⟩ := seq_of g1
  obtain ⟨G', r', _⟩ := r1.use f1.env gd
  obtain ⟨a, vs, G3, rfl, hs, rs⟩ := r'.lseq gs
  refine ⟨a, vs, rfl, hs, fun p hp => ?_⟩
  have rs0 := rs.nils im
  have rv : Reps X.K Z1 H1 ds.reverse vs.reverse [] := by
    clear hk kk g1 gs hs r' gd
    generalize hG : ([] : List Addr) = G0 at rs0
    have : ∀ {ds : List D} {vs : List V}, Reps X.K Z1 H1 ds vs [] → Imms ds → Reps X.K Z1 H1 ds.reverse vs.reverse [] := by
      intro ds
      induction ds with
      | nil => intro vs r _; cases r; exact .nil
      | cons d ds ih =>
        intro vs r im
        generalize hG : ([] : List Addr) = G0 at r
        cases r with
        | cons r1 rs =>
          have e := List.append_eq_nil_iff.mp hG.symm
          rename_i v F1 vs G1
          obtain ⟨e1, e2⟩ := e
          subst e1
          subst e2
          rw [List.reverse_cons, List.reverse_cons]
          exact (ih rs im.2).app (Reps.one r1)
    subst hG
    exact this rs0 im
  exact hk _ E1 Z1 _ F1 [p] _ kk (f1.nil.grow (Grow.new hp)) (.lst upd_same (rv.grow (Grow.new hp)))
end
end DL

namespace DL
open PySem PySem.Spec L2
variable [LamT]
section
variable {X : Cx} {a b e o : Expr} {E : EnvT} {k : Opd → EnvT → Prop} {pos apos p p2 p3 : Pos}
theorem wo_isi2 (hg : Gl X "isinstance") (hm : X.mg "isinstance" = none) (h : WO X a E fun o1 E1 => WO X b E1 fun o2 E2 => ∃ d t T r, o1.get E2 = some d ∧ d.ty = some t ∧ o2 = .val (.op (.ty T)) ∧ kitB t T = some r ∧ k (.val (.bl r)) E2)
    (hs : starEach [a, b] X.env = (false, eval a X.env) :: starEach [b] X.env := by rfl) (hs2 : starEach [b] X.env = (false, eval b X.env) :: starEach [] X.env := by rfl) : WO X (.Call (.Name "isinstance" p) [a, b] [] pos) E k :=
  wo_b2 (pe_callB call_isi hg hm (by decide +kernel) pa_w (he := hs) (hpl := by rw [hs2]; rfl)) (WO.mono h fun o1 E1 q => WO.mono q fun o2 E2 ⟨d, t, T, r, g1, ht, g2, hb, kk⟩ => by
    subst g2
    exact ⟨d, .op (.ty T), g1, rfl, _, fun Z H v1 v2 G1 G2 r1 r2 => GivesP.one fun Q q => by
      cases r2
      exact ⟨v1, _, _, _, r, rfl, .ty T, r1.ty ht, kit_ty hb, q _ H [] (.bl _) Grow.refl⟩, fun d e => by rw [e]; exact kk⟩) hs hs2
theorem kit_ii : kitB "int" "int" = some true := by decide +kernel
theorem kit_ib : kitB "int" "bool" = some false := by decide +kernel
theorem kit_it : kitB "int" "tuple" = some false := by decide +kernel
theorem kit_tt : kitB "tuple" "tuple" = some true := by decide +kernel
theorem kit_ti : kitB "tuple" "int" = some false := by decide +kernel
theorem kit_bb : kitB "bool" "bool" = some true := by decide +kernel
theorem kit_bi : kitB "bool" "int" = some true := by decide +kernel
theorem kit_ll : kitB "list" "list" = some true := by decide +kernel
theorem kit_dd : kitB "dict" "dict" = some true := by decide +kernel
theorem kit_ss : kitB "str" "str" = some true := by decide +kernel
theorem wo_tyn {x : Str} {T : String} (hg : Gl X x) (hm : X.mg x = none) (hv : bootBuiltins x = some (.type T)) (h : k (.val (.op (.ty T))) E) (hn : x ≠ "__name__" := by decide) (hd : (x == ("__debug__" : Str)) = false := by decide) : WO X (.Name x pos) E k := wo_bltn (v := .ty T) hg hm hv rfl h hn hd
/-- a module's int -/
theorem wo_gint {x : Str} {i : Int} {t : Tok} (hg : Gl X x) (hm : X.mg x = some (.int i t)) (h : k (.val (.int i)) E) (hd : (x == ("__debug__" : Str)) = false := by decide) : WO X (.Name x pos) E k :=
  wo_glob (v := .int i) hg hm ⟨t, rfl⟩ (fun _ _ => .int i) h hd
end
/-! ### lists that stay while they are walked -/
section
variable {K : PySem.W.Frag} {Z1 : Addr → Prop} {H1 : Hp} {σ : Sl} {F1 G : List Addr} {E1 : EnvT} {o : Opd} {d1 : D} {ds : List D} {a : Addr} {w : List (Nat × D)}
theorem OpdR.stay (he : EnvS K Z1 H1 E1 σ F1) (r1 : OpdR K Z1 H1 σ o (.ref a) G) (gd : o.get E1 = some d1) (gs : d1.lseq = some ds) (im : Imms ds) (off : ∀ x ∈ G, x ∉ F1) (sub : ∀ p ∈ watch E1 o, p ∈ w) :
    ∀ (E' : EnvT) (Z' : Addr → Prop) (H' : Hp) (σ' : Sl) (F' G4 : List Addr), FinS K (w.map (·.1)) Z1 H1 σ F1 E' Z' H' σ' F' G4 → (∀ p ∈ w, E'[p.1]? = some (some p.2)) → ∃ vs, SqL K H' a vs ∧ Reps K Z' H' ds vs [] := by
  intro E' Z' H' σ' F' G4 fs hE
  cases o with
  | val d2 =>
    cases gd
    have hr : Rep K Z' H' d1 (.ref a) G := Rep.step fs.st r1 off
    obtain ⟨a2, vs2, G5, e2, hs2, rs2⟩ := hr.lseq gs
    cases e2
    exact ⟨vs2, hs2, rs2.nils im⟩
  | bor i =>
    have hg : E1[i]?.join = some d1 := gd
    have hv : σ[i]? = some (some (.ref a)) := r1.1
    have hi0 := sub (i, (E1[i]?.join).getD .non) (by simp [watch])
    have hi' := hE _ hi0
    rw [hg] at hi'
    obtain ⟨v2, G5, R5, h1, h2, _⟩ := fs.env.r.get (i := i) (d := d1) hi'
    have hp : σ'[i]? = σ[i]? := fs.pin i (List.mem_map.mpr ⟨_, hi0, rfl⟩)
    rw [hp, hv] at h1
    cases h1
    obtain ⟨a2, vs2, G6, e2, hs2, rs2⟩ := h2.lseq gs
    cases e2
    exact ⟨vs2, hs2, rs2.nils im⟩
end
section
variable {X : Cx} {a b : Expr} {E : EnvT} {pos p : Pos}
end
end DL

namespace Ln
def insA (l : List Int) (p v : Int) : List Int := l.take (l.idxOf p + 1) ++ [v] ++ l.drop (l.idxOf p + 1)
def par (qs : List Int) (x : Int) : Int := qs.getD (x - 1).toNat 0
def lineN (qs : List Int) : Nat → List Int
  | 0 => [0]
  | n + 1 => insA (lineN qs n) (qs.getD n 0) ((n : Int) + 1)
/-- a tree of versions -/
def Good (qs : List Int) : Prop := qs.length ≤ 1000 ∧ ∀ (j : Nat) (q : Int), qs[j]? = some q → 0 ≤ q ∧ q ≤ (j : Int)
theorem idx_split {A C : List Int} {p : Int} (h : p ∉ A) : (A ++ p :: C).idxOf p = A.length := by
  rw [List.idxOf_append, if_neg h, List.idxOf_cons_self]
  omega
theorem insA_split {A C : List Int} {p v : Int} (h : p ∉ A) : insA (A ++ p :: C) p v = A ++ p :: v :: C := by
  unfold insA
  rw [idx_split h]
  have e : A ++ p :: C = (A ++ [p]) ++ C := by simp
  have l : (A ++ [p]).length = A.length + 1 := by simp
  rw [e, ← l, List.take_left, List.drop_left]
  simp
theorem split_of {l : List Int} {p : Int} (h : p ∈ l) : ∃ A C, l = A ++ p :: C ∧ p ∉ A := List.eq_append_cons_of_mem h
theorem good_get {qs : List Int} (g : Good qs) {n : Nat} (h : n < qs.length) : 0 ≤ qs.getD n 0 ∧ qs.getD n 0 ≤ (n : Int) := by
  have e : qs[n]? = some (qs.getD n 0) := by rw [List.getD_eq_getElem?_getD, List.getElem?_eq_getElem h]; rfl
  exact g.2 n _ e
structure Whole (n : Nat) (l : List Int) : Prop where
  mem : ∀ x, x ∈ l ↔ 0 ≤ x ∧ x ≤ (n : Int)
  nd : l.Nodup
  len : l.length = n + 1
theorem whole {qs : List Int} (g : Good qs) : ∀ {n : Nat}, n ≤ qs.length → Whole n (lineN qs n)
  | 0, _ => ⟨fun x => by
      show x ∈ [(0 : Int)] ↔ _
      rw [List.mem_singleton]
      omega, by simp [lineN], rfl⟩
  | n + 1, h => by
    have ih := whole g (n := n) (by omega)
    obtain ⟨h0, h1⟩ := good_get g (n := n) (by omega)
    obtain ⟨A, C, e, na⟩ := split_of ((ih.mem (qs.getD n 0)).mpr ⟨h0, h1⟩)
    show Whole (n + 1) (insA (lineN qs n) (qs.getD n 0) ((n : Int) + 1))
    have pm : (A ++ qs.getD n 0 :: ((n : Int) + 1) :: C).Perm (((n : Int) + 1) :: (A ++ qs.getD n 0 :: C)) := by
      have q := List.perm_middle (l₁ := A ++ [qs.getD n 0]) (a := (n : Int) + 1) (l₂ := C)
      simpa using q
    have m := ih.mem
    have nd := ih.nd
    have ln := ih.len
    rw [e] at m nd ln
    rw [e, insA_split na]
    refine ⟨fun x => ?_, ?_, ?_⟩
    · rw [pm.mem_iff, List.mem_cons, m x]
      push_cast
      omega
    · rw [pm.nodup_iff, List.nodup_cons]
      refine ⟨fun q => ?_, nd⟩
      have := (m _).mp q
      omega
    · rw [pm.length_eq, List.length_cons, ln]
theorem lineN_take {qs : List Int} {m : Nat} : ∀ {n : Nat}, n ≤ m → m ≤ qs.length → lineN (qs.take m) n = lineN qs n
  | 0, _, _ => rfl
  | n + 1, h, h2 => by
    show insA _ _ _ = insA _ _ _
    rw [lineN_take (n := n) (by omega) h2]
    congr 1
    rw [List.getD_eq_getElem?_getD, List.getD_eq_getElem?_getD, List.getElem?_take, if_pos (by omega)]
/-! ### the way up -/
def wayF (qs : List Int) : Nat → Int → List Int
  | 0, x => [x]
  | f + 1, x => if x = 0 then [x] else x :: wayF qs f (par qs x)
def way (qs : List Int) (x : Int) : List Int := wayF qs x.toNat x
theorem par_lt {qs : List Int} (g : Good qs) {x : Int} (h : 0 < x) (h2 : x ≤ qs.length) : 0 ≤ par qs x ∧ par qs x < x := by
  have q := good_get g (n := (x - 1).toNat) (by omega)
  unfold par
  omega
theorem way_fuel {qs : List Int} (g : Good qs) : ∀ (f : Nat) (x : Int), 0 ≤ x → x ≤ qs.length → x.toNat ≤ f → wayF qs f x = way qs x := by
  have key : ∀ (n : Nat) (x : Int) (f f' : Nat), x.toNat ≤ n → 0 ≤ x → x ≤ qs.length → x.toNat ≤ f → x.toNat ≤ f' → wayF qs f x = wayF qs f' x := by
    intro n
    induction n with
    | zero =>
      intro x f f' h h0 h1 h2 h3
      have e : x = 0 := by omega
      subst e
      cases f <;> cases f' <;> simp [wayF]
    | succ n ih =>
      intro x f f' h h0 h1 h2 h3
      by_cases e : x = 0
      · subst e
        cases f <;> cases f' <;> simp [wayF]
      · obtain ⟨p0, p1⟩ := par_lt g (x := x) (by omega) h1
        cases f with
        | zero => omega
        | succ f =>
          cases f' with
          | zero => omega
          | succ f' =>
            rw [wayF, wayF, if_neg e, if_neg e, ih (par qs x) f f' (by omega) p0 (by omega) (by omega) (by omega)]
  intro f x h0 h1 h2
  exact key _ x f x.toNat (Nat.le_refl _) h0 h1 h2 (Nat.le_refl _)
theorem way_zero {qs : List Int} : way qs 0 = [0] := rfl
theorem way_pos {qs : List Int} (g : Good qs) {x : Int} (h : 0 < x) (h2 : x ≤ qs.length) : way qs x = x :: way qs (par qs x) := by
  obtain ⟨p0, p1⟩ := par_lt g h h2
  obtain ⟨n, e⟩ : ∃ n, x.toNat = n + 1 := ⟨x.toNat - 1, by omega⟩
  unfold way
  rw [e, wayF, if_neg (by omega), way_fuel g n _ p0 (by omega) (by omega)]
  rfl
/-! ### the blocks of a line -/
structure Blk (qs : List Int) (n : Nat) (l : List Int) (v : Int) (A D B : List Int) : Prop where
  eq : l = A ++ v :: (D ++ B)
  gt : ∀ x ∈ D, v < x
  lt : ∀ b, B.head? = some b → b < v
  ds : ∀ x, 0 ≤ x → x ≤ (n : Int) → (x ∈ v :: D ↔ v ∈ way qs x)
  ch : ∀ c, 0 < c → c ≤ (n : Int) → par qs c = v → (∀ c', c < c' → c' ≤ (n : Int) → par qs c' ≠ v) → D.head? = some c
  sb : ∀ c, 0 < c → c < v → par qs c = par qs v → (∀ c', c < c' → c' < v → par qs c' ≠ par qs v) → B.head? = some c
theorem head_app {A C : List Int} {p v : Int} : (A ++ p :: v :: C).head? = (A ++ p :: C).head? := by
  cases A <;> rfl
theorem par_succ {qs : List Int} {n : Nat} : par qs ((n : Int) + 1) = qs.getD n 0 := by
  unfold par
  have e : ((n : Int) + 1 - 1).toNat = n := by omega
  rw [e]
theorem blocks {qs : List Int} (g : Good qs) : ∀ {n : Nat}, n ≤ qs.length → ∀ v : Int, 0 ≤ v → v ≤ n → ∃ A D B, Blk qs n (lineN qs n) v A D B
  | 0, _, v, h0, h1 => by
    have e : v = 0 := by omega
    subst e
    refine ⟨[], [], [], rfl, (fun x h => nomatch h), (fun b h => nomatch h), fun x hx hx2 => ?_, fun c h2 h3 => by omega, fun c h2 h3 => by omega⟩
    have e : x = 0 := by omega
    subst e
    rw [way_zero]
  | n + 1, h, v, h0, h1 => by
    have W := whole g (n := n) (by omega)
    obtain ⟨p0, p1⟩ := good_get g (n := n) (by omega)
    have hp : qs.getD n 0 = par qs ((n : Int) + 1) := par_succ.symm
    have wn : way qs ((n : Int) + 1) = ((n : Int) + 1) :: way qs (qs.getD n 0) := by rw [way_pos g (by omega) (by omega), ← hp]
    show ∃ A D B, Blk qs (n + 1) (insA (lineN qs n) (qs.getD n 0) ((n : Int) + 1)) v A D B
    generalize hpp : qs.getD n 0 = p at *
    have pm : p ∈ lineN qs n := (W.mem p).mpr ⟨p0, p1⟩
    by_cases hv : v = (n : Int) + 1
    · subst hv
      obtain ⟨A, D, B, b⟩ := blocks g (n := n) (by omega) p p0 (by omega)
      have nd := W.nd
      rw [b.eq] at nd
      have na : p ∉ A := fun q => (List.nodup_append.mp nd).2.2 p q p List.mem_cons_self rfl
      have mm : ∀ x ∈ D ++ B, x ≤ (n : Int) := fun x hx => ((W.mem x).mp (by rw [b.eq]; exact List.mem_append_right _ (List.mem_cons_of_mem _ hx))).2
      refine ⟨A ++ [p], [], D ++ B, by rw [b.eq, insA_split na]; simp, (fun x h => nomatch h), fun x hx => ?_, fun x hx hx2 => ?_, fun c c0 c1 c2 c3 => ?_, fun c c0 c1 c2 c3 => ?_⟩
      · have := mm x (List.mem_of_head? hx)
        omega
      · rw [List.mem_singleton]
        constructor
        · intro e
          subst e
          rw [wn]
          exact List.mem_cons_self
        · intro e
          by_cases q : x = (n : Int) + 1
          · exact q
          · exfalso
            have key : ∀ (k : Nat) (y : Int), y.toNat ≤ k → 0 ≤ y → y ≤ (n : Int) → ∀ z ∈ way qs y, z ≤ y := by
              intro k
              induction k with
              | zero =>
                intro y hy y0 y1 z hz
                have e : y = 0 := by omega
                subst e
                rw [way_zero, List.mem_singleton] at hz
                omega
              | succ k ih =>
                intro y hy y0 y1 z hz
                by_cases e : y = 0
                · subst e
                  rw [way_zero, List.mem_singleton] at hz
                  omega
                · rw [way_pos g (by omega) (by omega), List.mem_cons] at hz
                  obtain ⟨q0, q1⟩ := par_lt g (x := y) (by omega) (by omega)
                  rcases hz with z1 | z1
                  · omega
                  · have := ih (par qs y) (by omega) q0 (by omega) z z1
                    omega
            have := key x.toNat x (Nat.le_refl _) hx (by push_cast at hx2; omega) _ e
            push_cast at hx2
            omega
      · exfalso
        push_cast at c1
        obtain ⟨q0, q1⟩ := par_lt g c0 (by omega)
        omega
      · rw [← hp] at c2 c3
        have := b.ch c c0 (by omega) c2 fun c' h1 h2 => c3 c' h1 (by omega)
        cases D with
        | nil => cases this
        | cons d D => exact this
    · have hv' : v ≤ (n : Int) := by push_cast at h1; omega
      obtain ⟨A, D, B, b⟩ := blocks g (n := n) (by omega) v h0 hv'
      have nd := W.nd
      have pm' := pm
      rw [b.eq] at nd pm'
      have ndA := (List.nodup_append.mp nd).2.2
      have ndR := (List.nodup_append.mp nd).2.1
      have ndv := List.nodup_cons.mp ndR
      have ndDB := List.nodup_append.mp ndv.2
      have descN : ((n : Int) + 1 ∈ way qs ((n : Int) + 1)) := by rw [wn]; exact List.mem_cons_self
      have dsp : v ∈ way qs ((n : Int) + 1) ↔ p ∈ v :: D := by
        rw [wn, List.mem_cons, b.ds p p0 p1]
        constructor
        · rintro (q | q)
          · exact absurd q hv
          · exact q
        · exact .inr
      have chs : ∀ {D' : List Int}, p ≠ v → D'.head? = D.head? → ∀ c, 0 < c → c ≤ ((n + 1 : Nat) : Int) → par qs c = v → (∀ c', c < c' → c' ≤ ((n + 1 : Nat) : Int) → par qs c' ≠ v) → D'.head? = some c := by
        intro D' hne hh c c0 c1 c2 c3
        rw [hh]
        have cn : c ≠ (n : Int) + 1 := fun e => by
          rw [e, ← hp] at c2
          exact hne c2
        exact b.ch c c0 (by push_cast at c1; omega) c2 fun c' h1 h2 => c3 c' h1 (by push_cast; omega)
      rcases List.mem_append.mp pm' with q | q
      · obtain ⟨A1, A2, e, na⟩ := split_of q
        subst e
        have hpD : p ∉ v :: D := fun z => ndA p q p (by rcases List.mem_cons.mp z with y | y; exact List.mem_cons.mpr (.inl y); exact List.mem_cons_of_mem _ (List.mem_append_left _ y)) rfl
        refine ⟨A1 ++ p :: ((n : Int) + 1) :: A2, D, B, ?_, b.gt, b.lt, fun x hx hx2 => ?_, chs (fun e => hpD (by rw [e]; exact List.mem_cons_self)) rfl, b.sb⟩
        · rw [b.eq]
          have e2 : A1 ++ p :: A2 ++ v :: (D ++ B) = A1 ++ p :: (A2 ++ v :: (D ++ B)) := by simp
          rw [e2, insA_split na]
          simp
        · by_cases e : x = (n : Int) + 1
          · subst e
            rw [dsp]
            refine ⟨fun z => ?_, fun z => absurd z hpD⟩
            exfalso
            have := ((W.mem _).mp (show (n : Int) + 1 ∈ lineN qs n from by
              rw [b.eq]
              refine List.mem_append_right _ ?_
              rcases List.mem_cons.mp z with y | y
              · exact List.mem_cons.mpr (.inl y)
              · exact List.mem_cons_of_mem _ (List.mem_append_left _ y))).2
            omega
          · exact b.ds x hx (by push_cast at hx2; omega)
      · rcases List.mem_cons.mp q with q | q
        · subst q
          have na : p ∉ A := fun z => ndA p z p List.mem_cons_self rfl
          refine ⟨A, ((n : Int) + 1) :: D, B, by rw [b.eq, insA_split na]; rfl, fun x hx => ?_, b.lt, fun x hx hx2 => ?_, fun c c0 c1 c2 c3 => ?_, b.sb⟩
          · rcases List.mem_cons.mp hx with z | z
            · omega
            · exact b.gt x z
          · by_cases e : x = (n : Int) + 1
            · subst e
              rw [dsp]
              simp
            · rw [← b.ds x hx (by push_cast at hx2; omega)]
              simp [e]
          · by_cases e : c = (n : Int) + 1
            · rw [e]
              rfl
            · exact absurd hp.symm (c3 _ (by push_cast at c1; omega) (by push_cast; omega))
        · have npv : p ≠ v := fun z => ndv.1 (by rw [← z]; exact q)
          have na : p ∉ A := fun z => ndA p z p (List.mem_cons_of_mem _ q) rfl
          rcases List.mem_append.mp q with q | q
          · obtain ⟨D1, D2, e, nd1⟩ := split_of q
            subst e
            refine ⟨A, D1 ++ p :: ((n : Int) + 1) :: D2, B, ?_, fun x hx => ?_, b.lt, fun x hx hx2 => ?_, chs npv head_app, b.sb⟩
            · rw [b.eq]
              have e2 : A ++ v :: (D1 ++ p :: D2 ++ B) = (A ++ v :: D1) ++ p :: (D2 ++ B) := by simp
              rw [e2, insA_split]
              · simp
              · intro z
                rcases List.mem_append.mp z with y | y
                · exact na y
                · rcases List.mem_cons.mp y with y | y
                  · exact npv y
                  · exact nd1 y
            · have : x ∈ D1 ++ p :: D2 ∨ x = (n : Int) + 1 := by
                simp only [List.mem_append, List.mem_cons] at hx ⊢
                rcases hx with z | z | z | z
                · exact .inl (.inl z)
                · exact .inl (.inr (.inl z))
                · exact .inr z
                · exact .inl (.inr (.inr z))
              rcases this with z | z
              · exact b.gt x z
              · omega
            · by_cases e : x = (n : Int) + 1
              · subst e
                rw [dsp]
                simp
              · rw [← b.ds x hx (by push_cast at hx2; omega)]
                simp [e]
          · obtain ⟨B1, B2, e, nb1⟩ := split_of q
            subst e
            have hpD : p ∉ D := fun z => ndDB.2.2 p z p q rfl
            refine ⟨A, D, B1 ++ p :: ((n : Int) + 1) :: B2, ?_, b.gt, fun x hx => b.lt x (by rw [← hx, head_app]), fun x hx hx2 => ?_, chs npv rfl, fun c c0 c1 c2 c3 => by rw [head_app]; exact b.sb c c0 c1 c2 c3⟩
            · rw [b.eq]
              have e2 : A ++ v :: (D ++ (B1 ++ p :: B2)) = (A ++ v :: (D ++ B1)) ++ p :: B2 := by simp
              rw [e2, insA_split]
              · simp
              · intro z
                rcases List.mem_append.mp z with y | y
                · exact na y
                · rcases List.mem_cons.mp y with y | y
                  · exact npv y
                  · rcases List.mem_append.mp y with y | y
                    · exact hpD y
                    · exact nb1 y
            · by_cases e : x = (n : Int) + 1
              · subst e
                rw [dsp]
                refine ⟨fun z => ?_, fun z => ?_⟩
                · exfalso
                  have := ((W.mem _).mp (show (n : Int) + 1 ∈ lineN qs n from by
                    rw [b.eq]
                    refine List.mem_append_right _ ?_
                    rcases List.mem_cons.mp z with y | y
                    · exact List.mem_cons.mpr (.inl y)
                    · exact List.mem_cons_of_mem _ (List.mem_append_left _ y))).2
                  omega
                · rcases List.mem_cons.mp z with y | y
                  · exact absurd y npv
                  · exact absurd y hpD
              · exact b.ds x hx (by push_cast at hx2; omega)
/-! ### what follows a version -/
end Ln

namespace DL
open PySem PySem.Spec L2
variable [LamT]
theorem ix_nat {α : Type} {xs : List α} {i : Int} (h : 0 ≤ i) : atI xs i = xs[i.toNat]? := by
  unfold atI ixN
  rw [if_pos h]
  by_cases h1 : i < (xs.length : Int)
  · rw [if_pos h1]
    rfl
  · rw [if_neg h1]
    exact (List.getElem?_eq_none_iff.mpr (by omega)).symm
theorem atI_neg1 {α : Type} {xs : List α} {x : α} : atI (xs ++ [x]) (-1) = some x := by
  unfold atI ixN
  rw [if_neg (by omega), if_pos (by simp; omega)]
  have e : (-1 + ((xs ++ [x]).length : Int)).toNat = xs.length := by simp; omega
  show ((some (-1 + ((xs ++ [x]).length : Int)).toNat).bind fun j => (xs ++ [x])[j]?) = some x
  rw [e]
  simp
theorem getD_ints {xs : List Int} {i : Nat} (h : i < xs.length) : (xs.map D.int).getD i .non = .int (xs.getD i 0) := by
  rw [List.getD_eq_getElem?_getD, List.getD_eq_getElem?_getD, List.getElem?_map, List.getElem?_eq_getElem h]
  rfl
/-- a mark for the driver: tuples are known whole -/
inductive PtMode : Prop where
  | on
section
variable {X : Cx} {scope : Scope} {i j kk : Nat} {x y : Str} {px py pt : Pos}
theorem blk_name (hN : X.N.Nodup) (hi : X.N[i]? = some x) (hx : scope.names.lookup x = some .local) (s : Shared) (H : Hp) (C : Addr) (cl : List (Str × Addr)) (fp : List Addr) :
    PG (X.blk s H scope (compEnvC scope cl C X.env) fp) (.Name x px) (gName i) := pg_name (X := X.blk s H scope (compEnvC scope cl C X.env) fp) hN hi (.inl (lookup_relabel_local hx)) (.inr (lookup_relabel_local hx))
end
theorem cdivw {i j : Int} (h : 0 < j) (h2 : j < 4611686018427387904) : CDivW i j := by
  refine ⟨h, ?_⟩
  have e : j.natAbs < 2 ^ 62 := by omega
  have := (Nat.log2_lt (by omega : j.natAbs ≠ 0)).mpr e
  omega
theorem cpow {i j : Int} (h : 0 ≤ j) (h1 : j ≤ 1000) (h2 : 0 ≤ i) (h3 : i < 18446744073709551616) : CPow i j := ⟨h, by omega, by omega⟩
theorem cmul1 {i j : Int} (h : 0 ≤ i) (h2 : i < 18446744073709551616) : CMul i j := .inl ⟨by omega, by omega⟩
theorem cmul2 {i j : Int} (h : 0 ≤ j) (h2 : j < 18446744073709551616) : CMul i j := .inr ⟨by omega, by omega⟩
end DL

namespace DL
open PySem PySem.Spec L2
variable [LamT]
section
variable {X : Cx} {n : List Nat} {E : EnvT} {kb : Bool → EnvT → Prop} {pos pos' apos p p2 : Pos} {i j jj : Nat} {x z : Str} {e : Expr} {es : List Expr} {keys : List Key} {ds : List D} {d : D}
theorem wvs_nil {k : List D → EnvT → Prop} (h : k [] E) : WVs X [] E k := h
theorem wvs_cons {k : List D → EnvT → Prop} (h : WE X e E fun d E1 => WVs X es E1 fun ds E2 => k (d :: ds) E2) : WVs X (e :: es) E k := h
/-- x['z'] != [], a list of ints, as a test -/
theorem wt_dne {gs : List Int} (hu : X.A.units + 64 < cLine) (hN : X.N[i]? = some x) (hE : E[i]? = some (some (.dic keys ds))) (hk : keys.Nodup) (hj : keys[j]? = some (.inr z)) (hd : ds[j]? = some (.lst (gs.map D.int))) (h : kb (!decide (gs = [])) E)
    (hv : Vis X.env.scope x := by first | exact Or.inl rfl | exact Or.inr (Or.inl rfl) | exact Or.inr (Or.inr rfl)) (hdb : (x == ("__debug__" : Str)) = false := by decide) (hcd : (x == ("__classdict__" : Str)) = false := by decide) :
    WT X (.Compare (.Subscript (.Name x p) (.Constant (.str z) jj p2) pos') [.NotEq] [.List [] apos] pos) E kb := by
  intro Z H σ F Q he hk'
  obtain ⟨a, vs, Fd, R, hv1, hH, hl, rs, hR, hp⟩ := he.dic hE
  obtain ⟨v, G', hvj, rv, _⟩ := rs.get hd
  refine wpT_by (pt_cmpR (op_neD hu) (pe_dget (by omega) (pe_var hN hv hdb hcd) pe_str (fun _ _ => rfl)) (pe_lst pa_nil) (nomark _)) ⟨_, hv1, a, v, rfl, ?_, Nat.zero_le _, fun q hq => ?_⟩
  · have g := DGet.k (k := Sum.inr z) hH
    rw [valV_zip hk hj hvj] at g
    exact g
  · have gr := Grow.new0 (H := H) (p := q) (o := .lst []) hq
    have s1 : ShpN 1 (.lst (gs.map D.int)) := shpN_lst fun d hd => by
      obtain ⟨y, _, rfl⟩ := List.mem_map.mp hd
      exact shpN_int
    have s2 : ShpN 1 (.lst []) := shpN_lst fun d hd => nomatch hd
    have rq : Rep X.K Z (upd H q (.lst [])) (.lst []) (.ref q) [q] := .lst upd_same .nil
    refine ⟨_, _, (rv.grow gr).dp s1.1, rq.dp s2.1, s1.shp (by decide), s2.shp (by decide), ?_⟩
    have e : (!PyData.eqv (toPy (.lst (gs.map D.int))) (toPy (.lst []))) = !decide (gs = []) := by
      have q2 : PyData.eqv (toPy (.lst (gs.map D.int))) (toPy (.lst ([].map D.int))) = decide (gs = []) := by
        have q3 := deqs_ints (xs := gs) (ys := [])
        have q4 : deq (.lst (gs.map D.int)) (.lst ([].map D.int)) = deqs (gs.map D.int) ([].map D.int) := deq_ll rfl rfl
        rw [q3] at q4
        exact q4
      exact congrArg (!·) q2
    rw [e]
    exact ⟨_, rfl, hk' _ E Z _ F h ((Fin.refl he).grow gr).nil⟩
end
/-! ### the state of the draws -/
def kS : List Key := [.inr "great", .inr "cells", .inr "left", .inr "turn"]
theorem kN : kS.Nodup := by decide
theorem key0 : kS[0]? = some (.inr "great") := rfl
theorem key1 : kS[1]? = some (.inr "cells") := rfl
theorem key2 : kS[2]? = some (.inr "left") := rfl
theorem key3 : kS[3]? = some (.inr "turn") := rfl
def stD (g c : List Int) (l t : Int) : D := .dic kS [.lst (g.map D.int), .fz (c.map D.int), .int l, .int t]
end DL

namespace DL
open PySem PySem.Spec L2
variable [LamT]
section
variable {X : Cx} {n : List Nat} {e a b c : Expr} {E : EnvT} {ks : KS} {pos p pos' : Pos} {i j l : Nat} {x y z : Str}
theorem WT.mono {k k' : Bool → EnvT → Prop} (h : WT X e E k) (m : ∀ t E', k t E' → k' t E') : WT X e E k' := fun Z H σ F Q he hk => h Z H σ F Q he fun t E' Z' H' F' q => hk t E' Z' H' F' (m t E' q)
/-- x, y, z = a, b, c -/
theorem ws_par3 {px py pz pt pt2 : Pos} {kt k2 : Nat} (hc : X.calm = true) (hN : X.N.Nodup) (hi : X.N[i]? = some x) (hj : X.N[j]? = some y) (hl : X.N[l]? = some z) (hij : i ≠ j) (hil : i ≠ l) (hjl : j ≠ l) (hni : i ∉ n) (hnj : j ∉ n) (hnl : l ∉ n)
    (hx : X.env.scope.names.lookup x = some .local) (hy : X.env.scope.names.lookup y = some .local) (hz : X.env.scope.names.lookup z = some .local)
    (h : WA X [a, b, c] E fun os E1 => ∃ d1 d2 d3, os = [.val d1, .val d2, .val d3] ∧ i < E1.length ∧ j < E1.length ∧ l < E1.length ∧ ks.nx (((E1.set i (some d1)).set j (some d2)).set l (some d3)))
    (hw : swappedStores [.Tuple [.Name x px, .Name y py, .Name z pz] kt pt] (.Tuple [a, b, c] k2 pt2) X.env = pure (some [x, y, z]))
    (hs : swapsWithSole [.Tuple [.Name x px, .Name y py, .Name z pz] kt pt] (.Tuple [a, b, c] k2 pt2) pos.line X.env = pure false := by rfl) :
    WS X n (.Assign [.Tuple [.Name x px, .Name y py, .Name z pz] kt pt] (.Tuple [a, b, c] k2 pt2) pos) E ks := by
  intro Z H σ F Dd he hk
  refine wpS_by (L2.ps_par3 hc hN hi hj hl hij hil hjl hx hy hz pa_w hw hs) (h Z H σ F _ he fun os E1 Z1 H1 F1 G vs ⟨d1, d2, d3, eo, li, lj, ll, q⟩ f rs => ?_)
  subst eo
  cases rs with
  | cons r1 rs =>
    cases rs with
    | cons r2 rs =>
      cases rs with
      | cons r3 rs =>
        cases rs
        rename_i v1 G1 v2 G2 v3 G3
        have f' := f
        rw [List.append_nil] at f'
        have rr1 : Rep X.K Z1 H1 d1 v1 G1 := r1
        have rr2 : Rep X.K Z1 H1 d2 v2 G2 := r2
        have rr3 : Rep X.K Z1 H1 d3 v3 G3 := r3
        have nd := f'.nd
        have nda := List.nodup_append.mp nd
        have ndg := List.nodup_append.mp nda.1
        have ndg2 := List.nodup_append.mp ndg.2.1
        have d1 : ∀ a ∈ G1, a ∉ F1 := fun a ha hf => nda.2.2 a (List.mem_append_left _ ha) a hf rfl
        have d2 : ∀ a ∈ G2, a ∉ F1 := fun a ha hf => nda.2.2 a (List.mem_append_right _ (List.mem_append_left _ ha)) a hf rfl
        have d3 : ∀ a ∈ G3, a ∉ F1 := fun a ha hf => nda.2.2 a (List.mem_append_right _ (List.mem_append_right _ ha)) a hf rfl
        have d21 : ∀ a ∈ G2, a ∉ G1 := fun a ha hf => ndg.2.2 a hf a (List.mem_append_left _ ha) rfl
        have d31 : ∀ a ∈ G3, a ∉ G1 := fun a ha hf => ndg.2.2 a hf a (List.mem_append_right _ ha) rfl
        have d32 : ∀ a ∈ G3, a ∉ G2 := fun a ha hf => ndg2.2.2 a hf a ha rfl
        obtain ⟨F2, h1, m1⟩ := f'.env.asg (i := i) rr1 (List.nodup_append.mpr ⟨ndg.1, f'.env.nd, fun a ha b hb e => d1 a ha (e ▸ hb)⟩) (fun a ha => f'.nz a (List.mem_append_left _ ha)) li
        obtain ⟨F3, h2, m2⟩ := h1.asg (i := j) rr2 (List.nodup_append.mpr ⟨ndg2.1, h1.nd, fun a ha b hb e => (m1 b hb).elim (fun q => d21 a ha (e ▸ q)) fun q => d2 a ha (e ▸ q)⟩) (fun a ha => f'.nz a (List.mem_append_right _ (List.mem_append_left _ ha))) (by rw [List.length_set]; exact lj)
        obtain ⟨F4, h3, m3⟩ := h2.asg (i := l) rr3 (List.nodup_append.mpr ⟨ndg2.2.1, h2.nd, fun a ha b hb e => (m2 b hb).elim (fun q => d32 a ha (e ▸ q)) fun q => (m1 b q).elim (fun q => d31 a ha (e ▸ q)) fun q => d3 a ha (e ▸ q)⟩) (fun a ha => f'.nz a (List.mem_append_right _ (List.mem_append_right _ ha))) (by rw [List.length_set, List.length_set]; exact ll)
        refine ⟨v1, v2, v3, rfl, hk.nx _ Z1 H1 _ F4 q ⟨h3, h3.nd, (fun a q => nomatch q), f'.st.sub fun a ha => ?_, ((Pin.set hni).trans (Pin.set hnj)).trans (Pin.set hnl)⟩⟩
        simp only [List.mem_append]
        rcases m3 a ha with q | q
        · exact .inl (.inr (.inr q))
        · rcases m2 a q with q | q
          · exact .inl (.inr (.inl q))
          · rcases m1 a q with q | q
            · exact .inl (.inl q)
            · exact .inr q
end
end DL

namespace DL
open PySem PySem.Spec L2
variable [LamT]
section
variable {X : Cx}
theorem any_ints {ns : List Int} {i : Int} : ((ns.map D.int).any fun x => deq x (.int i)) = decide (i ∈ ns) := by
  induction ns with
  | nil => simp
  | cons a ns ih =>
    rw [List.map_cons, List.any_cons, ih, deq_int]
    by_cases h : a = i
    · simp [h]
    · have h' : ¬ i = a := fun e => h e.symm
      simp [h, h']
theorem cmp_inS {d2 : D} {ds : List D} {ns : List Int} {i : Int} (h2 : d2.seq = some ds) (h3 : ds = ns.map D.int) : CmpD X .In (.int i) d2 (decide (i ∈ ns)) := .mk op_in_seq fun Z H v1 v2 G1 G2 r1 r2 Q q => by
  obtain ⟨p, vs, G', rfl, hs, rs⟩ := r2.seq h2
  subst h3
  obtain ⟨q1, q2⟩ := Reps.flat r1 rfl rs (by rw [List.all_map]; exact List.all_eq_true.mpr fun _ _ => rfl)
  refine ⟨p, vs, rfl, hs, (r1.flat rfl).1, q1, ?_⟩
  rw [q2, any_ints]
  exact q _ H [] (.bl _) Grow.refl
theorem cmp_notinS {d2 : D} {ds : List D} {ns : List Int} {i : Int} (h2 : d2.seq = some ds) (h3 : ds = ns.map D.int) : CmpD X .NotIn (.int i) d2 (!decide (i ∈ ns)) := .mk op_notIn_seq fun Z H v1 v2 G1 G2 r1 r2 Q q => by
  obtain ⟨p, vs, G', rfl, hs, rs⟩ := r2.seq h2
  subst h3
  obtain ⟨q1, q2⟩ := Reps.flat r1 rfl rs (by rw [List.all_map]; exact List.all_eq_true.mpr fun _ _ => rfl)
  refine ⟨p, vs, rfl, hs, (r1.flat rfl).1, q1, ?_⟩
  rw [q2, any_ints]
  exact q _ H [] (.bl _) Grow.refl
theorem cmp_inL {ns : List Int} {i : Int} : CmpD X .In (.int i) (.lst (ns.map D.int)) (decide (i ∈ ns)) := cmp_inS rfl rfl
theorem cmp_niL {ns : List Int} {i : Int} : CmpD X .NotIn (.int i) (.lst (ns.map D.int)) (!decide (i ∈ ns)) := cmp_notinS rfl rfl
theorem cmp_inF {ns : List Int} {i : Int} : CmpD X .In (.int i) (.fz (ns.map D.int)) (decide (i ∈ ns)) := cmp_inS rfl rfl
theorem cmp_niF {ns : List Int} {i : Int} : CmpD X .NotIn (.int i) (.fz (ns.map D.int)) (!decide (i ∈ ns)) := cmp_notinS rfl rfl
theorem cmp_inT {ns : List Int} {i : Int} : CmpD X .In (.int i) (.tup (ns.map D.int)) (decide (i ∈ ns)) := cmp_inS rfl rfl
theorem cmp_niT {ns : List Int} {i : Int} : CmpD X .NotIn (.int i) (.tup (ns.map D.int)) (!decide (i ∈ ns)) := cmp_notinS rfl rfl
theorem cmp_inP {ns : List Int} {i : Int} : CmpD X .In (.int i) (.pt (ns.map D.int)) (decide (i ∈ ns)) := cmp_inS rfl rfl
theorem cmp_niP {ns : List Int} {i : Int} : CmpD X .NotIn (.int i) (.pt (ns.map D.int)) (!decide (i ∈ ns)) := cmp_notinS rfl rfl
end
end DL

namespace DL
open PySem PySem.Spec L2
variable [LamT]
section
variable {X : Cx}
theorem shp_lstI {l : List Int} : Shp (.lst (l.map D.int)) := ShpN.shp (n := 1) (shpN_lst fun d hd => by
  obtain ⟨x, _, e⟩ := List.mem_map.mp hd
  rw [← e]; exact shpN_int) (by decide)
theorem shp_tupI {l : List Int} : Shp (.tup (l.map D.int)) := ShpN.shp (n := 1) (shpN_tup fun d hd => by
  obtain ⟨x, _, e⟩ := List.mem_map.mp hd
  rw [← e]; exact shpN_int) (by decide)
theorem shp_ptI {l : List Int} : Shp (.pt (l.map D.int)) := ShpN.shp (n := 1) (shpN_pt fun d hd => by
  obtain ⟨x, _, e⟩ := List.mem_map.mp hd
  rw [← e]; exact shpN_int) (by decide)
theorem cmp_neLL {xs ys : List Int} (hu : X.A.units + 64 < cLine) : CmpD X .NotEq (.lst (xs.map D.int)) (.lst (ys.map D.int)) (!decide (xs = ys)) := by
  have q := cmp_ne (X := X) (d1 := .lst (xs.map D.int)) (d2 := .lst (ys.map D.int)) hu shp_lstI shp_lstI
  rw [deq_ll rfl rfl, deqs_ints] at q
  exact q
theorem cmp_neTT {xs ys : List Int} (hu : X.A.units + 64 < cLine) : CmpD X .NotEq (.tup (xs.map D.int)) (.tup (ys.map D.int)) (!decide (xs = ys)) := by
  have q := cmp_ne (X := X) (d1 := .tup (xs.map D.int)) (d2 := .tup (ys.map D.int)) hu shp_tupI shp_tupI
  rw [deq_tt rfl rfl, deqs_ints] at q
  exact q
theorem cmp_nePT {xs ys : List Int} (hu : X.A.units + 64 < cLine) : CmpD X .NotEq (.pt (xs.map D.int)) (.tup (ys.map D.int)) (!decide (xs = ys)) := by
  have q := cmp_ne (X := X) (d1 := .pt (xs.map D.int)) (d2 := .tup (ys.map D.int)) hu shp_ptI shp_tupI
  rw [deq_tt rfl rfl, deqs_ints] at q
  exact q
theorem cmp_eqLL {xs ys : List Int} (hu : X.A.units + 64 < cLine) : CmpD X .Eq (.lst (xs.map D.int)) (.lst (ys.map D.int)) (decide (xs = ys)) := by
  have q := cmp_eq (X := X) (d1 := .lst (xs.map D.int)) (d2 := .lst (ys.map D.int)) hu shp_lstI shp_lstI
  rw [deq_ll rfl rfl, deqs_ints] at q
  exact q
/-- [] == [] and the like -/
theorem cmp_eqLN {xs : List Int} (hu : X.A.units + 64 < cLine) : CmpD X .Eq (.lst (xs.map D.int)) (.lst []) (decide (xs = [])) := cmp_eqLL (ys := []) hu
theorem cmp_neLN {xs : List Int} (hu : X.A.units + 64 < cLine) : CmpD X .NotEq (.lst (xs.map D.int)) (.lst []) (!decide (xs = [])) := cmp_neLL (ys := []) hu
theorem cmpi_lt : CmpI X .Lt fun i j => decide (i < j) := op_lt
theorem cmpi_le : CmpI X .LtE fun i j => decide (i ≤ j) := op_le
theorem cmpi_gt : CmpI X .Gt fun i j => decide (j < i) := op_gt
theorem cmpi_ge : CmpI X .GtE fun i j => decide (j ≤ i) := op_ge
/-- slices, by trees -/
def rSlD (X : Cx) : V → Option Int → Option Int → Hp → VK → Prop := fun v l u H Q => ∃ r, SlR X r ∧ r v l u H Q
def SlD (X : Cx) (d1 : D) (l u : Option Int) (d : D) : Prop := ∀ Z H v G, Rep X.K Z H d1 v G → Gives X.K Z H d (rSlD X v l u H)
theorem slr_D : SlR X (rSlD X) := fun pins s σ H x v vl vu lo hi sl Q I rx hs pl pu ⟨r, hr, q⟩ => hr pins s σ H x v vl vu lo hi sl Q I rx hs pl pu q
theorem sl_T {d1 : D} {ds : List D} {l u : Option Int} (h : d1.tseq = some ds) (im : Imms ds) : SlD X d1 l u (.tup (cutD ds l u)) := fun Z H v G r Q q => by
  obtain ⟨a, vs, rfl, hs, rs⟩ := r.tseq h
  have rs0 := rs.nils im
  obtain ⟨G', rc⟩ := rs0.cut l u
  have rc0 := rc.nils (imms_cut im)
  refine ⟨_, sl_tupA, a, vs, rfl, hs, fun hw => ?_, fun hw p hp => ?_⟩
  · refine q _ H [] (.tup hs ?_) Grow.refl
    have e : cutV vs l u = vs := by unfold cutV; rw [hw.1, hw.2]; simp
    rw [e] at rc0
    exact rc0
  · exact q _ _ [] (.tup (SqT.of upd_same) (rc0.grow (Grow.new0 hp))) (Grow.new0 hp)
theorem sl_L {d1 : D} {ds : List D} {l u : Option Int} (h : d1.lseq = some ds) (im : Imms ds) : SlD X d1 l u (.lst (cutD ds l u)) := fun Z H v G r Q q => by
  obtain ⟨a, vs, G1, rfl, hs, rs⟩ := r.lseq h
  have rs0 := rs.nils im
  obtain ⟨G', rc⟩ := rs0.cut l u
  have rc0 := rc.nils (imms_cut im)
  exact ⟨_, sl_list, a, vs, rfl, hs, fun p hp => q _ _ [p] (.lst upd_same (rc0.grow (Grow.new hp))) (Grow.new hp)⟩
theorem sl_t {ds : List D} {l u : Option Int} (im : Imms ds) : SlD X (.tup ds) l u (.tup (cutD ds l u)) := sl_T rfl im
theorem sl_p {ds : List D} {l u : Option Int} (im : Imms ds) : SlD X (.pt ds) l u (.tup (cutD ds l u)) := sl_T rfl im
theorem sl_l {ds : List D} {l u : Option Int} (im : Imms ds) : SlD X (.lst ds) l u (.lst (cutD ds l u)) := sl_L rfl im
theorem sl_f {ds : List D} {l u : Option Int} (im : Imms ds) : SlD X (.fz ds) l u (.lst (cutD ds l u)) := sl_L rfl im
theorem wo_slD {e : Expr} {E : EnvT} {k : Opd → EnvT → Prop} {lo hi : Option Expr} {pos p2 : Pos} (h : WO X e E fun o E1 => WPt X lo E1 fun l E2 => WPt X hi E2 fun u E3 => ∃ d1 d, o.get E3 = some d1 ∧ SlD X d1 l u d ∧ k (.val d) E3) :
    WO X (.Subscript e (.Slice lo hi none p2) pos) E k := wo_sl slr_D h
end
end DL

namespace DL
open PySem PySem.Spec L2
variable [LamT]
theorem at2_0 {a b : D} : atI [a, b] 0 = some a := (ix_nat (by decide)).trans rfl
theorem at2_1 {a b : D} : atI [a, b] 1 = some b := (ix_nat (by decide)).trans rfl
theorem at3_0 {a b c : D} : atI [a, b, c] 0 = some a := (ix_nat (by decide)).trans rfl
theorem at3_1 {a b c : D} : atI [a, b, c] 1 = some b := (ix_nat (by decide)).trans rfl
theorem at3_2 {a b c : D} : atI [a, b, c] 2 = some c := (ix_nat (by decide)).trans rfl
def pairD (p : Int × Int) : D := .tup [.int p.1, .int p.2]
theorem imms_pairs : ∀ {ps : List (Int × Int)}, Imms (ps.map pairD)
  | [] => trivial
  | _ :: _ => ⟨⟨trivial, trivial, trivial⟩, imms_pairs⟩
theorem shp_pairs {ps : List (Int × Int)} : Shp (.lst (ps.map pairD)) := ShpN.shp (n := 2) (shpN_lst fun d hd => by
  obtain ⟨x, _, e⟩ := List.mem_map.mp hd
  rw [← e]
  exact shpN_tup fun d hd => by
    rcases List.mem_cons.mp hd with q | q
    · rw [q]; exact shpN_int
    · rw [List.mem_singleton.mp q]; exact shpN_int) (by decide)
section
variable {X : Cx}
theorem cmp_neE {ds : List D} (hu : X.A.units + 64 < cLine) (h : Shp (.lst ds)) : CmpD X .NotEq (.lst ds) (.lst []) (!ds.isEmpty) := by
  have q := cmp_ne (X := X) (d1 := .lst ds) (d2 := .lst []) hu h (shp_lstI (l := []))
  rw [deq_ll rfl rfl] at q
  have e : deqs ds [] = ds.isEmpty := by
    cases ds with
    | nil => exact deqs_nil
    | cons d ds => exact deqs_cn
  rw [e] at q
  exact q
theorem cmp_neP {ps : List (Int × Int)} (hu : X.A.units + 64 < cLine) : CmpD X .NotEq (.lst (ps.map pairD)) (.lst []) (!(ps.map pairD).isEmpty) := cmp_neE hu shp_pairs
theorem cmp_eqN {i : Int} (hu : X.A.units + 64 < cLine) : CmpD X .Eq .non (.int i) false := by
  have q := cmp_eq (X := X) (d1 := .non) (d2 := .int i) hu shp_non shp_int
  have e : deq .non (.int i) = false := by simp [deq, toPy, PyData.eqv]
  rw [e] at q
  exact q
end
end DL

namespace DL
open PySem PySem.Spec L2
variable [LamT]
section
variable {X : Cx}
theorem cmp_notB {a b : Bool} : CmpD X .IsNot (.bl a) (.bl b) (!decide (a = b)) := .mk op_notBl fun Z H v1 v2 G1 G2 r1 r2 Q q => by
  cases r1
  cases r2
  exact ⟨_, _, rfl, rfl, q _ H [] (.bl _) Grow.refl⟩
end
end DL

namespace DL
open PySem PySem.Spec L2
variable [LamT]
theorem OpdRs.ofReps {K : PySem.W.Frag} {Z : Addr → Prop} {H : Hp} {σ : Sl} : ∀ {ds : List D} {vs : List V} {G : List Addr}, Reps K Z H ds vs G → OpdRs K Z H σ (ds.map Opd.val) vs G
  | _, _, _, .nil => .nil
  | _, _, _, .cons r rs => .cons r (OpdRs.ofReps rs)
theorem OpdRs.app {K : PySem.W.Frag} {Z : Addr → Prop} {H : Hp} {σ : Sl} : ∀ {os os' : List Opd} {vs ws : List V} {G G' : List Addr}, OpdRs K Z H σ os vs G → OpdRs K Z H σ os' ws G' → OpdRs K Z H σ (os ++ os') (vs ++ ws) (G ++ G')
  | _, _, _, _, _, _, .nil, q => q
  | _, _, _, _, _, _, .cons r rs, q => by
    rw [List.cons_append, List.cons_append, List.append_assoc]
    exact .cons r (OpdRs.app rs q)
section
variable {X : Cx} {e : Expr} {es : List Expr} {E : EnvT} {p : Pos} {k : List Opd → EnvT → Prop}
/-- *e within arguments or a display, items that own nothing -/
theorem wa_star (h : WO X e E fun o E1 => ∃ ds, (o.get E1).bind D.seq = some ds ∧ Imms ds ∧ WA X es E1 fun os E2 => k (ds.map Opd.val ++ os) E2) (hs : starEach (.Starred e p :: es) X.env = (true, eval e X.env) :: starEach es X.env := by rfl) : WA X (.Starred e p :: es) E k := by
  intro Z H σ F Q he hk
  refine wpA_by (StX.pa_star pe_w pa_w hs) (h Z H σ F _ he fun o E1 Z1 H1 F1 G v ⟨ds, g, im, q⟩ f r => ?_)
  obtain ⟨d1, gd, gs⟩ := seq_of g
  obtain ⟨G', r', _⟩ := r.use f.env gd
  obtain ⟨a, vs, G3, rfl, hq, rs⟩ := r'.seq gs
  have rs0 := rs.nils im
  refine ⟨a, vs, rfl, hq.symm, q Z1 H1 σ F1 _ f.env fun os E2 Z2 H2 F2 G2 ys kk f2 r2 => ?_⟩
  exact hk _ E2 Z2 H2 F2 G2 (vs ++ ys) kk (f.then f2) (OpdRs.app (OpdRs.ofReps (rs0.step f2.st fun a h => nomatch h)) r2)
end
end DL

namespace DL
open PySem PySem.Spec L2
variable [LamT]
theorem Reps.erase {K : PySem.W.Frag} {Z : Addr → Prop} {H : Hp} : ∀ {ds : List D} {vs : List V} {j : Nat}, Reps K Z H ds vs [] → Reps K Z H (ds.eraseIdx j) (vs.eraseIdx j) [] := by
  intro ds vs j r
  have im : ∀ {ds : List D} {vs : List V} {G : List Addr}, Reps K Z H ds vs G → G = [] → ∀ j, Reps K Z H (ds.eraseIdx j) (vs.eraseIdx j) [] := by
    intro ds
    induction ds with
    | nil => intro vs G r e j; cases r; exact .nil
    | cons d ds ih =>
      intro vs G r e j
      cases r with
      | cons r1 rs =>
        rename_i v F vs G
        have e1 : F = [] := (List.append_eq_nil_iff.mp e).1
        have e2 : G = [] := (List.append_eq_nil_iff.mp e).2
        subst e1
        subst e2
        cases j with
        | zero => exact rs
        | succ j => exact .cons r1 (ih rs rfl j)
  exact im r rfl j
section
variable {X : Cx} {e : Expr} {E : EnvT} {k : Opd → EnvT → Prop} {pos apos p : Pos} {i : Nat} {x : Str}
/-- x.pop(e), things that own nothing -/
theorem wo_popAt (hE : ∃ ds0, E[i]? = some (some (.lst ds0)))
    (h : WO X e E fun o1 E1 => ∃ (j : Nat) (d : D) (ds : List D), o1.get E1 = some (.int (j : Int)) ∧ E1[i]? = some (some (.lst ds)) ∧ Imms ds ∧ ds[j]? = some d ∧ ds.length ≤ 100000 ∧ k (.val d) (E1.set i (some (.lst (ds.eraseIdx j)))))
    (hb : PE X (.Call (.Attribute (.Name x p) "pop" apos) [e] [] pos) (tBM X.K "list" rPopAt (tVar i) (wpA X [e]))) (hs : starEach [e] X.env = (false, eval e X.env) :: starEach [] X.env := by rfl) :
    WO X (.Call (.Attribute (.Name x p) "pop" apos) [e] [] pos) E k := by
  intro Z H σ F Q he hk
  obtain ⟨ds0, hE⟩ := hE
  obtain ⟨a0, vs0, Fd0, R0, hv, hl0, _⟩ := he.lst hE
  refine wpE_by hb ⟨_, hv, .inl ⟨rfl, vs0, SqL.of hl0⟩, ?_⟩
  have hA : WA X [e] E fun os E1 => ∃ o1, os = [o1] ∧ ∃ (j : Nat) (d : D) (ds : List D), o1.get E1 = some (.int (j : Int)) ∧ E1[i]? = some (some (.lst ds)) ∧ Imms ds ∧ ds[j]? = some d ∧ ds.length ≤ 100000 ∧ k (.val d) (E1.set i (some (.lst (ds.eraseIdx j)))) :=
    wa_cons (WO.mono h fun o1 E1 q => wa_nil ⟨o1, rfl, q⟩) hs
  refine hA Z H σ F _ he fun os E1 Z1 H1 F1 G vs ⟨o1, eo, j, d, ds, g1, hE1, im, hd, hlen, kk⟩ f1 rs => ?_
  subst eo
  cases rs with
  | cons r1 rn =>
    cases rn
    rename_i w1 G1
    obtain ⟨Gj, rj, _⟩ := r1.use f1.env g1
    cases rj
    obtain ⟨a1, vs1, Fd, R, hv1, hl1, rd, hR, hp1⟩ := f1.env.lst hE1
    rw [hv] at hv1
    cases hv1
    have hl := rd.len
    have rd0 := rd.nils im
    obtain ⟨v, G', hv1, rv, _⟩ := rd0.get hd
    have hj : j < ds.length := (List.getElem?_eq_some_iff.mp hd).1
    obtain ⟨F', e3, s3⟩ := f1.env.chgL hE1 hv hl1 rd hR hp1 (Gt := []) (Fd' := []) f1.env.nd (fun y hy => nomatch hy) (fun y hy => nomatch hy) (by simp) (rd0.erase (j := j))
    have s4 : Stp Z1 H1 F1 Z1 (upd H1 a0 (.lst (vs1.eraseIdx j))) F' := s3
    refine ⟨a0, vs1, (j : Int), j, v, rfl, rfl, hl1, by omega, by omega, ?_, hv1, ?_⟩
    · unfold seqIndex?
      simp
      omega
    · exact hk _ _ Z1 _ F' [] v kk ⟨e3, e3.nd, (fun y hy => nomatch hy), f1.nil.st.trans s4⟩ ((rv.nils (imms_get im hd)).step s4 fun y hy => nomatch hy)
end
end DL

namespace DL
open PySem PySem.Spec L2
variable [LamT]
/-! ### the draws, told by one state -/
theorem ncast (n : Nat) : (NatCast.natCast n : Int) = (n : Int) := rfl
structure Sta where
  g : List Int
  c : List Int
  l : Int
  t : Int
def sD (s : Sta) : D := stD s.g s.c s.l s.t
structure SOk (n : Int) (s : Sta) : Prop where
  g0 : ∀ x ∈ s.g, 0 ≤ x
  c0 : ∀ x ∈ s.c, 0 ≤ x
  l0 : 0 ≤ s.l
  t0 : 0 ≤ s.t
  t1 : s.t ≤ n
theorem SOk.mono {n m : Int} {s : Sta} (h : SOk n s) (l : n ≤ m) : SOk m s := ⟨h.g0, h.c0, h.l0, h.t0, Int.le_trans h.t1 l⟩
def ct_law_begun : Ct := ⟨List Int, fun ns ds => ds = [.fz (ns.map D.int)] ∧ ns.length ≤ 1000, fun ns d _ => ∃ s, d = sD s ∧ SOk 0 s⟩
def ct_law_blended : Ct := ⟨Sta × Int, fun a ds => ds = [sD a.1] ∧ SOk a.2 a.1 ∧ a.2 ≤ 1000000000000, fun a d ds => ∃ r, d = .int r ∧ 0 ≤ r ∧ ds = [sD { a.1 with t := a.1.t + 1 }]⟩
def ct_law_draw : Ct := ⟨Sta × Int × Int, fun a ds => ds = [sD a.1, .int a.2.1] ∧ SOk a.2.2 a.1 ∧ (0 < a.2.1 ∧ a.2.1 < 4611686018427387904) ∧ a.2.2 ≤ 1000000000000, fun a d ds => ∃ r s, d = .int r ∧ (0 ≤ r ∧ r < a.2.1) ∧ ds = [sD s] ∧ SOk (a.2.2 + 1) s⟩
def ct_law_pick : Ct := ⟨Sta × Int × D × List D, fun a ds => ds = [sD a.1, a.2.2.1] ∧ SOk a.2.1 a.1 ∧ a.2.2.1.seq = some a.2.2.2 ∧ Imms a.2.2.2 ∧ (0 < a.2.2.2.length ∧ a.2.2.2.length ≤ 100000) ∧ a.2.1 ≤ 1000000000000, fun a d ds => ∃ s, d ∈ a.2.2.2 ∧ ds = [sD s] ∧ SOk (a.2.1 + 1) s⟩
end DL

namespace DL
open PySem PySem.Spec L2
variable [LamT]
theorem filterMap_take {α β : Type} {xs : List α} {G : α → Option β} {j : Nat} (h : j < xs.length) : (xs.take (j + 1)).filterMap G = (xs.take j).filterMap G ++ (G xs[j]).toList := by
  rw [List.take_succ, List.filterMap_append, List.getElem?_eq_getElem h]
  cases e : G xs[j] <;> simp [e]
section
variable {X : Cx} {tg iter elt : Expr} {ifs : List Expr} {E : EnvT} {k : Opd → EnvT → Prop} {pos : Pos} {scope : Scope} {g : TG} {own : List (Str × Nat)}
/-- what a comprehension without a state asks -/
def LcX (X : Cx) (elt : Expr) (ifs : List Expr) (scope : Scope) (g : TG) (vs : List Nat) (m : Nat) (src : Nat → D) (w : List (Nat × D)) (E0 : EnvT) (kk : List D → Prop) : Prop :=
  ∃ (α : Type) (xs : List α) (enc : α → D) (G : α → Option D), xs.length = m ∧ m ≤ 100000 ∧ (∀ (j : Nat) (h : j < xs.length), src j = enc xs[j]) ∧ (∀ p ∈ w, E0[p.1]? = some (some p.2)) ∧
    (∀ x ∈ xs, ∃ E2, TgB X.K g vs (enc x) E0 E2 ∧ ∀ (s : Shared) (H : Hp) (C : Addr) (cl : List (Str × Addr)) (fp : List Addr),
      WIf (X.blk s H scope (compEnvC scope cl C X.env) fp) ifs E2 fun b E3 => (b = true → ∀ (s : Shared) (H : Hp) (C : Addr) (cl : List (Str × Addr)) (fp : List Addr), WE (X.blk s H scope (compEnvC scope cl C X.env) fp) elt E3 fun y E4 => G x = some y ∧ wipeE E4 vs = E0) ∧ (b = false → G x = none ∧ wipeE E3 vs = E0)) ∧
    kk (xs.filterMap G)
theorem lcX_inv {vs : List Nat} {m : Nat} {src : Nat → D} {w : List (Nat × D)} {E1 : EnvT} {kk : List D → EnvT → Prop} (h : LcX X elt ifs scope g vs m src w (wipeE E1 vs) fun ds => kk ds (wipeE E1 vs)) :
    ∃ I : Nat → List D → EnvT → Prop, I 0 [] (wipeE E1 vs) ∧ (∀ j acc E', j ≤ m → I j acc E' → ∀ p ∈ w, E'[p.1]? = some (some p.2)) ∧
      (∀ j acc E', j < m → I j acc E' → ∃ E2, TgB X.K g vs (src j) E' E2 ∧ ∀ (s : Shared) (H : Hp) (C : Addr) (cl : List (Str × Addr)) (fp : List Addr),
        WIf (X.blk s H scope (compEnvC scope cl C X.env) fp) ifs E2 fun b E3 => (b = true → ∀ (s : Shared) (H : Hp) (C : Addr) (cl : List (Str × Addr)) (fp : List Addr), WE (X.blk s H scope (compEnvC scope cl C X.env) fp) elt E3 fun y E4 => acc.length < 100000 ∧ I (j + 1) (acc ++ [y]) (wipeE E4 vs)) ∧ (b = false → I (j + 1) acc (wipeE E3 vs))) ∧
      ∀ acc E', I m acc E' → kk acc E' := by
  obtain ⟨α, xs, enc, G, hm, hl, hs, hw, ht, hk⟩ := h
  refine ⟨fun j acc E' => acc = (xs.take j).filterMap G ∧ E' = wipeE E1 vs, ⟨by simp, rfl⟩, ?_, ?_, ?_⟩
  · rintro j acc E' _ ⟨_, rfl⟩
    exact hw
  · rintro j acc E' hj ⟨rfl, rfl⟩
    have hj' : j < xs.length := by omega
    obtain ⟨E2, t1, t2⟩ := ht xs[j] (List.getElem_mem hj')
    refine ⟨E2, by rw [hs j hj']; exact t1, fun s H C cl fp => ?_⟩
    have tk := filterMap_take (G := G) hj'
    intro Z H' σ F Q he hk'
    refine t2 s H C cl fp Z H' σ F Q he fun b E3 Z2 H2 F2 ⟨q1, q2⟩ f => hk' b E3 Z2 H2 F2 ⟨fun hb s H C cl fp => ?_, fun hb => ?_⟩ f
    · refine WO.mono (q1 hb s H C cl fp) fun o E4 ⟨d, eo, e1, e2⟩ => ⟨d, eo, ?_, ?_, e2⟩
      · refine Nat.lt_of_le_of_lt (List.length_filterMap_le _ _) ?_
        rw [List.length_take]
        omega
      · rw [tk, e1]
        rfl
    · obtain ⟨e1, e2⟩ := q2 hb
      refine ⟨?_, e2⟩
      rw [tk, e1]
      simp
  · rintro acc E' ⟨rfl, rfl⟩
    rw [List.take_of_length_le (by omega)]
    exact hk
theorem wo_lcX (hc : X.calm = true) (hN : X.N.Nodup) (ok : BlkOk X.N X.env.scope scope own)
    (hg : ∀ (s : Shared) (H : Hp) (C : Addr) (cl : List (Str × Addr)) (fp : List Addr), PG (X.blk s H scope (compEnvC scope cl C X.env) fp) tg g)
    (h : WI X tg iter E fun w m src E1 => LcX X elt ifs scope g (own.map (·.2)) m src w (wipeE E1 (own.map (·.2))) fun ds => k (.val (.lst ds)) (wipeE E1 (own.map (·.2))))
    (hs : ∀ x, foldedSetIterable iter X.env x = pure x := by intro _; rfl) : WO X (.ListComp elt [⟨tg, iter, ifs, 0⟩] scope pos) E k :=
  wo_lc hc hN ok hg (WI.mono h fun w m src E1 q => lcX_inv (kk := fun ds E' => k (.val (.lst ds)) E') q) hs
theorem ws_setLcX {i : Nat} {y : Str} {py spos : Pos} {n : List Nat} {ks : KS} (hc : X.calm = true) (hN : X.N.Nodup) (hy : X.N[i]? = some y) (hyl : X.env.scope.names.lookup y = some .local) (hn : i ∉ n) (ok : BlkOk X.N X.env.scope scope own)
    (hg : ∀ (s : Shared) (H : Hp) (C : Addr) (cl : List (Str × Addr)) (fp : List Addr), PG (X.blk s H scope (compEnvC scope cl C X.env) fp) tg g)
    (h : WI X tg iter E fun w m src E1 => LcX X elt ifs scope g (own.map (·.2)) m src w (wipeE E1 (own.map (·.2))) fun ds => i < (wipeE E1 (own.map (·.2))).length ∧ ks.nx ((wipeE E1 (own.map (·.2))).set i (some (.lst ds))))
    (hsw : swapsWith (.ListComp elt [⟨tg, iter, ifs, 0⟩] scope pos) (some (.Name y py)) spos.line X.env = pure true)
    (hs : ∀ x, foldedSetIterable iter X.env x = pure x := by intro _; rfl) : WS X n (.Assign [.Name y py] (.ListComp elt [⟨tg, iter, ifs, 0⟩] scope pos) spos) E ks :=
  ws_setLc hc hN hy hyl hn ok hg (WI.mono h fun w m src E1 q => lcX_inv (kk := fun ds E' => i < E'.length ∧ ks.nx (E'.set i (some (.lst ds)))) q) hsw hs
end
end DL

namespace DL
open PySem PySem.Spec L2
variable [LamT]
def upto (n : Nat) : List Int := (List.range n).map fun i : Nat => (i : Int)
theorem rgV_upto (n : Int) : rgV 0 n = (upto n.toNat).map V.int := by
  unfold rgV upto
  rw [Int.sub_zero, List.map_map]
  exact List.map_congr_left fun i _ => by simp
section
variable {X : Cx} {a : Expr} {E : EnvT} {k : Opd → EnvT → Prop} {pos p p2 p3 : Pos}
/-- list(range(n)) -/
theorem wo_listR1 (hc : X.calm = true) (hg : Gl X "list") (hm : X.mg "list" = none) (hg2 : Gl X "range") (hm2 : X.mg "range" = none)
    (h : WO X a E fun o E1 => ∃ j : Int, o.get E1 = some (.int j) ∧ (0 ≤ j ∧ j ≤ 100000) ∧ k (.val (.lst ((upto j.toNat).map D.int))) E1)
    (hs : starEach [a] X.env = (false, eval a X.env) :: starEach [] X.env := by rfl)
    (hs2 : starEach [.Call (.Name "range" p) [a] [] p2] X.env = (false, eval (.Call (.Name "range" p) [a] [] p2) X.env) :: starEach [] X.env := by rfl) :
    WO X (.Call (.Name "list" p3) [.Call (.Name "range" p) [a] [] p2] [] pos) E k := by
  intro Z H σ F Q he hk
  refine wpE_by (pe_listRg hc hg hm (prg_1 hg2 hm2 pe_w hs) hs2) (h Z H σ F _ he fun o E1 Z1 H1 F1 G v ⟨j, g, hj, q⟩ f r => ?_)
  obtain ⟨G', r', _⟩ := r.use f.env g
  cases r'
  refine ⟨j, rfl, ⟨by omega, by omega, by omega, by omega, by omega⟩, fun l hl => ?_⟩
  rw [rgV_upto]
  have gr : Grow H1 (upd H1 l (.lst ((upto j.toNat).map V.int))) [l] := Grow.new hl
  have r0 : Rep X.K Z1 (upd H1 l (.lst ((upto j.toNat).map V.int))) (.lst ((upto j.toNat).map D.int)) (.ref l) [l] := .lst upd_same (Reps.ofInts _)
  exact hk _ E1 Z1 _ F1 [l] _ q (f.grow gr) r0
/-- sorted of a list or a tuple of ints -/
theorem wo_sortedS (hg : Gl X "sorted") (hm : X.mg "sorted" = none) (h : WO X a E fun o E1 => ∃ ns : List Int, (o.get E1).bind D.seq = some (ns.map D.int) ∧ ∀ ns' : List Int, ns'.Perm ns → ns'.Pairwise (· ≤ ·) → k (.val (.lst (ns'.map D.int))) E1)
    (hs : starEach [a] X.env = (false, eval a X.env) :: starEach [] X.env := by rfl) : WO X (.Call (.Name "sorted" p) [a] [] pos) E k :=
  wo_b1 (pe_callB (CallR.or cr_sortedI cr_sortT) hg hm (by decide +kernel) pa_w (he := hs)) (WO.mono h fun o E1 ⟨ns, g1, kk⟩ => by
    cases g : o.get E1 with
    | none => rw [g] at g1; simp at g1
    | some d1 =>
      rw [g] at g1
      refine ⟨d1, rfl, fun d => ∃ ns' : List Int, ns'.Perm ns ∧ ns'.Pairwise (· ≤ ·) ∧ d = .lst (ns'.map D.int), fun Z H v G rv Q q => ?_, fun d ⟨ns', h1, h2, e⟩ => by rw [e]; exact kk ns' h1 h2⟩
      obtain ⟨x, vs, G', rfl, hs, rs⟩ := rv.seq (by simpa using g1)
      have ev := rs.ints
      subst ev
      rcases hs with hs | hs
      · exact .inl ⟨x, ns, rfl, hs, fun ns' l h1 h2 hl => q _ _ _ [l] ⟨ns', h1, h2, rfl⟩ (.lst upd_same (Reps.ofInts ns')) (Grow.new hl)⟩
      · exact .inr ⟨x, ns, rfl, hs, fun ns' l h1 h2 hl => q _ _ _ [l] ⟨ns', h1, h2, rfl⟩ (.lst upd_same (Reps.ofInts ns')) (Grow.new hl)⟩) hs
end
end DL

/-! the driver's looks at a goal's head -/
namespace DL
open PySem PySem.Spec L2
variable [LamT]
section
variable {X : Cx} {n : List Nat} {E : EnvT} {ks : KS} {k : Opd → EnvT → Prop} {kb : Bool → EnvT → Prop} {pos pos2 pos3 : Pos} {e a b c o : Expr} {es rs : List Expr} {st : Stmt} {sts : List Stmt} {x : Str} {x1 : Nat}
theorem gWSs (h : WSs X n sts E ks) : WSs X n sts E ks := h
theorem gWS (h : WS X n st E ks) : WS X n st E ks := h
theorem gWG {d : D} {kg : EnvT → Prop} (h : WG X n e d E kg) : WG X n e d E kg := h
theorem gWE {kd : D → EnvT → Prop} (h : WE X e E kd) : WE X e E kd := h
theorem gWT (h : WT X e E kb) : WT X e E kb := h
theorem gWW (h : WW X e E kb) : WW X e E kb := h
theorem gWO (h : WO X e E k) : WO X e E k := h
theorem gName (h : WO X (.Name x pos) E k) : WO X (.Name x pos) E k := h
theorem gENm {kd : D → EnvT → Prop} (h : WE X (.Name x pos) E kd) : WE X (.Name x pos) E kd := h
theorem gCon {v : Const} (h : WO X (.Constant v x1 pos) E k) : WO X (.Constant v x1 pos) E k := h
theorem gBin {op : Operator} (h : WO X (.BinOp a op b pos) E k) : WO X (.BinOp a op b pos) E k := h
theorem gBool {op : BoolOp} (h : WO X (.BoolOp op es pos) E k) : WO X (.BoolOp op es pos) E k := h
theorem gCmp {ops : List CmpOp} (h : WO X (.Compare a ops es pos) E k) : WO X (.Compare a ops es pos) E k := h
theorem gSub (h : WO X (.Subscript a b pos) E k) : WO X (.Subscript a b pos) E k := h
theorem gCalN {kw : List Keyword} (h : WO X (.Call (.Name x pos2) es kw pos) E k) : WO X (.Call (.Name x pos2) es kw pos) E k := h
theorem gCalA {kw : List Keyword} (h : WO X (.Call (.Attribute o x pos2) es kw pos) E k) : WO X (.Call (.Attribute o x pos2) es kw pos) E k := h
theorem gWA {kA : List Opd → EnvT → Prop} (h : WA X es E kA) : WA X es E kA := h
end
end DL

namespace DL
open PySem PySem.Spec L2
variable [LamT]
section
variable {X : Cx} {n : List Nat} {E : EnvT}
theorem cmp_neB {a b : Bool} : CmpD X .NotEq (.bl a) (.bl b) (!decide (a = b)) := .mk op_ne fun Z H v1 v2 G1 G2 r1 r2 Q q => by
  cases r1
  cases r2
  refine ⟨rfl, ?_⟩
  have e : (!decide (V.bl a = V.bl b)) = !decide (a = b) := by cases a <;> cases b <;> rfl
  rw [e]
  exact q _ H [] (.bl _) Grow.refl
theorem cmp_eqB {a b : Bool} : CmpD X .Eq (.bl a) (.bl b) (decide (a = b)) := .mk op_eq fun Z H v1 v2 G1 G2 r1 r2 Q q => by
  cases r1
  cases r2
  refine ⟨rfl, ?_⟩
  have e : (decide (V.bl a = V.bl b)) = decide (a = b) := by cases a <;> cases b <;> rfl
  rw [e]
  exact q _ H [] (.bl _) Grow.refl
/-- three names as a target, things that own nothing -/
theorem wg_tri {i j l kk : Nat} {x y z : Str} {d1 d2 d3 : D} {k : EnvT → Prop} {px py pz pt : Pos} (hc : X.calm = true) (hN : X.N.Nodup) (hi : X.N[i]? = some x) (hj : X.N[j]? = some y) (hl : X.N[l]? = some z) (hx : Loc X.env.scope x) (hy : Loc X.env.scope y) (hz : Loc X.env.scope z)
    (hni : i ∉ n) (hnj : j ∉ n) (hnl : l ∉ n) (hE : i < E.length ∧ j < E.length ∧ l < E.length) (im : Imm d1 ∧ Imm d2 ∧ Imm d3)
    (h : k (((E.set i (some d1)).set j (some d2)).set l (some d3)))
    (hf : X.fn x = true ∨ X.env.scope.names.lookup x = some .local) (hf2 : X.fn y = true ∨ X.env.scope.names.lookup y = some .local) (hf3 : X.fn z = true ∨ X.env.scope.names.lookup z = some .local)
    (hp : ∀ t, PGs X [.Name x px, .Name y py, .Name z pz] t → PG X (.Tuple [.Name x px, .Name y py, .Name z pz] kk pt) (gTup X.K 3 t))
    (hp1 : ∀ t u, PG X (.Name x px) t → PGs X [.Name y py, .Name z pz] u → PGs X [.Name x px, .Name y py, .Name z pz] (gCons t u))
    (hp2 : ∀ t u, PG X (.Name y py) t → PGs X [.Name z pz] u → PGs X [.Name y py, .Name z pz] (gCons t u)) (hp3 : ∀ t, PG X (.Name z pz) t → PGs X [.Name z pz] (gCons t gNil)) :
    WG X n (.Tuple [.Name x px, .Name y py, .Name z pz] kk pt) (.tup [d1, d2, d3]) E k := by
  intro Z H σ F G v Q he r nd nz hk
  refine wpG_by (hp _ (hp1 _ _ (pg_name hN hi hx hf) (hp2 _ _ (pg_name hN hj hy hf2) (hp3 _ (pg_name hN hl hz hf3))))) ?_
  cases r with
  | tup hs rs =>
    cases rs with
    | cons r1 rs =>
      cases rs with
      | cons r2 rs =>
        cases rs with
        | cons r3 rs =>
          cases rs
          rename_i v1 G1 v2 G2 v3 G3
          have nF : ([] ++ F).Nodup := he.nd
          obtain ⟨F1, h1, m1⟩ := he.asg (r1.nils im.1) he.nd (fun a ha => nomatch ha) hE.1
          obtain ⟨F2, h2, m2⟩ := h1.asg (r2.nils im.2.1) h1.nd (fun a ha => nomatch ha) (by rw [List.length_set]; exact hE.2.1)
          obtain ⟨F3, h3, m3⟩ := h2.asg (r3.nils im.2.2) h2.nd (fun a ha => nomatch ha) (by rw [List.length_set, List.length_set]; exact hE.2.2)
          have sub : ∀ a ∈ F3, a ∈ F := fun a ha => by
            rcases m3 a ha with q | q
            · exact nomatch q
            · rcases m2 a q with q | q
              · exact nomatch q
              · rcases m1 a q with q | q
                · exact nomatch q
                · exact q
          refine ⟨_, _, rfl, hs, rfl, v1, [v2, v3], rfl, v2, [v3], rfl, v3, [], rfl, rfl, ?_⟩
          exact hk _ Z H _ F3 h ⟨h3, h3.nd, (fun a q => nomatch q), Stp.refl.sub fun a ha => List.mem_append_right _ (sub a ha), ((Pin.set hni).trans (Pin.set hnj)).trans (Pin.set hnl)⟩
end
end DL

namespace DL
open PySem PySem.Spec L2
variable [LamT]

/-! ### freezing a slot -/
mutual
def frz : D → D
  | .lst ds => .fz (frzs ds)
  | .dic ks ds => .fd ks (frzs ds)
  | .tup ds => .tup (frzs ds)
  | .ow _ ds => .fz (frzs ds)
  | .obj C fs ds => .fo C fs (frzs ds)
  | d => d
def frzs : List D → List D
  | [] => []
  | d :: ds => frz d :: frzs ds
end
mutual
def canF : D → Bool
  | .lst ds => canFs ds
  | .tup ds => canFs ds
  | .non => true
  | .bl _ => true
  | .int _ => true
  | .str _ => true
  | .fz _ => true
  | .fd _ _ => true
  | .dic _ ds => canFs ds
  | .ow _ ds => canFs ds
  | .fw _ => true
  | .fo _ _ _ => true
  | .obj _ _ ds => canFs ds
  | _ => false
def canFs : List D → Bool
  | [] => true
  | d :: ds => canF d && canFs ds
end
section
variable {K : PySem.W.Frag} {Z Z' : Addr → Prop} {H : Hp} {F G R : List Addr} {σ : Sl} {E : EnvT}
mutual
theorem Rep.frz (hz : ∀ a, Z a → Z' a) : ∀ {d : D} {v : V} {G : List Addr}, Rep K Z H d v G → canF d = true → (∀ a ∈ G, Z' a) → Rep K Z' H (DL.frz d) v []
  | _, _, _, .non, _, _ => .non
  | _, _, _, .bl b, _, _ => .bl b
  | _, _, _, .int i, _, _ => .int i
  | _, _, _, .str x, _, _ => .str x
  | _, _, _, .tup e r, h, g => .tup e (Reps.frz hz r (by simpa [canF] using h) g)
  | _, _, _, .lst e r, h, g => .fz (.inl ⟨g _ List.mem_cons_self, .inl e⟩) (Reps.frz hz r (by simpa [canF] using h) fun a ha => g a (List.mem_cons_of_mem _ ha))
  | _, _, _, .fz e r, _, _ => .fz (e.imp_left fun q => ⟨hz _ q.1, q.2⟩) (r.kp ⟨hz, fun _ _ q => q, fun _ _ _ _ q => q, fun _ _ _ q => q⟩ fun a ha => nomatch ha)
  | _, _, _, .pt _ _ _, h, _ => by simp [canF] at h
  | _, _, _, .dic e l r, h, g => .fd ⟨g _ List.mem_cons_self, e, l⟩ (Reps.frz hz r (by simpa [canF] using h) fun a ha => g a (List.mem_cons_of_mem _ ha))
  | _, _, _, .fd e r, _, _ => .fd ⟨hz _ e.1, e.2⟩ (r.kp ⟨hz, fun _ _ q => q, fun _ _ _ _ q => q, fun _ _ _ q => q⟩ fun a ha => nomatch ha)
  | _, _, _, .obj e l r, h, g => .fo (g _ List.mem_cons_self) e l (Reps.frz hz r (by simpa [canF] using h) fun a ha => g a (List.mem_cons_of_mem _ ha))
  | _, _, _, .op _, h, _ => by simp [canF] at h
  | _, _, _, .exc _, h, _ => by simp [canF] at h
  | _, _, _, .exd _ _, h, _ => by simp [canF] at h
  | _, _, _, .ow e r, h, g => .fz (.inl ⟨g _ List.mem_cons_self, .inl e⟩) (Reps.frz hz r (by simpa [canF] using h) fun a ha => g a (List.mem_cons_of_mem _ ha))
  | _, _, _, .fw z e n, _, _ => .fw (hz _ z) e n
  | _, _, _, .fo z e l r, _, _ => .fo (hz _ z) e l (r.kp ⟨hz, fun _ _ q => q, fun _ _ _ _ q => q, fun _ _ _ q => q⟩ fun a ha => nomatch ha)
theorem Reps.frz (hz : ∀ a, Z a → Z' a) : ∀ {ds : List D} {vs : List V} {G : List Addr}, Reps K Z H ds vs G → canFs ds = true → (∀ a ∈ G, Z' a) → Reps K Z' H (frzs ds) vs []
  | _, _, _, .nil, _, _ => .nil
  | _, _, _, .cons r rs, h, g => by
    simp only [canFs, Bool.and_eq_true] at h
    exact .cons (F := []) (G := []) (Rep.frz hz r h.1 fun a ha => g a (List.mem_append_left _ ha)) (Reps.frz hz rs h.2 fun a ha => g a (List.mem_append_right _ ha))
end
end
section
variable {X : Cx} {n : List Nat} {E : EnvT} {ks : KS} {sts : List Stmt} {i : Nat} {d : D}
/-- a slot's lists are known from here on: read, never written -/
theorem wss_frz (i : Nat) (hE : E[i]? = some (some d)) (hc : canF d = true) (h : WSs X n sts (E.set i (some (frz d))) ks) : WSs X n sts E ks := by
  intro Z H σ F Dd he hk
  obtain ⟨v, G, R, h1, h2, h3, h4⟩ := he.r.get hE
  have nF := List.nodup_append.mp (h4.nodup_iff.mp he.nd)
  have inF : ∀ a ∈ G, a ∈ F := fun a ha => h4.mem_iff.mpr (List.mem_append_left _ ha)
  have kp : Kp Z H (fun b => Z b ∨ b ∈ G) H := ⟨fun _ z => .inl z, fun _ _ z => z, fun _ _ _ _ z => z, fun _ _ _ z => z⟩
  have hl : i < E.length := (List.getElem?_eq_some_iff.mp hE).1
  obtain ⟨F', e1, e2⟩ := (h3.kp kp fun _ _ _ _ q => q).put (i := i) (d := frz d) (v := v) (G := []) (by simp [hl]) h1 (h2.frz (fun _ z => .inl z) hc fun a ha => .inr ha)
  rw [List.set_set] at e1
  have mem : ∀ a ∈ F', a ∈ R := fun a ha => by simpa using e2.mem_iff.mp ha
  have sub : ∀ a ∈ F', a ∈ F := fun a ha => h4.mem_iff.mpr (List.mem_append_right _ (mem a ha))
  have env : EnvS X.K (fun b => Z b ∨ b ∈ G) H (E.set i (some (frz d))) σ F' := ⟨e1, e2.nodup_iff.mpr (by simpa using nF.2.1), fun a ha z => by
    rcases z with z | z
    · exact he.nz a (sub a ha) z
    · exact nF.2.2 a z a (mem a ha) rfl, ⟨fun a z => by
    rcases z with z | z
    · exact he.zt.th a z
    · exact he.r.mem a (inF a z), he.zt.tb⟩⟩
  refine h (fun b => Z b ∨ b ∈ G) H σ F' Dd env (hk.after ⟨env, env.nd, (fun a q => nomatch q), ?_, Pin.refl⟩)
  exact ⟨fun _ z => .inl z, fun a z => z.imp_right fun q => .inl (inF a q), fun _ _ e _ _ => e, fun h => h, fun _ o e n => ⟨o, e, n⟩, fun a ha => .inl (sub a (by simpa using ha)), fun _ _ q => q, fun _ _ _ _ q => q, fun _ _ _ q => q⟩
end

/-! ### stores into lists -/
section
variable {K : PySem.W.Frag} {Z : Addr → Prop} {H : Hp}
end
theorem ixN_nat {m j : Nat} (h : j < m) : ixN m (j : Int) = some j := by
  unfold ixN
  simp
  omega
section
variable {X : Cx} {n : List Nat} {e e1 e2 : Expr} {E : EnvT} {pos p p2 : Pos} {i : Nat} {x : Str} {d : D} {k : EnvT → Prop}
end
end DL

namespace DL
open PySem PySem.Spec L2
variable [LamT]
open PyProof.Rows

/-! ### tuple * int, a factor of one too -/
section
variable {X : Cx}
end
/-! ### products by trees -/
inductive MulE : D → D → D → Prop
  | base {d1 d2 d : D} : MulD d1 d2 d → MulE d1 d2 d
  | tup {d1 : D} {ds : List D} {j : Int} : d1.tseq = some ds → Imms ds → ds ≠ [] → (1 ≤ j ∧ j ≤ 1000) → ds.length ≤ 1000 → MulE d1 (.int j) (.tup (List.replicate j.toNat ds).flatten)
section
variable {X : Cx} {a b : Expr} {E : EnvT} {k : Opd → EnvT → Prop} {pos : Pos}
end
end DL

/-! an exception that was caught stays a value: its object is tracked from the clause's end on -/
namespace DL
open PySem PySem.Spec L2
variable [LamT]
open PyProof.Rows
section
variable {X : Cx} {pins : List (Addr × Obj)} {σ : List (Option V)} {H : Hp} {s : Shared}
end
end DL

namespace DL
open PySem PySem.Spec L2
variable [LamT]
open PyProof.Rows
section
variable {X : Cx} {x nm : Str} {c : Value} {i : Nat} {body su : List Stmt} {s0 : Stmt} {np pos pos' : Pos} {tb : WX → TS} {ts : Addr → Value → Option Addr → TS} {Wo : WX}
end
end DL

/-! defs that raise: blocks that end in an error of a known class, their promises, calls of them -/
namespace DL
open PySem PySem.Spec L2
variable [LamT]
open PyProof.Rows (envOfC)
/-- what is known of an error class x of the program -/
structure ExF (K : PySem.W.Frag) (mg : Str → Option Value) (x : Str) : Prop where
  ex : ∃ C CE : Addr, mg x = some (.ref C) ∧ mg "CopyError" = some (.ref CE) ∧ PySem.W.excIn K C He.veBase "ValueError.__new__" = true ∧ PySem.W.keepIn K (.ref C) = true ∧
    PySem.W.subIn K (.ref C) (.type "BaseException") = some true ∧ PySem.W.typeIn K (.ref C) = some (.type "type") ∧ PySem.W.exmOne K (.ref C) (.ref CE) = some true
/-- an error: its class, its fields if its class has an __init__ of its own -/
structure Er where
  cls : Str
  dat : Option (List (Str × V))
instance : Coe Str Er := ⟨fun s => ⟨s, none⟩⟩
instance : Coe String Er := ⟨fun s => ⟨s, none⟩⟩
structure CtX where
  α : Type
  pre : α → List D → Prop
  cls : Str
structure CtY where
  α : Type
  pre : α → List D → Prop
  er : α → Er
def CtX.y (S : CtX) : CtY := ⟨S.α, S.pre, fun _ => ⟨S.cls, none⟩⟩
def ErW (K : PySem.W.Frag) (mg : Str → Option Value) (Z : Addr → Prop) (H : Hp) (F : List Addr) (er : Er) (Ec : XK) : Prop := ∀ C, mg er.cls = some (.ref C) → ∀ Z' H' F', Zt K Z' H' → Stp Z H F Z' H' F' →
  match er.dat with
  | none => Ec (.ref C) none H'
  | some fs => ∀ d, H' d = none → Ec (.ref C) (some d) (upd H' d (.xd fs))
section
variable (X : Cx)
/-- the error's wish, from here -/
def XW (Z : Addr → Prop) (H : Hp) (F : List Addr) (er : Er) (Ec : XK) : Prop := ErW X.K X.mg Z H F er Ec
end
section
variable {X : Cx} {n : List Nat} {e c : Expr} {es : List Expr} {st : Stmt} {sts sa sb : List Stmt} {E : EnvT} {cls : Er} {pos p p2 p3 : Pos}
theorem XW.after {Z Z1 : Addr → Prop} {H H1 : Hp} {F F1 : List Addr} {Ec : XK} (w : XW X Z H F cls Ec) (s : Stp Z H F Z1 H1 F1) : XW X Z1 H1 F1 cls Ec := fun C hC Z2 H2 F2 z s2 => w C hC Z2 H2 F2 z (s.trans s2)
/-! ### calls of defs that raise -/
structure CalX (P : Program) (w : World) (K : PySem.W.Frag) (mg : Str → Option Value) (base : Heap) (k : Nat) (x : Str) (sp : Sp) : Prop where
  ex : ∃ (f : Addr) (fd : FuncData) (ps : List Str), FnOk P w K mg base (L2.CX P w) k f fd ps sp ∧ mg x = some (.ref f) ∧ PySem.W.keepIn K (.ref f) = true ∧ Binds K fd ps [] ∧ FdAt K f fd ps
end
section
variable {P : Program} {w : World} {K : PySem.W.Frag} {mg : Str → Option Value} {base : Heap}
end
end DL

/-! _law_caught(lambda: ..), the lambda's body raises -/
namespace DL
open PySem PySem.Spec L2 LamX
variable [LamT]
open PyProof.Rows (envOfC)
section
variable {X : Cx}
end
end DL

/-! _law_caught(lambda: ..) gives the exception -/
namespace DL
open PySem PySem.Spec L2 LamX
variable [LamT]
open PyProof.Rows (envOfC)
/-- the code object of the running def and its table -/
structure LamAt (base : Heap) (mg : Str → Option Value) (env : Env) : Prop where
  ex : ∃ c P : Addr, env.code = .ref c ∧ TabB base mg c P ∧ (P, env.qual ++ "<lambda>") ∈ LamT.tk ∧ ∀ p ∈ LamT.tk, p.1 = P → p.2 = env.qual ++ "<lambda>"
/-- the slots that own nothing, of E; the others hidden -/
inductive Msk : EnvT → EnvT → Prop
  | nil : Msk [] []
  | no {o : Option D} {E E0 : EnvT} : Msk E E0 → Msk (o :: E) (none :: E0)
  | so {d : D} {E E0 : EnvT} : Imm d → Msk E E0 → Msk (some d :: E) (some d :: E0)
theorem EnvR.msk {K : PySem.W.Frag} {Z : Addr → Prop} {H : Hp} : ∀ {E E0 : EnvT} {σ : Sl} {F : List Addr}, Msk E E0 → EnvR K Z H E σ F → EnvR K Z H E0 σ []
  | _, _, _, _, .nil, .nil => .nil
  | _, _, _, _, .no m, .no r => .no (EnvR.msk m r)
  | _, _, _, _, .no m, .so _ r => .no (EnvR.msk m r)
  | _, _, _, _, .so i m, .so r rs => by
    have e := r.imm i
    subst e
    exact .so (G := []) (F := []) r (EnvR.msk m rs)
section
variable {X : Cx} {E E0 : EnvT} {k : Opd → EnvT → Prop}
end
end DL

/-! calls with keywords, their arguments own nothing -/
namespace DL
open PySem PySem.Spec L2
variable [LamT]
section
variable {X : Cx}
/-- values one behind another -/
def tEs (X : Cx) : List Keyword → TA
  | [] => tNil
  | q :: r => tCons (wpE X q.value) (tEs X r)
def WKs (kws : List Keyword) (E : EnvT) (k : List Opd → EnvT → Prop) : Prop := ∀ (Z : Addr → Prop) (H : Hp) (σ : Sl) (F : List Addr) (Q : List V → Hp → Prop), EnvS X.K Z H E σ F →
  (∀ (os : List Opd) (E' : EnvT) (Z' : Addr → Prop) (H' : Hp) (F' G : List Addr) (vs : List V), k os E' → Fin X.K Z H σ F E' Z' H' F' G → OpdRs X.K Z' H' σ os vs G → Q vs H') → tEs X kws σ H Q
theorem wk_nil {E : EnvT} {k : List Opd → EnvT → Prop} (h : k [] E) : WKs (X := X) [] E k := fun Z H σ F Q he hk => hk [] E Z H F [] [] h (Fin.refl he) .nil
theorem wk_cons {E : EnvT} {k : List Opd → EnvT → Prop} {nm : Option Str} {e : Expr} {kp : Pos} {kws : List Keyword} (h : WO X e E fun o E1 => WKs (X := X) kws E1 fun os E2 => k (o :: os) E2) : WKs (X := X) (⟨nm, e, kp⟩ :: kws) E k := by
  intro Z H σ F Q he hk
  refine h Z H σ F _ he fun o E1 Z1 H1 F1 G1 v k1 f1 r1 => ?_
  refine k1 Z1 H1 σ F1 _ f1.env fun os E2 Z2 H2 F2 G2 vs k2 f2 r2 => ?_
  exact hk (o :: os) E2 Z2 H2 F2 (G1 ++ G2) (v :: vs) k2 (f1.join r1.mem f2) (.cons (r1.step f2.st (f1.off r1.mem f2)) r2)
end
/-! ### the parameters' order -/
def gi {α : Type} (pm : List Nat) (l : List α) : List α := pm.filterMap fun i => l[i]?
/-- n positional values and keywords ks: the parameter i gets the value pm[i] -/
structure KwB (K : PySem.W.Frag) (mg : Str → Option Value) (x : Str) (n : Nat) (ks : List Str) (pm : List Nat) : Prop where
  ex : ∃ (f : Addr) (fd : FuncData) (ps : List Str), mg x = some (.ref f) ∧ FdAt K f fd ps ∧ KBn K fd ps n ks (fun us ws => gi pm (us ++ ws)) (fun vs zs => gi pm (vs ++ zs))
section
variable {X : Cx} {E : EnvT} {kk : Opd → EnvT → Prop} {e : Expr} {es : List Expr} {kws : List Keyword} {S : Ct} {x : Str} {k j n : Nat} {p pos : Pos} {ks : List Str} {pm : List Nat}
end
end DL

/-! isinstance(e, C), e an exception that was caught -/
namespace DL
open PySem PySem.Spec L2
variable [LamT]
section
variable {X : Cx}
end
section
variable {X : Cx} {a b : Expr} {E : EnvT} {k : Opd → EnvT → Prop} {pos p : Pos}
end
end DL

/-! heaps of records in plain Lean, as trees -/
namespace DL
open PySem PySem.Spec L2
variable [LamT]
inductive HV where
  | non | num (i : Int) | ptr (n : Nat)
  deriving DecidableEq
def toS : Str := "to"
def HV.isN : HV → Bool
  | .num _ => true
  | _ => false
abbrev Rec := List HV
abbrev Hea := List Rec
def HV.ok (m : Nat) : HV → Prop
  | .non => True
  | .num i => -1000000000000000000 < i ∧ i < 1000000000000000000
  | .ptr n => n < m
structure WfH (w : Nat) (h : Hea) : Prop where
  w1 : 1 ≤ w
  w6 : w ≤ 6
  pos : 0 < h.length
  few : h.length ≤ 100000
  len : ∀ r ∈ h, r.length = w
  ok : ∀ r ∈ h, ∀ v ∈ r, v.ok h.length
theorem HV.ok.small {m : Nat} {v : HV} (h : v.ok m) (hm : m ≤ 100000) : v.ok 1000000000000000000 := by
  cases v with
  | non => exact h
  | num i => exact h
  | ptr n => have h : n < m := h; show n < 1000000000000000000; omega
end DL

/-! x[e] += e2, a list of numbers in a slot -/
namespace DL
open PySem PySem.Spec L2 PyProof.Rows
variable [LamT]
section
variable {X : Cx} {n : List Nat} {e e2 : Expr} {E : EnvT} {pos p tpos : Pos} {i : Nat} {x : Str} {ks : KS}
end
end DL

/-! what a heap's root leads to, in plain Lean -/
namespace DL
open PySem PySem.Spec L2
variable [LamT]
def addV (o : List Int) : HV → List Int
  | .ptr n => if (n : Int) ∈ o then o else o ++ [(n : Int)]
  | _ => o
def addR (o : List Int) (r : Rec) : List Int := r.foldl addV o
def stepM (h : Hea) (o : List Int) (t : Nat) : List Int := if t < o.length then addR o (h.getD (o.getD t 0).toNat []) else o
structure MetOk (m : Nat) (o : List Int) : Prop where
  nd : o.Nodup
  b : ∀ x ∈ o, 0 ≤ x ∧ x < m
  ne : 0 < o.length
theorem int_pigeon : ∀ {m : Nat} {o : List Int}, o.Nodup → (∀ x ∈ o, 0 ≤ x ∧ x < m) → o.length ≤ m
  | 0, [], _, _ => Nat.le_refl _
  | 0, x :: o, _, h => by have := h x List.mem_cons_self; omega
  | m + 1, o, nd, h => by
    by_cases q : (m : Int) ∈ o
    · have l := List.length_erase_of_mem q
      have ih := int_pigeon (m := m) (o := o.erase (m : Int)) (nd.erase _) fun x hx => by
        have e := (nd.mem_erase_iff).mp hx
        have := h x e.2
        have := e.1
        omega
      omega
    · have ih := int_pigeon (m := m) (o := o) nd fun x hx => by
        have := h x hx
        have : x ≠ m := fun e => q (e ▸ hx)
        omega
      omega
theorem MetOk.len {m : Nat} {o : List Int} (h : MetOk m o) : o.length ≤ m := int_pigeon h.nd h.b
theorem MetOk.add {m : Nat} {o : List Int} (h : MetOk m o) : ∀ {v : HV}, v.ok m → MetOk m (addV o v)
  | .non, _ => h
  | .num _, _ => h
  | .ptr n, hv => by
    have hv : n < m := hv
    show MetOk m (if (n : Int) ∈ o then o else o ++ [(n : Int)])
    split
    · exact h
    · rename_i q
      refine ⟨List.nodup_append.mpr ⟨h.nd, by simp, fun a ha b hb e => ?_⟩, fun x hx => ?_, by rw [List.length_append]; exact Nat.lt_of_lt_of_le h.ne (Nat.le_add_right _ _)⟩
      · rw [List.mem_singleton.mp hb] at e
        exact q (e ▸ ha)
      · rcases List.mem_append.mp hx with z | z
        · exact h.b x z
        · rw [List.mem_singleton.mp z]; omega
theorem MetOk.addR {m : Nat} : ∀ {r : Rec} {o : List Int}, MetOk m o → (∀ v ∈ r, v.ok m) → MetOk m (addR o r)
  | [], _, h, _ => h
  | v :: r, o, h, hv => MetOk.addR (r := r) (o := addV o v) (h.add (hv v List.mem_cons_self)) fun x hx => hv x (List.mem_cons_of_mem _ hx)
theorem MetOk.step {w : Nat} {h : Hea} (wf : WfH w h) {o : List Int} (k : MetOk h.length o) (t : Nat) : MetOk h.length (stepM h o t) := by
  unfold stepM
  split
  · refine k.addR fun v hv => ?_
    rw [List.getD_eq_getElem?_getD] at hv
    cases e : h[(o.getD t 0).toNat]? with
    | none => rw [e] at hv; exact nomatch hv
    | some r => rw [e] at hv; exact wf.ok r (List.mem_of_getElem? e) v hv
  · exact k
theorem MetOk.one {w : Nat} {h : Hea} (wf : WfH w h) : MetOk h.length [0] := ⟨by simp, fun x hx => by
  rw [List.mem_singleton.mp hx]
  have := wf.pos
  omega, by decide⟩
end DL

/-! what is met is closed -/
namespace DL
open PySem PySem.Spec L2
variable [LamT]
theorem addV_pre {o : List Int} : ∀ {v : HV}, ∃ ys, addV o v = o ++ ys
  | .non => ⟨[], by simp [addV]⟩
  | .num _ => ⟨[], by simp [addV]⟩
  | .ptr n => by
    show ∃ ys, (if (n : Int) ∈ o then o else o ++ [(n : Int)]) = o ++ ys
    split
    · exact ⟨[], by simp⟩
    · exact ⟨_, rfl⟩
theorem addR_pre : ∀ {r : Rec} {o : List Int}, ∃ ys, addR o r = o ++ ys
  | [], o => ⟨[], by simp [addR]⟩
  | v :: r, o => by
    obtain ⟨ys, e⟩ := addV_pre (o := o) (v := v)
    obtain ⟨zs, e2⟩ := addR_pre (r := r) (o := addV o v)
    exact ⟨ys ++ zs, by show addR (addV o v) r = _; rw [e2, e, List.append_assoc]⟩
theorem addR_has : ∀ {r : Rec} {o : List Int} {n : Nat}, HV.ptr n ∈ r → (n : Int) ∈ addR o r
  | v :: r, o, n, h => by
    show (n : Int) ∈ addR (addV o v) r
    rcases List.mem_cons.mp h with q | q
    · subst q
      obtain ⟨ys, e⟩ := addR_pre (r := r) (o := addV o (.ptr n))
      rw [e]
      refine List.mem_append_left _ ?_
      show (n : Int) ∈ (if (n : Int) ∈ o then o else o ++ [(n : Int)])
      split
      · assumption
      · simp
    · exact addR_has q
def Clo (h : Hea) (o : List Int) (t : Nat) : Prop := ∀ i, i < t → i < o.length → ∀ n, HV.ptr n ∈ h.getD (o.getD i 0).toNat [] → (n : Int) ∈ o
theorem getD_pre {o ys : List Int} {i : Nat} (h : i < o.length) : (o ++ ys).getD i 0 = o.getD i 0 := by
  rw [List.getD_eq_getElem?_getD, List.getD_eq_getElem?_getD, List.getElem?_append_left h]
theorem Clo.step {h : Hea} {o : List Int} {t : Nat} (c : Clo h o t) : Clo h (stepM h o t) (t + 1) := by
  unfold stepM
  split
  · rename_i ht
    obtain ⟨ys, e⟩ := addR_pre (r := h.getD (o.getD t 0).toNat []) (o := o)
    intro i hi hl n hn
    by_cases q : i = t
    · subst q
      rw [e, getD_pre ht] at hn
      exact addR_has hn
    · rw [e, getD_pre (by omega)] at hn
      rw [e]
      exact List.mem_append_left _ (c i (by omega) (by omega) n hn)
  · rename_i ht
    intro i hi hl n hn
    exact c i (by omega) hl n hn
end DL

/-! dicts with keys that are computed -/
namespace DL
open PySem PySem.Spec L2
variable [LamT]
section
variable {X : Cx} {i : Nat} {x : Str} {e : Expr} {E : EnvT} {k : Opd → EnvT → Prop} {p pos : Pos}
/-- x[e], a key that is a number -/
theorem wo_dgetI (hu : X.A.units + 1 < cLine) (hN : X.N[i]? = some x) (hE : ∃ keys0 ds0, E[i]? = some (some (.dic keys0 ds0))) (hs : NoSl e)
    (h : WO X e E fun o E1 => ∃ (keys : List Key) (ds : List D) (m : Int) (j : Nat) (d : D), o.get E1 = some (.int m) ∧ E1[i]? = some (some (.dic keys ds)) ∧ keys.Nodup ∧ keys[j]? = some (.inl m) ∧ ds[j]? = some d ∧ Imm d ∧ k (.val d) E1)
    (hv : Vis X.env.scope x) (hdb : (x == ("__debug__" : Str)) = false) (hcd : (x == ("__classdict__" : Str)) = false) :
    WO X (.Subscript (.Name x p) e pos) E k := by
  intro Z H σ F Q he hk'
  obtain ⟨keys0, ds0, hE⟩ := hE
  obtain ⟨a0, vs0, Fd0, R0, hv0, hH0, _⟩ := he.dic hE
  refine wpE_by (pe_dget hu (pe_var hN hv hdb hcd) pe_w hs) ⟨_, hv0, h Z H σ F _ he fun o E1 Z1 H1 F1 G1 w ⟨keys, ds, m, j, d, g, hE1, hk, hj, hd, hi, kk⟩ f r1 => ?_⟩
  obtain ⟨Gj, rj, _⟩ := r1.use f.env g
  cases rj
  obtain ⟨a, vs, Fd, R, hv1, hH, hl, rs, hR, hp⟩ := f.env.dic hE1
  rw [hv0] at hv1
  cases hv1
  obtain ⟨v, G', hvj, rv, _⟩ := rs.get hd
  have gk := DGet.k (k := Sum.inl m) hH
  rw [valV_zip hk hj hvj] at gk
  exact ⟨_, v, rfl, gk, hk' _ E1 Z1 H1 F1 [] v kk f.nil (rv.nils hi)⟩
theorem valV_none {k : Key} : ∀ {ks : List Key} {vs : List V}, k ∉ ks → valV (ks.zip vs) k = none
  | [], _, _ => rfl
  | _ :: _, [], _ => rfl
  | k0 :: ks, v0 :: vs, h => by
    have ih := valV_none (k := k) (ks := ks) (vs := vs) fun q => h (List.mem_cons_of_mem _ q)
    have ne : ¬ k0 = k := fun q => h (q ▸ List.mem_cons_self)
    unfold valV at ih ⊢
    rw [List.zip_cons_cons, List.find?_cons_of_neg (by simpa using ne)]
    exact ih
/-- is there a value at the key -/
theorem valV_some {k : Key} : ∀ {ks : List Key} {vs : List V}, ks.length = vs.length → k ∈ ks → (valV (ks.zip vs) k).isSome = true
  | [], _, _, h => nomatch h
  | _ :: _, [], l, _ => by simp at l
  | k0 :: ks, v0 :: vs, l, h => by
    by_cases q : k0 = k
    · unfold valV
      rw [List.zip_cons_cons, List.find?_cons_of_pos (by simpa using q)]
      rfl
    · have ih := valV_some (k := k) (ks := ks) (vs := vs) (by simpa using l) ((List.mem_cons.mp h).resolve_left fun z => q z.symm)
      unfold valV at ih ⊢
      rw [List.zip_cons_cons, List.find?_cons_of_neg (by simpa using q)]
      exact ih
theorem valV_mem {ns : List Int} {m : Int} {vs : List V} (l : (ns.map (Sum.inl : Int → Key)).length = vs.length) : (valV ((ns.map (Sum.inl : Int → Key)).zip vs) (Sum.inl m)).isSome = decide (m ∈ ns) := by
  by_cases q : m ∈ ns
  · rw [valV_some l (List.mem_map.mpr ⟨m, q, rfl⟩), decide_eq_true q]
  · rw [valV_none (fun z => by
      obtain ⟨y, hy, e⟩ := List.mem_map.mp z
      cases e
      exact q hy), decide_eq_false q]
    rfl
end
end DL

/-! d[e] = v, a number that is no key yet -/
namespace DL
open PySem PySem.Spec L2
variable [LamT]
theorem putK_new {k : Key} {ks : List Key} {vs : List V} {v : V} (l : ks.length = vs.length) (h : k ∉ ks) : putK (ks.zip vs) k v = (ks ++ [k]).zip (vs ++ [v]) := by
  have e : (ks.zip vs).any (fun kv => decide (kv.1 = k)) = false := by
    rw [List.any_eq_false]
    intro p hp z
    have z := of_decide_eq_true z
    exact h (z ▸ (List.of_mem_zip hp).1)
  unfold putK
  rw [e, if_neg Bool.false_ne_true, List.zip_append l]
  rfl
section
variable {X : Cx} {i : Nat} {x : Str} {e ev : Expr} {E : EnvT} {p pos pos' : Pos} {n : List Nat} {ks : KS}
end
end DL

/-! {0: True} -/
namespace DL
open PySem PySem.Spec L2
variable [LamT]
section
variable {X : Cx} {E : EnvT} {k : Opd → EnvT → Prop} {pos p1 p2 : Pos} {m : Int} {b : Bool} {j1 j2 : Nat}
theorem wo_dic1 (h : k (.val (.dic ([m].map Sum.inl) [.bl b])) E) : WO X (.Dict [some (.Constant (.int m) j1 p1)] [.Constant (.bool b) j2 p2] pos) E k := by
  intro Z H σ F Q he hk
  refine wpE_by (pe_disp (pps_cons pe_int pe_bl pps_nil) rfl rfl (by simp) (Nat.le_of_ble_eq_true rfl)) fun p hp0 => ⟨upd_same, [(Sum.inl m, .bl b)], rfl, Nat.le_of_ble_eq_true rfl, ?_⟩
  have g : Grow H (upd (upd H p (.dK [])) p (.dK (mergeK [] [((Sum.inl m : Key), V.bl b)]))) [p] :=
    ⟨fun a u e => by rw [upd_ne (ne_of_none e hp0), upd_ne (ne_of_none e hp0)]; exact e, fun a ha => by rw [List.mem_singleton.mp ha]; exact hp0, by simp⟩
  have pF : p ∉ F := fun q => by
    obtain ⟨o, e, _⟩ := he.r.mem p q
    rw [hp0] at e
    cases e
  refine hk _ E Z _ F [p] _ h ⟨⟨he.r.kp g.kp fun a _ o _ e => g.gr a o e, he.nd, he.nz, he.zt.gr g⟩, List.nodup_cons.mpr ⟨pF, he.nd⟩, fun x hx z => ?_, g.st⟩ (.dic (vs := [.bl b]) (F := []) (by rw [upd_same]; rfl) rfl (Reps.cons (.bl b) .nil))
  rw [List.mem_singleton.mp hx] at z
  obtain ⟨o, e, _⟩ := he.zt.th p z
  rw [hp0] at e
  cases e
end
end DL

/-! y = {key: value for target in iter}, keys that are numbers, each met once -/
namespace DL
open PySem PySem.Spec L2
variable [LamT]
section
variable {X : Cx} {kx vx tg iter : Expr} {scope : Scope} {own : List (Str × Nat)} {pos : Pos} {E : EnvT} {k : Opd → EnvT → Prop} {g : TG}
theorem take_next {α : Type} {xs : List α} {i : Nat} {x : α} (h : xs[i]? = some x) : xs.take (i + 1) = xs.take i ++ [x] := by
  rw [List.take_succ, h]; rfl
end
section
variable {X : Cx} {a : Expr} {E : EnvT} {pos p : Pos}
/-- enumerate of a list of things that own nothing -/
theorem wi_enumL {k : List (Nat × D) → Nat → (Nat → D) → EnvT → Prop} {elts : List Expr} {kk : Nat} {tpos : Pos} (hg : Gl X "enumerate") (hm : X.mg "enumerate" = none) (h : WO X a E fun o1 E1 => ∃ ds, (o1.get E1).bind D.lseq = some ds ∧ Imms ds ∧
      k (watch E1 o1) ds.length (fun i => .tup [.int (i : Int), ds.getD i .non]) E1)
    (hs : starEach [a] X.env = [(false, eval a X.env)] := by rfl) (hs2 : starEach [a] X.env = (false, eval a X.env) :: starEach [] X.env := by rfl) :
    WI X (.Tuple elts kk tpos) (.Call (.Name "enumerate" p) [a] [] pos) E k := by
  intro Z H σ F R he hk
  have hA : WA X [a] E fun os E1 => ∃ o1, os = [o1] ∧ ∃ ds, (o1.get E1).bind D.lseq = some ds ∧ Imms ds ∧ k (watch E1 o1) ds.length (fun i => .tup [.int (i : Int), ds.getD i .non]) E1 := wa_cons (WO.mono h fun o1 E1 q => wa_nil ⟨o1, rfl, q⟩) hs2
  refine wpI_by (pi_enum hg hm pa_w hs) (hA Z H σ F _ he fun os E1 Z1 H1 F1 G vs ⟨o1, eo, ds, g1, i1, kk⟩ f1 rs => ?_)
  subst eo
  cases rs with
  | cons r1 rn =>
    cases rn
    rename_i v1 Ga
    obtain ⟨d1, gd1, gs1⟩ := seq_of g1
    obtain ⟨G1, r1', _⟩ := r1.use f1.env gd1
    obtain ⟨x, xs, _, rfl, hx, rx⟩ := r1'.lseq gs1
    have rx0 := rx.nils i1
    have dis := (List.nodup_append.mp f1.nd).2.2
    have st1 := OpdR.stay (w := watch E1 o1) f1.env r1 gd1 gs1 i1 (fun x hx hf => dis x (List.mem_append_left _ hx) x hf rfl) (fun p hp => hp)
    refine ⟨x, xs, rfl, hx, hk _ _ _ E1 Z1 H1 F1 _ (fun Z' H' => ∃ xs, SqL X.K H' x xs ∧ Reps X.K Z' H' ds xs []) [] kk f1.nil ⟨fun Z' i H' hi ⟨xs, q1, q2⟩ => ?_, fun Z' H' ⟨xs, q1, q2⟩ => ⟨xs, q1, by have := q2.len; omega⟩, fun Z' i H' v H'' hi ⟨xs, q1, q2⟩ yv => ?_⟩ ⟨xs, hx, rx0⟩ fun E' Z' H' σ' F' G fs hE => st1 E' Z' H' σ' F' G fs hE⟩
    · have := q2.len
      exact ⟨xs, xs[i]'(by omega), q1, List.getElem?_eq_getElem _⟩
    · obtain ⟨T, u, rfl, hT, rfl, hu⟩ := yv
      obtain ⟨u', G3, hu', ru, _⟩ := q2.get (i := i) (d := ds[i]) (List.getElem?_eq_getElem hi)
      rw [hu xs q1] at hu'
      cases hu'
      rw [getD_some (List.getElem?_eq_getElem hi)]
      have gr := Grow.new0 (H := H') (p := T) (o := .tup [.int (i : Nat), u]) hT
      exact ⟨.tup (SqT.of upd_same) (.cons (.int _) (.cons ((ru.nils (imms_get i1 (List.getElem?_eq_getElem hi))).grow gr) .nil)), gr⟩
end
/-! ### e in d, e not in d -/
section
variable {X : Cx}
theorem op_niD (hu : X.A.units + 1 < cLine) : OpR X (compareOp .NotIn) (fun y x H Q => ∃ a o, x = .ref a ∧ DGet H a y o ∧ Q (.bl (!o.isSome)) H) := by
  intro pins s σ H y x v u Q I ry rx h
  obtain ⟨a, o, rfl, g, q⟩ := h
  obtain rfl : u = Value.ref a := rx
  exact d_notIn hu I g ry fun s3 I3 => ⟨.bl (!o.isSome), H, I3, rfl, q⟩
theorem op_inD (hu : X.A.units + 1 < cLine) : OpR X (compareOp .In) (fun y x H Q => ∃ a o, x = .ref a ∧ DGet H a y o ∧ Q (.bl o.isSome) H) := by
  intro pins s σ H y x v u Q I ry rx h
  obtain ⟨a, o, rfl, g, q⟩ := h
  obtain rfl : u = Value.ref a := rx
  exact d_in hu I g ry fun s3 I3 => ⟨.bl o.isSome, H, I3, rfl, q⟩
theorem cmp_niD {ns : List Int} {ds : List D} {m : Int} (hu : X.A.units + 1 < cLine) : CmpD X .NotIn (.int m) (.dic (ns.map Sum.inl) ds) (!decide (m ∈ ns)) := .mk (op_niD hu) fun Z H v1 v2 G1 G2 r1 r2 Q q => by
  cases r1
  cases r2 with
  | dic hH hl rs =>
    refine ⟨_, _, rfl, DGet.k (k := Sum.inl m) hH, ?_⟩
    rw [valV_mem hl]
    exact q _ H [] (.bl _) Grow.refl
theorem cmp_inD {ns : List Int} {ds : List D} {m : Int} (hu : X.A.units + 1 < cLine) : CmpD X .In (.int m) (.dic (ns.map Sum.inl) ds) (decide (m ∈ ns)) := .mk (op_inD hu) fun Z H v1 v2 G1 G2 r1 r2 Q q => by
  cases r1
  cases r2 with
  | dic hH hl rs =>
    refine ⟨_, _, rfl, DGet.k (k := Sum.inl m) hH, ?_⟩
    rw [valV_mem hl]
    exact q _ H [] (.bl _) Grow.refl
end
/-! ### d[e] = v as a target -/
def rSetD : TSet := fun o i v H Q => ∃ a H', o = .ref a ∧ DPut H a i v H' ∧ Q H'
theorem set_dict {X : Cx} (hu : X.A.units + 1 < cLine) : PSet X rSetD := by
  intro pins s σ H o i v ov iv u Q I ro ri rv h
  obtain ⟨a, H', rfl, g, q⟩ := h
  obtain rfl : ov = Value.ref a := ro
  exact d_setItem hu I g ri rv fun s4 I4 => ⟨H', I4, q⟩
section
variable {X : Cx} {n : List Nat} {e : Expr} {E : EnvT} {pos p : Pos} {i : Nat} {x : Str} {d : D} {k : EnvT → Prop}
end
end DL

/-! any value frozen; {}, {0: None}; dict(list of pairs); frozen dicts read; calls with positional values and keywords; _law_caught whose work changes the state -/
namespace DL
open PySem PySem.Spec L2 LamX
variable [LamT]
open PyProof.Rows (envOfC)
section
variable {X : Cx} {n : List Nat} {E : EnvT} {k : Opd → EnvT → Prop} {pos : Pos} {e : Expr}
/-- {} -/
theorem wo_dic0 (h : k (.val (.dic [] [])) E) : WO X (.Dict [] [] pos) E k := by
  intro Z H σ F Q he hk
  refine wpE_by pe_dnewK fun p hp0 => ?_
  have g : Grow H (upd H p (.dK [])) [p] := Grow.new hp0
  have pF : p ∉ F := fun q => by
    obtain ⟨o, e, _⟩ := he.r.mem p q
    rw [hp0] at e
    cases e
  refine hk _ E Z _ F [p] _ h ⟨⟨he.r.kp g.kp fun a _ o _ e => g.gr a o e, he.nd, he.nz, he.zt.gr g⟩, List.nodup_cons.mpr ⟨pF, he.nd⟩, fun x hx z => ?_, g.st⟩ (.dic (vs := []) (F := []) (by rw [upd_same]; rfl) rfl Reps.nil)
  rw [List.mem_singleton.mp hx] at z
  obtain ⟨o, e, _⟩ := he.zt.th p z
  rw [hp0] at e
  cases e
/-- {m: None} -/
theorem wo_dic3 {m : Int} {j1 j2 : Nat} {p1 p2 : Pos} (h : k (.val (.dic ([m].map Sum.inl) [.non])) E) : WO X (.Dict [some (.Constant (.int m) j1 p1)] [.Constant .none j2 p2] pos) E k := by
  intro Z H σ F Q he hk
  refine wpE_by (pe_disp (pps_cons pe_int pe_non pps_nil) rfl rfl (by simp) (Nat.le_of_ble_eq_true rfl)) fun p hp0 => ⟨upd_same, [(Sum.inl m, .non)], rfl, Nat.le_of_ble_eq_true rfl, ?_⟩
  have g : Grow H (upd (upd H p (.dK [])) p (.dK (mergeK [] [((Sum.inl m : Key), V.non)]))) [p] :=
    ⟨fun a u e => by rw [upd_ne (ne_of_none e hp0), upd_ne (ne_of_none e hp0)]; exact e, fun a ha => by rw [List.mem_singleton.mp ha]; exact hp0, by simp⟩
  have pF : p ∉ F := fun q => by
    obtain ⟨o, e, _⟩ := he.r.mem p q
    rw [hp0] at e
    cases e
  refine hk _ E Z _ F [p] _ h ⟨⟨he.r.kp g.kp fun a _ o _ e => g.gr a o e, he.nd, he.nz, he.zt.gr g⟩, List.nodup_cons.mpr ⟨pF, he.nd⟩, fun x hx z => ?_, g.st⟩ (.dic (vs := [.non]) (F := []) (by rw [upd_same]; rfl) rfl (Reps.cons .non .nil))
  rw [List.mem_singleton.mp hx] at z
  obtain ⟨o, e, _⟩ := he.zt.th p z
  rw [hp0] at e
  cases e
end

/-! ### dict(list of pairs) -/
def prI (p : Int × D) : D := .tup [.int p.1, p.2]
theorem paired_of {K : PySem.W.Frag} {Z : Addr → Prop} {H : Hp} : ∀ {ps : List (Int × D)} {vs : List V} {G : List Addr}, Reps K Z H (ps.map prI) vs G → (∀ p ∈ ps, Imm p.2) →
    ∃ (as : List Addr) (ws : List V), vs = as.map V.ref ∧ Paired (fun p kv => SqT K H p [kV kv.1, kv.2]) as ((ps.map fun p => (Sum.inl p.1 : Key)).zip ws) ∧ Reps K Z H (ps.map (·.2)) ws []
  | [], _, _, .nil, _ => ⟨[], [], rfl, .nil, .nil⟩
  | p :: ps, _, _, .cons r rs, im => by
    obtain ⟨as, ws, e, q, rr⟩ := paired_of rs fun x hx => im x (List.mem_cons_of_mem _ hx)
    subst e
    cases r with
    | tup hs r2 =>
      cases r2 with
      | cons r3 r4 =>
        cases r3
        cases r4 with
        | cons r5 r6 =>
          cases r6
          have r7 := r5.nils (im p List.mem_cons_self)
          exact ⟨_ :: as, _ :: ws, rfl, .cons hs q, .cons (F := []) (G := []) r7 rr⟩
section
variable {X : Cx} {E : EnvT} {k : Opd → EnvT → Prop} {pos p : Pos} {a : Expr}
theorem wo_dictP (hc : X.calm = true) (hg : Gl X "dict") (hm : X.mg "dict" = none) (h : WO X a E fun o E1 => ∃ (d : D) (ps : List (Int × D)), o.get E1 = some d ∧ d.lseq = some (ps.map prI) ∧ (∀ q ∈ ps, Imm q.2) ∧ (ps.map (·.1)).Nodup ∧ k (.val (.dic ((ps.map (·.1)).map Sum.inl) (ps.map (·.2)))) E1)
    (hs : starEach [a] X.env = (false, eval a X.env) :: starEach [] X.env := by rfl) : WO X (.Call (.Name "dict" p) [a] [] pos) E k :=
  wo_b1 (pe_callTy (call_dictP hc) hg hm (by decide +kernel) pa_w (he := hs)) (WO.mono h fun o E1 ⟨d1, ps, g1, g2, im, nd, kk⟩ => by
    refine ⟨d1, g1, _, fun Z H v G rv => GivesP.one fun Q q => ?_, fun d e => by rw [e]; exact kk⟩
    obtain ⟨x, vs, G', rfl, hs, rs⟩ := rv.lseq g2
    obtain ⟨as, ws, e, q2, r2⟩ := paired_of rs im
    subst e
    refine ⟨x, as, _, rfl, hs, q2, fun l hl => ?_⟩
    have hlen := r2.len
    have e1 : ps.map (fun p => (Sum.inl p.1 : Key)) = (ps.map (·.1)).map Sum.inl := by rw [List.map_map]; rfl
    have ndk : (((ps.map fun p => (Sum.inl p.1 : Key)).zip ws).map (·.1)).Nodup := by
      rw [List.map_fst_zip (by rw [List.length_map] at hlen ⊢; omega), e1]
      exact List.pairwise_map.mpr (List.Pairwise.imp (fun {a b} h e => h (Sum.inl.inj e)) nd)
    rw [mergeK_new (fun p hp => rfl) ndk, List.nil_append, e1]
    exact q _ _ [l] (.dic upd_same (by rw [List.length_map, List.length_map]; rw [List.length_map] at hlen; exact hlen) (r2.grow (Grow.new hl))) (Grow.new hl)) hs
/-- a frozen dict's keys -/
theorem cmp_inFd {ns : List Int} {ds : List D} {m : Int} (hu : X.A.units + 1 < cLine) : CmpD X .In (.int m) (.fd (ns.map Sum.inl) ds) (decide (m ∈ ns)) := .mk (op_inD hu) fun Z H v1 v2 G1 G2 r1 r2 Q q => by
  cases r1
  cases r2 with
  | fd e rs =>
    refine ⟨_, _, rfl, DGet.k (k := Sum.inl m) e.2.1, ?_⟩
    rw [valV_mem e.2.2]
    exact q _ H [] (.bl _) Grow.refl
theorem cmp_niFd {ns : List Int} {ds : List D} {m : Int} (hu : X.A.units + 1 < cLine) : CmpD X .NotIn (.int m) (.fd (ns.map Sum.inl) ds) (!decide (m ∈ ns)) := .mk (op_niD hu) fun Z H v1 v2 G1 G2 r1 r2 Q q => by
  cases r1
  cases r2 with
  | fd e rs =>
    refine ⟨_, _, rfl, DGet.k (k := Sum.inl m) e.2.1, ?_⟩
    rw [valV_mem e.2.2]
    exact q _ H [] (.bl _) Grow.refl
/-- x[e], a frozen dict -/
theorem wo_fdget {i : Nat} {x : Str} {e : Expr} {keys0 : List Key} {ds0 : List D} (hu : X.A.units + 1 < cLine) (hN : X.N[i]? = some x) (hE : E[i]? = some (some (.fd keys0 ds0))) (hs : NoSl e)
    (h : WO X e E fun o E1 => ∃ (m : Int) (j : Nat) (d : D), o.get E1 = some (.int m) ∧ keys0.Nodup ∧ keys0[j]? = some (.inl m) ∧ ds0[j]? = some d ∧ k (.val d) E1)
    (hv : Vis X.env.scope x) (hdb : (x == ("__debug__" : Str)) = false) (hcd : (x == ("__classdict__" : Str)) = false) :
    WO X (.Subscript (.Name x p) e pos) E k := by
  intro Z H σ F Q he hk'
  obtain ⟨v, G0, R0, h1, h2, h3, h4⟩ := he.r.get hE
  cases h2 with
  | fd e0 rs0 =>
    rename_i a vs
    refine wpE_by (pe_dget hu (pe_var hN hv hdb hcd) pe_w hs) ⟨_, h1, h Z H σ F _ he fun o E1 Z1 H1 F1 G1 w ⟨m, j, d, g, hk, hj, hd, kk⟩ f r1 => ?_⟩
    obtain ⟨Gj, rj, _⟩ := r1.use f.env g
    cases rj
    have hH : H1 a = some (.dK (keys0.zip vs)) := f.st.fl _ _ e0.1 ntb_dK e0.2.1
    have rs1 : Reps X.K Z1 H1 ds0 vs [] := rs0.step f.st fun _ q => nomatch q
    obtain ⟨v, G', hvj, rv, sl⟩ := rs1.get hd
    have gk := DGet.k (k := Sum.inl m) hH
    rw [valV_zip hk hj hvj] at gk
    have eg : G' = [] := List.sublist_nil.mp sl
    subst eg
    exact ⟨_, v, rfl, gk, hk' _ E1 Z1 H1 F1 [] v kk f.nil rv⟩
end

/-! ### f(e, .., k = v, ..) -/
section
variable {X : Cx} {E : EnvT} {kk : Opd → EnvT → Prop} {e : Expr} {es : List Expr} {kws : List Keyword} {S : Ct} {x : Str} {k j n : Nat} {p pos : Pos} {ks : List Str} {pm : List Nat}
end

/-! ### _law_caught(lambda: ..), the work changes what is owned; that is forgotten behind it -/
section
variable {X : Cx} {E E0 : EnvT} {k : Opd → EnvT → Prop}
end
end DL

/-! heads: facts of error classes; the promise of a law whose def holds lambdas -/
namespace DL
open PySem PySem.Spec L2
variable [LamT]
open PyProof.Rows (envOfC)
def eqB (a b : Option Bool) : Bool := decide (a = b)
/-- what isinstance asks of an error class -/
def excB (K : PySem.W.Frag) (x : Str) : Bool :=
  He.eqO (PySem.W.findIn K (.ref (He.ga K x)) "__getattribute__") (some (some (.builtin "BaseException.__getattribute__"))) && (He.eqO (PySem.W.findIn K (.ref (He.ga K x)) "__getattr__") (some none) && (eqB (PySem.W.subIn K (.ref (He.ga K x)) (.type "BaseException")) (some true) &&
    (PySem.W.hasDictIn K (He.ga K x) && (He.eqO (PySem.W.findIn K (.ref (He.ga K x)) "__class__") (some (some (.builtin "object.__class__"))) && (He.eqO (PySem.W.specialIn K (.builtin "object.__class__") "__get__") (some (some (.builtin "getset_descriptor.__get__"))) &&
      (eqB (PySem.W.takesIn K (.builtin "object.__class__")) (some true) && eqB (PySem.W.mroIn K (He.ga K x) (.type "object")) (some true)))))))
theorem excB_ok {K : PySem.W.Frag} {x : Str} (h : excB K x = true) : ExcC K (He.ga K x) := by
  obtain ⟨h1, h⟩ := He.ba h
  obtain ⟨h2, h⟩ := He.ba h
  obtain ⟨h3, h⟩ := He.ba h
  obtain ⟨h4, h⟩ := He.ba h
  obtain ⟨h5, h⟩ := He.ba h
  obtain ⟨h6, h⟩ := He.ba h
  obtain ⟨h7, h8⟩ := He.ba h
  exact ⟨He.eqO_ok h1, He.eqO_ok h2, of_decide_eq_true h3, h4, He.eqO_ok h5, He.eqO_ok h6, of_decide_eq_true h7, of_decide_eq_true h8⟩
section
variable {K : PySem.W.Frag} {h : Heap} {mg : Str → Option Value}
theorem exF_of (X : K.In h) (G : h.Ns mainGlobals mg) {x : Str} (c1 : (He.Fa.glo x).ok K = true) (c2 : (He.Fa.glo "CopyError").ok K = true) (c3 : (He.Fa.exc x).ok K = true) (c4 : (He.Fa.exm x "CopyError" true).ok K = true) : ExF K mg x := by
  obtain ⟨e1, e2, e3, e4⟩ := He.exc_ok c3
  exact ⟨_, _, He.glo_ok X G c1, He.glo_ok X G c2, e1, e2, e3, e4, He.exm_ok c4⟩
theorem exC_of (X : K.In h) (G : h.Ns mainGlobals mg) {x : Str} (c1 : (He.Fa.glo x).ok K = true) (c : excB K x = true) : ∀ C : Addr, mg x = some (.ref C) → ExcC K C := fun C hC => by
  have e := He.glo_ok X G c1
  rw [hC] at e
  cases e
  exact excB_ok c
end
section
variable {P : Program} {w : World} {K : PySem.W.Frag} {mg : Str → Option Value} {base : Heap}
end
theorem ntb_frzL {o : Obj} {vs : List V} : NTb (.frz o (.lst vs)) := fun ps z => nomatch z
end DL

/-! what is seen of what is seen is itself -/
namespace DL
open PySem PySem.Spec L2
variable [LamT]
end DL

/-! changes, deeds, stories in plain Lean -/
namespace DL
open PySem PySem.Spec L2
variable [LamT]
inductive Chg where
  | mk (r : Rec)
  | st (i j : Nat) (v : HV)
def mkS : Str := "make"
def Chg.isM : Chg → Bool
  | .mk _ => true
  | .st _ _ _ => false
def Chg.ok (w m : Nat) : Chg → Prop
  | .mk r => r.length = w ∧ ∀ v ∈ r, v.ok (m + 1)
  | .st i j v => i < m ∧ j < w ∧ v.ok m
def Chg.nx (m : Nat) : Chg → Nat
  | .mk _ => m + 1
  | .st _ _ _ => m
def OkD (w : Nat) : Nat → List Chg → Prop
  | _, [] => True
  | m, c :: cs => c.ok w m ∧ OkD w (c.nx m) cs
def aft (m : Nat) (cs : List Chg) : Nat := cs.foldl Chg.nx m
theorem OkD.add {w : Nat} {c : Chg} : ∀ {cs : List Chg} {m : Nat}, OkD w m cs → c.ok w (aft m cs) → OkD w m (cs ++ [c])
  | [], _, _, h => ⟨h, trivial⟩
  | d :: cs, m, h, hc => ⟨h.1, OkD.add (cs := cs) h.2 hc⟩
theorem aft_count : ∀ {cs : List Chg} {m : Nat}, aft m cs = m + (cs.filter Chg.isM).length
  | [], _ => rfl
  | c :: cs, m => by
    show aft (c.nx m) cs = _
    rw [aft_count]
    cases c with
    | mk r => rw [List.filter_cons_of_pos rfl, List.length_cons]; show m + 1 + _ = _; omega
    | st i j v => rw [List.filter_cons_of_neg (by exact Bool.false_ne_true)]; rfl
theorem aft_le {cs : List Chg} {m : Nat} : aft m cs ≤ m + cs.length := by
  rw [aft_count]
  have := List.length_filter_le Chg.isM cs
  omega
theorem HV.ok.mono {m n : Nat} {v : HV} (h : v.ok m) (hm : m ≤ n) : v.ok n := by
  cases v with
  | non => trivial
  | num i => exact h
  | ptr k => have h : k < m := h; show k < n; omega
/-- a heap behind a change -/
def doC (h : Hea) : Chg → Hea
  | .mk r => h ++ [r]
  | .st i j v => h.set i ((h.getD i []).set j v)
def doD (h : Hea) (cs : List Chg) : Hea := cs.foldl doC h
theorem doC_len {h : Hea} {c : Chg} : (doC h c).length = c.nx h.length := by
  cases c with
  | mk r => exact List.length_append ..
  | st i j v => exact List.length_set ..
theorem doC_wf {w : Nat} {h : Hea} {c : Chg} (wf : WfH w h) (hc : c.ok w h.length) (few : h.length + 1 ≤ 100000) : WfH w (doC h c) := by
  have hl := doC_len (h := h) (c := c)
  cases c with
  | mk r =>
    have hl : (h ++ [r]).length = h.length + 1 := hl
    refine ⟨wf.w1, wf.w6, by show 0 < (h ++ [r]).length; omega, by show (h ++ [r]).length ≤ 100000; omega, fun x hx => ?_, fun x hx v hv => ?_⟩
    · rcases List.mem_append.mp hx with q | q
      · exact wf.len x q
      · rw [List.mem_singleton.mp q]; exact hc.1
    · show v.ok (h ++ [r]).length
      rw [hl]
      rcases List.mem_append.mp hx with q | q
      · exact (wf.ok x q v hv).mono (Nat.le_succ _)
      · rw [List.mem_singleton.mp q] at hv; exact hc.2 v hv
  | st i j v =>
    have hl : (h.set i ((h.getD i []).set j v)).length = h.length := hl
    obtain ⟨hi, hj, hv⟩ := hc
    have hm : h.getD i [] ∈ h := by rw [List.getD_eq_getElem?_getD, List.getElem?_eq_getElem hi]; exact List.getElem_mem _
    have pos := wf.pos
    have few' := wf.few
    refine ⟨wf.w1, wf.w6, by show 0 < (h.set i ((h.getD i []).set j v)).length; omega, by show (h.set i ((h.getD i []).set j v)).length ≤ 100000; omega, fun x hx => ?_, fun x hx u hu => ?_⟩
    · rcases List.mem_or_eq_of_mem_set hx with q | q
      · exact wf.len x q
      · rw [q, List.length_set]; exact wf.len _ hm
    · show u.ok (h.set i ((h.getD i []).set j v)).length
      rw [hl]
      rcases List.mem_or_eq_of_mem_set hx with q | q
      · exact wf.ok x q u hu
      · rw [q] at hu
        rcases List.mem_or_eq_of_mem_set hu with z | z
        · exact wf.ok _ hm u z
        · rw [z]; exact hv
theorem doD_wf {w : Nat} : ∀ {cs : List Chg} {h : Hea}, WfH w h → OkD w h.length cs → h.length + cs.length ≤ 100000 → WfH w (doD h cs) ∧ (doD h cs).length = aft h.length cs
  | [], h, wf, _, _ => ⟨wf, rfl⟩
  | c :: cs, h, wf, ok, few => by
    rw [List.length_cons] at few
    have wf' := doC_wf wf ok.1 (by omega)
    have hl := doC_len (h := h) (c := c)
    have hx : c.nx h.length ≤ h.length + 1 := by
      cases c with
      | mk r => exact Nat.le_refl _
      | st i j v => exact Nat.le_succ _
    obtain ⟨h1, h2⟩ := doD_wf (cs := cs) (h := doC h c) wf' (by rw [hl]; exact ok.2) (by rw [hl]; omega)
    refine ⟨h1, ?_⟩
    show (doD (doC h c) cs).length = aft (c.nx h.length) cs
    rw [h2, hl]
/-! ### stories -/
abbrev Pr := Nat × List Chg
/-- the numbers of records of all versions -/
def szs (ps : List Pr) : List Nat := ps.foldl (fun s p => s ++ [aft (s.getD p.1 0) p.2]) [1]
def StO (w b : Nat) (ps : List Pr) : Prop := ∀ j p, ps[j]? = some p → p.1 ≤ j ∧ p.2.length ≤ b ∧ OkD w ((szs (ps.take j)).getD p.1 0) p.2
theorem szs_add {ps : List Pr} {p : Pr} : szs (ps ++ [p]) = szs ps ++ [aft ((szs ps).getD p.1 0) p.2] := by
  unfold szs
  rw [List.foldl_append]
  rfl
theorem szs_len {ps : List Pr} : (szs ps).length = ps.length + 1 := by
  suffices h : ∀ (ps : List Pr) (s : List Nat), (ps.foldl (fun s p => s ++ [aft (s.getD p.1 0) p.2]) s).length = s.length + ps.length by
    have := h ps [1]
    simp only [List.length_singleton] at this
    unfold szs
    omega
  intro ps
  induction ps with
  | nil => intro s; rfl
  | cons p ps ih =>
    intro s
    rw [List.foldl_cons, ih]
    simp only [List.length_append, List.length_cons, List.length_nil]
    omega
theorem StO.add {w b : Nat} {ps : List Pr} {p : Pr} (h : StO w b ps) (h1 : p.1 ≤ ps.length) (h2 : p.2.length ≤ b) (h3 : OkD w ((szs ps).getD p.1 0) p.2) : StO w b (ps ++ [p]) := by
  intro j q hq
  by_cases c : j < ps.length
  · rw [List.getElem?_append_left c] at hq
    have := h j q hq
    rw [List.take_append_of_le_length (Nat.le_of_lt c)]
    exact this
  · have hj : j < (ps ++ [p]).length := (List.getElem?_eq_some_iff.mp hq).1
    rw [List.length_append, List.length_singleton] at hj
    have e : j = ps.length := by omega
    subst e
    rw [List.getElem?_append_right (Nat.le_refl _), Nat.sub_self] at hq
    cases (Option.some.inj hq : p = q)
    rw [List.take_left]
    exact ⟨h1, h2, h3⟩
theorem StO.nil {w b : Nat} : StO w b [] := fun j p h => nomatch h
/-- the heaps of all versions -/
def heas (w : Nat) (ps : List Pr) : List Hea := ps.foldl (fun s p => s ++ [doD (s.getD p.1 []) p.2]) [[List.replicate w .non]]
theorem heas_add {w : Nat} {ps : List Pr} {p : Pr} : heas w (ps ++ [p]) = heas w ps ++ [doD ((heas w ps).getD p.1 []) p.2] := by
  unfold heas
  rw [List.foldl_append]
  rfl
theorem bare_wf {w : Nat} (h1 : 1 ≤ w) (h6 : w ≤ 6) : WfH w [List.replicate w .non] := ⟨h1, h6, Nat.one_pos, (by show 1 ≤ 100000; omega), fun r hr => by
  rw [List.mem_singleton.mp hr, List.length_replicate], fun r hr v hv => by
  rw [List.mem_singleton.mp hr] at hv
  rw [(List.mem_replicate.mp hv).2]
  trivial⟩
/-- all of them are heaps, of the told sizes -/
theorem heas_wf {w b : Nat} (h1 : 1 ≤ w) (h6 : w ≤ 6) : ∀ (m : Nat) {ps : List Pr}, ps.length = m → StO w b ps → 1 + b * m ≤ 1000 → (heas w ps).length = m + 1 ∧ ∀ (i : Nat) (h : Hea), (heas w ps)[i]? = some h → WfH w h ∧ (szs ps)[i]? = some h.length ∧ h.length ≤ 1 + b * m
  | 0, ps, hl, _, _ => by
    cases List.eq_nil_of_length_eq_zero hl
    refine ⟨rfl, fun i h e => ?_⟩
    cases i with
    | zero =>
      cases (Option.some.inj e : [List.replicate w .non] = h)
      exact ⟨bare_wf h1 h6, rfl, by simp⟩
    | succ i => exact nomatch e
  | m + 1, ps, hl, ok, hb => by
    have hne : ps ≠ [] := fun e => by rw [e] at hl; exact nomatch hl
    obtain ⟨qs, p, rfl⟩ : ∃ qs p, ps = qs ++ [p] := ⟨ps.dropLast, ps.getLast hne, (List.dropLast_concat_getLast hne).symm⟩
    have hq : qs.length = m := by rw [List.length_append, List.length_singleton] at hl; omega
    have okq : StO w b qs := fun j q e => by
      have lt := (List.getElem?_eq_some_iff.mp e).1
      have z := ok j q (by rw [List.getElem?_append_left lt]; exact e)
      rw [List.take_append_of_le_length (Nat.le_of_lt lt)] at z
      exact z
    have hb2 : b * (m + 1) = b * m + b := Nat.mul_succ b m
    obtain ⟨i1, i2⟩ := heas_wf h1 h6 m hq okq (by omega)
    obtain ⟨p1, p2, p3⟩ := ok qs.length p (by rw [List.getElem?_append_right (Nat.le_refl _), Nat.sub_self]; rfl)
    rw [List.take_left] at p3
    obtain ⟨g, eg⟩ : ∃ g, (heas w qs)[p.1]? = some g := ⟨_, List.getElem?_eq_getElem (by omega)⟩
    obtain ⟨w1, w2, w3⟩ := i2 p.1 g eg
    have egd : (heas w qs).getD p.1 [] = g := by rw [List.getD_eq_getElem?_getD, eg]; rfl
    have esd : (szs qs).getD p.1 0 = g.length := by rw [List.getD_eq_getElem?_getD, w2]; rfl
    rw [esd] at p3
    obtain ⟨d1, d2⟩ := doD_wf w1 p3 (by omega)
    have al := aft_le (cs := p.2) (m := g.length)
    refine ⟨by rw [heas_add, List.length_append, i1]; rfl, fun i h e => ?_⟩
    rw [heas_add, egd] at e
    rw [szs_add, esd]
    have ls := szs_len (ps := qs)
    by_cases c : i < m + 1
    · rw [List.getElem?_append_left (by omega)] at e
      rw [List.getElem?_append_left (by omega)]
      obtain ⟨a1, a2, a3⟩ := i2 i h e
      exact ⟨a1, a2, by omega⟩
    · have hi := (List.getElem?_eq_some_iff.mp e).1
      rw [List.length_append, List.length_singleton] at hi
      have ei : i = m + 1 := by omega
      subst ei
      rw [List.getElem?_append_right (by omega), i1, Nat.sub_self] at e
      cases (Option.some.inj e : doD g p.2 = h)
      rw [List.getElem?_append_right (by omega), ls, hq, Nat.sub_self]
      exact ⟨d1, by rw [d2]; rfl, by omega⟩
end DL

/-! more of deeds: what is frozen, sizes -/
namespace DL
open PySem PySem.Spec L2
variable [LamT]
end DL

/-! heaps compared -/
namespace DL
open PySem PySem.Spec L2
variable [LamT]
section
variable {X : Cx}
end
end DL

/-! any values: what the checks of the package and of the laws tell of them; promises -/
namespace DL
open PySem PySem.Spec L2 Ln
variable [LamT]
mutual
/-- a value that owns nothing, of a kind that is looked at; no sequence in it is longer than n -/
def Pln (n : Nat) : D → Prop
  | .non => True
  | .bl _ => True
  | .int _ => True
  | .str _ => True
  | .tup ds => ds.length ≤ n ∧ Plns n ds
  | .fz ds => ds.length ≤ n ∧ Plns n ds
  | .fd _ _ => True
  | .pt _ => False
  | .lst _ => False
  | .dic _ _ => False
  | .obj _ _ _ => False
  | .op _ => False
  | .exc _ => False
  | .exd _ _ => False
  | .ow _ _ => False
  | .fw _ => False
  | .fo _ _ _ => False
def Plns (n : Nat) : List D → Prop
  | [] => True
  | d :: ds => Pln n d ∧ Plns n ds
end
theorem plns_iff {n : Nat} : ∀ {ds : List D}, Plns n ds ↔ ∀ d ∈ ds, Pln n d
  | [] => by simp [Plns]
  | d :: ds => by
    have ih := plns_iff (n := n) (ds := ds)
    simp [Plns, ih]
mutual
theorem Pln.imm {n : Nat} : ∀ {d : D}, Pln n d → Imm d
  | .non, _ => trivial
  | .bl _, _ => trivial
  | .int _, _ => trivial
  | .str _, _ => trivial
  | .tup ds, h => Plns.imms (show ds.length ≤ n ∧ Plns n ds from h).2
  | .fz ds, _ => trivial
  | .fd _ _, _ => trivial
  | .pt _, h => h.elim
  | .lst _, h => h.elim
  | .dic _ _, h => h.elim
  | .obj _ _ _, h => h.elim
  | .op _, h => h.elim
  | .exc _, h => h.elim
  | .exd _ _, h => h.elim
  | .ow _ _, h => h.elim
  | .fw _, h => h.elim
  | .fo _ _ _, h => h.elim
theorem Plns.imms {n : Nat} : ∀ {ds : List D}, Plns n ds → Imms ds
  | [], _ => trivial
  | d :: ds, h => ⟨Pln.imm h.1, Plns.imms h.2⟩
end
mutual
theorem Pln.mono {n m : Nat} (l : n ≤ m) : ∀ {d : D}, Pln n d → Pln m d
  | .non, _ => trivial
  | .bl _, _ => trivial
  | .int _, _ => trivial
  | .str _, _ => trivial
  | .tup ds, h => ⟨Nat.le_trans (show ds.length ≤ n ∧ Plns n ds from h).1 l, Plns.mono l (show ds.length ≤ n ∧ Plns n ds from h).2⟩
  | .fz ds, h => ⟨Nat.le_trans (show ds.length ≤ n ∧ Plns n ds from h).1 l, Plns.mono l (show ds.length ≤ n ∧ Plns n ds from h).2⟩
  | .fd _ _, _ => trivial
  | .pt _, h => h.elim
  | .lst _, h => h.elim
  | .dic _ _, h => h.elim
  | .obj _ _ _, h => h.elim
  | .op _, h => h.elim
  | .exc _, h => h.elim
  | .exd _ _, h => h.elim
  | .ow _ _, h => h.elim
  | .fw _, h => h.elim
  | .fo _ _ _, h => h.elim
theorem Plns.mono {n m : Nat} (l : n ≤ m) : ∀ {ds : List D}, Plns n ds → Plns m ds
  | [], _ => trivial
  | d :: ds, h => ⟨Pln.mono l h.1, Plns.mono l h.2⟩
end
/-! ### what the checks tell -/
/-- a whole number of at most eighteen digits, of any value -/
def isW : D → Bool
  | .int i => decide (-1000000000000000000 < i ∧ i < 1000000000000000000)
  | _ => false
/-- a number from l on -/
def isN (d : D) (l : Int) : Bool := match d with
  | .int i => isW (.int i) && decide (l ≤ i)
  | _ => false
/-- a pointer -/
def two (f : D → D → Bool) : D → Bool
  | .tup [a, b] => f a b
  | _ => false
/-! ### shapes -/
theorem shpN_parts {n : Nat} : ∀ {ds : List D}, PyData.canLayAll0 (toPys ds) = true → PyData.depthAll (toPys ds) ≤ n → ∀ d ∈ ds, ShpN n d
  | [], _, _, d, h => nomatch h
  | e :: ds, h1, h2, d, h => by
    rw [toPys, PyData.canLayAll0, Bool.and_eq_true] at h1
    rw [toPys, PyData.depthAll] at h2
    rcases List.mem_cons.mp h with q | q
    · rw [q]; exact ⟨h1.1, Nat.le_trans (Nat.le_max_left _ _) h2⟩
    · exact shpN_parts h1.2 (Nat.le_trans (Nat.le_max_right _ _) h2) d q
theorem ShpN.items {n : Nat} {ds : List D} (h : ShpN (n + 1) (.tup ds)) : ∀ d ∈ ds, ShpN n d := by
  have h1 := h.1
  have h2 := h.2
  rw [toPy, PyData.canLay0] at h1
  rw [toPy, PyData.depth] at h2
  exact shpN_parts h1 (by omega)
theorem ShpN.mono {n m : Nat} {d : D} (h : ShpN n d) (l : n ≤ m) : ShpN m d := ⟨h.1, Nat.le_trans h.2 l⟩
/-! ### classes of built-in values -/
theorem kit_si : kitB "str" "int" = some false := by decide +kernel
theorem kit_li : kitB "list" "int" = some false := by decide +kernel
theorem kit_di : kitB "dict" "int" = some false := by decide +kernel
theorem kit_ni : kitB "NoneType" "int" = some false := by decide +kernel
theorem kit_bt : kitB "bool" "tuple" = some false := by decide +kernel
theorem kit_st : kitB "str" "tuple" = some false := by decide +kernel
theorem kit_lt : kitB "list" "tuple" = some false := by decide +kernel
theorem kit_dt : kitB "dict" "tuple" = some false := by decide +kernel
theorem kit_nt : kitB "NoneType" "tuple" = some false := by decide +kernel
theorem kit_is : kitB "int" "str" = some false := by decide +kernel
theorem kit_bs : kitB "bool" "str" = some false := by decide +kernel
theorem kit_ts : kitB "tuple" "str" = some false := by decide +kernel
theorem kit_ls : kitB "list" "str" = some false := by decide +kernel
theorem kit_ds : kitB "dict" "str" = some false := by decide +kernel
theorem kit_ns : kitB "NoneType" "str" = some false := by decide +kernel
theorem kit_il : kitB "int" "list" = some false := by decide +kernel
theorem kit_bl : kitB "bool" "list" = some false := by decide +kernel
theorem kit_tl : kitB "tuple" "list" = some false := by decide +kernel
theorem kit_sl : kitB "str" "list" = some false := by decide +kernel
theorem kit_dl : kitB "dict" "list" = some false := by decide +kernel
theorem kit_nl : kitB "NoneType" "list" = some false := by decide +kernel
theorem kit_id : kitB "int" "dict" = some false := by decide +kernel
theorem kit_bd : kitB "bool" "dict" = some false := by decide +kernel
theorem kit_td : kitB "tuple" "dict" = some false := by decide +kernel
theorem kit_sd : kitB "str" "dict" = some false := by decide +kernel
theorem kit_ld : kitB "list" "dict" = some false := by decide +kernel
theorem kit_nd : kitB "NoneType" "dict" = some false := by decide +kernel
end DL

/-! promises of the checks, of any value -/
namespace DL
open PySem PySem.Spec L2 Ln
variable [LamT]
def ctv_is_whole : Ct := ⟨D, fun d ds => ds = [d] ∧ ∃ n, Pln n d, fun d r _ => r = .bl (isW d)⟩
def ctv_is_number : Ct := ⟨D × Int, fun a ds => ds = [a.1, .int a.2] ∧ ∃ n, Pln n a.1, fun a r _ => r = .bl (isN a.1 a.2)⟩
end DL

/-! changes and deeds of any value: what the checks tell; promises -/
namespace DL
open PySem PySem.Spec L2
def mkN : D → Nat
  | .tup (.str x :: _) => if x = mkS then 1 else 0
  | _ => 0
/-- how many records there are behind j changes -/
def cnt (m : Nat) (ds : List D) : Nat := ds.foldl (fun m d => m + mkN d) m
variable [LamT]
end DL

/-! odd values put together: no long sequence, a shape that == can be asked of -/
namespace DL
open PySem PySem.Spec L2 Ln
variable [LamT]
def Nic (n : Nat) (d : D) : Prop := Pln 1000 d ∧ ShpN n d
def Nics (n : Nat) (ds : List D) : Prop := ∀ d ∈ ds, Nic n d
theorem Nics.imms {n : Nat} {ds : List D} (h : Nics n ds) : Imms ds := Plns.imms (n := 1000) (plns_iff.mpr fun d hd => (h d hd).1)
theorem Nic.mono {n m : Nat} {d : D} (h : Nic n d) (l : n ≤ m) : Nic m d := ⟨h.1, h.2.mono l⟩
theorem Nics.pl {n : Nat} {ds : List D} (h : Nics n ds) : Plns 1000 ds := plns_iff.mpr fun d hd => (h d hd).1
section
variable {X : Cx}
end
section
variable {X : Cx} {a b : Expr} {E : EnvT} {k : Opd → EnvT → Prop} {pos : Pos}
end
end DL

/-! x[-1] = .. -/
namespace DL
open PySem PySem.Spec L2
variable [LamT]
section
variable {X : Cx} {n : List Nat} {e e1 e2 : Expr} {E : EnvT} {pos p p2 : Pos} {i : Nat} {x : Str} {d : D} {k : EnvT → Prop}
end
end DL

namespace Ln
/-! the line by a pile of versions: each pop puts the popped one's children on it, the youngest on top -/
/-- what lies on the pile when F is told and R is left -/
def pile (qs F R : List Int) : List Int := R.filter fun x => decide (x = 0) || decide (par qs x ∈ F)
end Ln

/-! ways up, depths, meets, in plain Lean; promises of the package's walks up -/
namespace DL
open PySem PySem.Spec L2 Ln
variable [LamT]
/-- the latest version of which both come -/
structure IsMeet (qs : List Int) (a b r : Int) : Prop where
  in1 : r ∈ way qs a
  in2 : r ∈ way qs b
  top : ∀ z, z ∈ way qs a → z ∈ way qs b → z ≤ r
theorem IsMeet.one {qs : List Int} {a b r s : Int} (h : IsMeet qs a b r) (k : IsMeet qs a b s) : r = s := by
  have := h.top s k.in1 k.in2
  have := k.top r h.in1 h.in2
  omega
end DL

/-! entries along a line, in plain Lean -/
namespace DL
open PySem PySem.Spec L2 Ln
variable [LamT]
structure EntOk (l : List Int) (ps : List (Int × HV)) : Prop where
  sub : (ps.map (·.1)).Sublist l
  ok : ∀ p ∈ ps, p.2.ok 1000000000000000000
end DL

/-! the shallowest version between two places of the line, in plain Lean -/
namespace DL
open PySem PySem.Spec L2 Ln
variable [LamT]
section
variable {qs : List Int}
end
end DL

/-! ways of fields through heaps, in plain Lean -/
namespace DL
open PySem PySem.Spec L2 Ln
variable [LamT]
end DL

/-! versions that stay: prefixes, ways, a story woven anew -/
namespace DL
open PySem PySem.Spec L2
variable [LamT]
theorem heas_pre {w : Nat} {ps : List Pr} : ∀ qs : List Pr, ∃ ys, heas w (ps ++ qs) = heas w ps ++ ys
  | [] => ⟨[], by rw [List.append_nil, List.append_nil]⟩
  | q :: qs => by
    obtain ⟨ys, e⟩ := heas_pre (w := w) (ps := ps ++ [q]) qs
    rw [List.append_assoc] at e
    exact ⟨_, by rw [show q :: qs = [q] ++ qs from rfl, e, heas_add, List.append_assoc]⟩
theorem heas_len {w : Nat} {ps : List Pr} : (heas w ps).length = ps.length + 1 := by
  suffices h : ∀ (ps : List Pr) (s : List Hea), (ps.foldl (fun s p => s ++ [doD (s.getD p.1 []) p.2]) s).length = s.length + ps.length by
    have := h ps [[List.replicate w .non]]
    rw [List.length_singleton] at this
    unfold heas
    omega
  intro ps
  induction ps with
  | nil => intro s; rfl
  | cons p ps ih =>
    intro s
    rw [List.foldl_cons, ih]
    simp only [List.length_append, List.length_cons, List.length_nil]
    omega
theorem heas_zero {w : Nat} {ps : List Pr} : (heas w ps)[0]? = some [List.replicate w .non] := by
  obtain ⟨ys, e⟩ := heas_pre (w := w) (ps := []) ps
  rw [List.nil_append] at e
  rw [e]
  rfl
/-- the heap behind a deed -/
theorem heas_at {w b : Nat} {ps : List Pr} (ok : StO w b ps) {v : Nat} {p : Pr} (hp : ps[v]? = some p) : (heas w ps)[v + 1]? = some (doD ((heas w ps).getD p.1 []) p.2) := by
  have lt := (List.getElem?_eq_some_iff.mp hp).1
  obtain ⟨p1, _, _⟩ := ok v p hp
  have e0 : ps = ps.take v ++ ([p] ++ ps.drop (v + 1)) := by
    have z : ps.drop v = p :: ps.drop (v + 1) := by
      rw [List.drop_eq_getElem_cons lt]
      have := (List.getElem?_eq_some_iff.mp hp).2
      rw [this]
    have z2 := List.take_append_drop v ps
    rw [z] at z2
    exact z2.symm
  obtain ⟨ys, e⟩ := heas_pre (w := w) (ps := ps.take v ++ [p]) (ps.drop (v + 1))
  rw [List.append_assoc, ← e0, heas_add] at e
  have l1 := heas_len (w := w) (ps := ps.take v)
  have l2 : (ps.take v).length = v := by rw [List.length_take]; omega
  have g : (heas w ps).getD p.1 [] = (heas w (ps.take v)).getD p.1 [] := by
    rw [e, List.append_assoc, List.getD_eq_getElem?_getD, List.getD_eq_getElem?_getD, List.getElem?_append_left (by omega)]
  rw [g, e, List.append_assoc, List.getElem?_append_right (by omega), l1, l2, Nat.sub_self]
  rfl
/-- what a version has -/
theorem heas_ok {w b : Nat} (h1 : 1 ≤ w) (h6 : w ≤ 6) {ps : List Pr} (ok : StO w b ps) (hb : 1 + b * ps.length ≤ 1000) {i : Nat} {h : Hea} (e : (heas w ps)[i]? = some h) : WfH w h ∧ (szs ps).getD i 0 = h.length ∧ h.length ≤ 1 + b * ps.length := by
  obtain ⟨_, l2⟩ := heas_wf h1 h6 ps.length rfl ok hb
  obtain ⟨a, b, c⟩ := l2 i h e
  exact ⟨a, by rw [List.getD_eq_getElem?_getD, b]; rfl, c⟩
theorem heas_get {w : Nat} {ps : List Pr} {i : Nat} (h : i ≤ ps.length) : ∃ g, (heas w ps)[i]? = some g := ⟨_, List.getElem?_eq_getElem (by rw [heas_len]; omega)⟩
theorem getD_of {α : Type} {xs : List α} {i : Nat} {x d : α} (h : xs[i]? = some x) : xs.getD i d = x := by rw [List.getD_eq_getElem?_getD, h]; rfl
/-- a deed can be done where it was done -/
theorem sto_deed {w b : Nat} (h1 : 1 ≤ w) (h6 : w ≤ 6) {ps : List Pr} (ok : StO w b ps) (hb : 1 + b * ps.length ≤ 1000) {v : Nat} {p : Pr} (hp : ps[v]? = some p) {g : Hea} (eg : (heas w ps)[p.1]? = some g) : WfH w g ∧ OkD w g.length p.2 ∧ p.2.length ≤ b ∧ g.length ≤ 1 + b * ps.length ∧ (heas w ps)[v + 1]? = some (doD g p.2) := by
  have lt := (List.getElem?_eq_some_iff.mp hp).1
  obtain ⟨p1, p2, p3⟩ := ok v p hp
  obtain ⟨a1, a2, a3⟩ := heas_ok h1 h6 ok hb eg
  have e := heas_at ok hp
  rw [getD_of eg] at e
  refine ⟨a1, ?_, p2, a3, e⟩
  have es : (szs (ps.take v)).getD p.1 0 = (szs ps).getD p.1 0 := by
    obtain ⟨ys, ey⟩ : ∃ ys, szs ps = szs (ps.take v) ++ ys := by
      have z : ∀ (qs : List Pr) (ps : List Pr), ∃ ys, szs (ps ++ qs) = szs ps ++ ys := by
        intro qs
        induction qs with
        | nil => intro ps; exact ⟨[], by rw [List.append_nil, List.append_nil]⟩
        | cons q qs ih =>
          intro ps
          obtain ⟨ys, e⟩ := ih (ps ++ [q])
          rw [List.append_assoc] at e
          exact ⟨_, by rw [show q :: qs = [q] ++ qs from rfl, e, szs_add, List.append_assoc]⟩
      have := z (ps.drop v) (ps.take v)
      rw [List.take_append_drop] at this
      exact this
    have l := szs_len (ps := ps.take v)
    have l2 : (ps.take v).length = v := by rw [List.length_take]; omega
    rw [ey, List.getD_eq_getElem?_getD, List.getD_eq_getElem?_getD, List.getElem?_append_left (by omega)]
  rw [es, a2] at p3
  exact p3
/-! ### ways -/
/-! ### what a deed leaves -/
/-! ### the same pairs in another sequence -/
structure Wov (w b : Nat) (ps fs : List Pr) (ks vs lf : List Nat) : Prop where
  lk : ks.length = fs.length + 1
  lv : vs.length = fs.length + 1
  kn : ks.Nodup
  ln : lf.Nodup
  ll : ∀ x ∈ lf, x < ps.length
  lm : ∀ x, x < ps.length → (x ∈ lf ↔ x + 1 ∉ ks)
  kz : 0 ∈ ks
  cnt : lf.length + fs.length = ps.length
  ok : StO w b fs
  he : ∀ (i k v : Nat), ks[i]? = some k → vs[i]? = some v → v ≤ fs.length ∧ (heas w fs)[v]? = (heas w ps)[k]?
theorem Wov.start {w b : Nat} {ps : List Pr} : Wov w b ps [] [0] [0] (List.range ps.length) where
  lk := rfl
  lv := rfl
  kn := by simp
  ln := List.nodup_range
  ll := fun x hx => List.mem_range.mp hx
  lm := fun x hx => ⟨fun _ => by simp, fun _ => List.mem_range.mpr hx⟩
  kz := by simp
  cnt := by simp
  ok := StO.nil
  he := fun i k v hk hv => by
    cases i with
    | zero =>
      cases (Option.some.inj hk : 0 = k)
      cases (Option.some.inj hv : 0 = v)
      exact ⟨Nat.le_refl _, heas_zero.trans heas_zero.symm⟩
    | succ i => exact nomatch hk
theorem Wov.step {w b : Nat} {ps fs : List Pr} {ks vs lf : List Nat} (h1 : 1 ≤ w) (h6 : w ≤ 6) (ok : StO w b ps) (hb : 1 + b * ps.length ≤ 1000) (W : Wov w b ps fs ks vs lf) {x i v : Nat} {p : Pr} (hx : x ∈ lf) (hp : ps[x]? = some p) (hk : ks[i]? = some p.1) (hv : vs[i]? = some v) :
    Wov w b ps (fs ++ [(v, p.2)]) (ks ++ [x + 1]) (vs ++ [fs.length + 1]) (lf.erase x) := by
  have lx := W.ll x hx
  have nx := (W.lm x lx).mp hx
  obtain ⟨v1, v2⟩ := W.he i p.1 v hk hv
  have px := (ok x p hp).1
  obtain ⟨g, eg⟩ := heas_get (w := w) (ps := ps) (i := p.1) (by omega)
  rw [eg] at v2
  obtain ⟨a1, a2, a3, a4, a5⟩ := sto_deed h1 h6 ok hb hp eg
  have cnt := W.cnt
  have lpos : 0 < lf.length := List.length_pos_of_mem hx
  have hbf : b * fs.length ≤ b * ps.length := Nat.mul_le_mul_left b (by omega)
  obtain ⟨_, c2, _⟩ := heas_ok h1 h6 W.ok (by omega) v2
  have lh := heas_len (w := w) (ps := fs)
  refine ⟨by rw [List.length_append, List.length_append, W.lk]; rfl, by rw [List.length_append, List.length_append, W.lv]; rfl, ?_, W.ln.erase x, fun y hy => W.ll y (List.mem_of_mem_erase hy), fun y hy => ?_, List.mem_append_left _ W.kz, ?_, ?_, ?_⟩
  · refine List.nodup_append.mpr ⟨W.kn, by simp, fun a ha c hc e => ?_⟩
    rw [List.mem_singleton.mp hc] at e
    exact nx (e ▸ ha)
  · rw [W.ln.mem_erase_iff, List.mem_append, List.mem_singleton]
    have := W.lm y hy
    constructor
    · rintro ⟨q1, q2⟩ (q | q)
      · exact this.mp q2 q
      · omega
    · intro q
      refine ⟨fun e => q (.inr (by rw [e])), this.mpr fun z => q (.inl z)⟩
  · rw [List.length_erase_of_mem hx, List.length_append, List.length_singleton]
    omega
  · exact W.ok.add v1 a3 (by rw [c2]; exact a2)
  · intro i' k' v' hk' hv'
    rw [List.length_append, List.length_singleton, heas_add]
    by_cases c : i' < fs.length + 1
    · rw [List.getElem?_append_left (by rw [W.lk]; exact c)] at hk'
      rw [List.getElem?_append_left (by rw [W.lv]; exact c)] at hv'
      obtain ⟨u1, u2⟩ := W.he i' k' v' hk' hv'
      refine ⟨by omega, ?_⟩
      rw [List.getElem?_append_left (by omega)]
      exact u2
    · have li := (List.getElem?_eq_some_iff.mp hk').1
      rw [List.length_append, W.lk, List.length_singleton] at li
      have ei : i' = fs.length + 1 := by omega
      subst ei
      rw [List.getElem?_append_right (by rw [W.lk]; exact Nat.le_refl _), W.lk, Nat.sub_self] at hk'
      rw [List.getElem?_append_right (by rw [W.lv]; exact Nat.le_refl _), W.lv, Nat.sub_self] at hv'
      cases (Option.some.inj hk' : x + 1 = k')
      cases (Option.some.inj hv' : fs.length + 1 = v')
      refine ⟨Nat.le_refl _, ?_⟩
      rw [List.getElem?_append_right (by omega), lh, Nat.sub_self, a5]
      show some (doD ((heas w fs).getD v []) p.2) = _
      rw [getD_of v2]
/-- there is always one whose parent is there -/
theorem Wov.some {w b : Nat} {ps fs : List Pr} {ks vs lf : List Nat} (ok : StO w b ps) (W : Wov w b ps fs ks vs lf) : ∀ (n x : Nat), x ≤ n → x ∈ lf → ∃ y ∈ lf, ∃ p, ps[y]? = some p ∧ p.1 ∈ ks := by
  intro n
  induction n with
  | zero =>
    intro x hn hx
    have lx := W.ll x hx
    have px := ok x _ (List.getElem?_eq_getElem lx)
    refine ⟨x, hx, _, List.getElem?_eq_getElem lx, ?_⟩
    rw [show ps[x].1 = 0 from by omega]
    exact W.kz
  | succ n ih =>
    intro x hn hx
    have lx := W.ll x hx
    have px := (ok x _ (List.getElem?_eq_getElem lx)).1
    by_cases z : ps[x].1 ∈ ks
    · exact ⟨x, hx, _, List.getElem?_eq_getElem lx, z⟩
    · have nz : ps[x].1 ≠ 0 := fun e => z (by rw [e]; exact W.kz)
      have m := W.lm (ps[x].1 - 1) (by omega)
      rw [Nat.sub_add_cancel (by omega)] at m
      exact ih (ps[x].1 - 1) (by omega) (m.mpr z)
/-- all are there at the end -/
theorem Wov.all {w b : Nat} {ps fs : List Pr} {ks vs lf : List Nat} (W : Wov w b ps fs ks vs lf) (hl : fs.length = ps.length) {v : Nat} (hv : v ≤ ps.length) : v ∈ ks := by
  have cnt := W.cnt
  have e : lf = [] := List.eq_nil_of_length_eq_zero (by omega)
  cases v with
  | zero => exact W.kz
  | succ v =>
    have m := W.lm v (by omega)
    rw [e] at m
    exact Classical.byContradiction fun z => nomatch m.mpr z
end DL

/-! isinstance(x, (S, T)); x.remove(k); {0: 0}; tuples of heaps compared -/
namespace DL
open PySem PySem.Spec L2
variable [LamT]
section
variable {X : Cx} {a e : Expr} {es : List Expr} {E : EnvT} {k : Opd → EnvT → Prop} {pos p pt apos : Pos} {i : Nat} {x : Str}
end
end DL

/-! a, b, c = .., things that own -/
namespace DL
open PySem PySem.Spec L2
variable [LamT]
section
variable {X : Cx} {n : List Nat} {E : EnvT}
theorem nd_step {G1 G F F1 : List Addr} (nd : (G1 ++ (G ++ F)).Nodup) (n1 : F1.Nodup) (m1 : ∀ a ∈ F1, a ∈ G1 ∨ a ∈ F) : (G ++ F1).Nodup := by
  obtain ⟨_, b1, b2⟩ := List.nodup_append.mp nd
  obtain ⟨c0, c1, c2⟩ := List.nodup_append.mp b1
  refine List.nodup_append.mpr ⟨c0, n1, fun a ha b hb e => ?_⟩
  subst e
  rcases m1 a hb with q | q
  · exact b2 a q a (List.mem_append_left _ ha) rfl
  · exact c2 a ha a q rfl
end
end DL

/-! d.get(k, x) with int keys and int values; (t1, t2) = .. with any targets; is True -/
namespace DL
open PySem PySem.Spec L2
variable [LamT]
theorem valV_ints {ns vs : List Int} {m : Int} (nd : ns.Nodup) (hl : ns.length = vs.length) : valV ((ns.map (Sum.inl : Int → Key)).zip (vs.map V.int)) (Sum.inl m) = if m ∈ ns then some (.int (vs.getD (ns.idxOf m) 0)) else none := by
  by_cases q : m ∈ ns
  · rw [if_pos q]
    have hi := List.idxOf_lt_length_of_mem q
    refine valV_zip (j := ns.idxOf m) (List.Pairwise.map _ (fun a b h e => h (Sum.inl.inj e)) nd) ?_ ?_
    · rw [List.getElem?_map, (idxOf_first q).1]
      rfl
    · rw [List.getElem?_map, List.getD_eq_getElem?_getD, List.getElem?_eq_getElem (by omega)]
      rfl
  · rw [if_neg q]
    exact valV_none fun z => by
      obtain ⟨y, hy, e⟩ := List.mem_map.mp z
      cases e
      exact q hy
section
variable {X : Cx} {e f : Expr} {E : EnvT} {k : Opd → EnvT → Prop} {p cpos apos : Pos} {i : Nat} {x : Str}
theorem wo_dgetD (hu : X.A.units + 1 < cLine) (hN : X.N[i]? = some x) (hE : ∃ k0 d0, E[i]? = some (some (.dic k0 d0)))
    (h : WO X e E fun o1 E1 => WO X f E1 fun o2 E2 => ∃ (ns vs : List Int) (m z : Int), o1.get E2 = some (.int m) ∧ o2.get E2 = some (.int z) ∧ E2[i]? = some (some (.dic (ns.map Sum.inl) (vs.map D.int))) ∧ ns.Nodup ∧ ns.length = vs.length ∧ k (.val (.int (if m ∈ ns then vs.getD (ns.idxOf m) 0 else z))) E2)
    (hm : M2 X (.Name x p) "get" apos e f cpos) (hv : Vis X.env.scope x) (hdb : (x == ("__debug__" : Str)) = false) (hcd : (x == ("__classdict__" : Str)) = false) :
    WO X (.Call (.Attribute (.Name x p) "get" apos) [e, f] [] cpos) E k := by
  intro Z H σ F Q he hk'
  obtain ⟨k0, d0, hE⟩ := hE
  obtain ⟨a, vs0, Fd0, R0, hv1, hH0, _⟩ := he.dic hE
  refine wpE_by (pe_dget2 hu (pe_slot hN hv hdb hcd) pe_w pe_w hm) ⟨_, hv1, a, rfl, .inl ⟨_, .inl hH0⟩, ?_⟩
  refine h Z H σ F _ he fun o1 E1 Z1 H1 F1 G1 w1 k1 f1 r1 => ?_
  refine k1 Z1 H1 σ F1 _ f1.env fun o2 E2 Z2 H2 F2 G2 w2 ⟨ns, vs, m, z, g1, g2, hE2, nd, hl, kk⟩ f2 r2 => ?_
  have r1' := r1.step f2.st (f1.off r1.mem f2)
  obtain ⟨_, rm, _⟩ := r1'.use f2.env g1
  obtain ⟨_, rz, _⟩ := r2.use f2.env g2
  cases rm
  cases rz
  obtain ⟨a2, vs2, Fd, R, hv2, hH, hl2, rs, hR, hp⟩ := f2.env.dic hE2
  rw [hv1] at hv2
  cases hv2
  have ev := rs.ints
  subst ev
  refine ⟨_, DGet.k (k := Sum.inl m) hH, ?_⟩
  rw [valV_ints nd hl]
  have ff := (f1.join r1.mem f2).nil
  by_cases q : m ∈ ns
  · rw [if_pos q] at kk ⊢
    exact hk' _ E2 Z2 H2 F2 [] _ kk ff (.int _)
  · rw [if_neg q] at kk ⊢
    exact hk' _ E2 Z2 H2 F2 [] _ kk ff (.int _)
end
section
variable {X : Cx} {n : List Nat} {E : EnvT}
end
section
variable {X : Cx}
end
end DL

/-! since when a way leads there, in plain Lean -/
namespace DL
open PySem PySem.Spec L2 Ln
variable [LamT]
end DL

/-! what more checks tell of any value; promises -/
namespace DL
open PySem PySem.Spec L2 Ln
variable [LamT]
end DL

/-! list(enumerate(t)), t a tuple -/
namespace DL
open PySem PySem.Spec L2
variable [LamT]
section
variable {prog : Program} {w : World} {A : Around} {E : Value → Shared → Prop} {s : Shared}
/-- where the enumerate at en stands, whatever it gave out -/
def EnAt (h : Heap) (en ti : Addr) (j : Nat) : Prop := (∃ old, IsEnum h en ti j old) ∨ ∃ old T f ob, IsEnumHeld h en ti j old T f ∧ h.get? T = some ob ∧ T ≠ en ∧ T ≠ ti
end
section
open PyProof.Rows
variable {X : Cx} {pins : List (Addr × Obj)} {σ : L2.St}
theorem EnAt.keep {h h2 : Heap} {en ti : Addr} {j : Nat} (he : EnAt h en ti j) (k : ∀ u, h.get? en = some u → h2.get? en = some u) (th : ∀ b u, h.get? b = some u → ∃ v, h2.get? b = some v) : EnAt h2 en ti j := by
  rcases he with ⟨old, he⟩ | ⟨old, T, f, ob, he, hT, r⟩
  · exact .inl ⟨old, k _ he⟩
  · obtain ⟨v, hv⟩ := th T ob hT
    exact .inr ⟨old, T, f, v, k _ he, hv, r⟩
end
section
variable {X : Cx} {E : EnvT} {k : Opd → EnvT → Prop} {a : Expr} {pos pos2 p p2 : Pos}
end
end DL

/-! objects with methods: fields read, lists of fields opened into slots of their own, methods called -/
namespace DL
open PySem PySem.Spec L2
variable [LamT]
open PyProof.Rows (envOfC)
theorem lk_zip {f : Str} {v : V} : ∀ {fs : List Str} {vs : List V} {j : Nat}, fs.Nodup → fs[j]? = some f → vs[j]? = some v → (fs.zip vs).lookup f = some v
  | [], _, _, _, h, _ => by simp at h
  | _ :: _, [], _, _, _, h => by simp at h
  | g :: fs, w :: vs, 0, _, h1, h2 => by
    have e1 : g = f := by simpa using h1
    have e2 : w = v := by simpa using h2
    subst e1 e2
    rw [List.zip_cons_cons, List.lookup_cons_self]
  | g :: fs, w :: vs, j + 1, nd, h1, h2 => by
    have h1' : fs[j]? = some f := by simpa using h1
    have ne : ¬ f = g := fun e => (List.nodup_cons.mp nd).1 (by rw [← e]; exact List.mem_of_getElem? h1')
    rw [List.zip_cons_cons, List.lookup_cons, beq_eq_false_iff_ne.mpr ne]
    exact lk_zip (List.nodup_cons.mp nd).2 h1' (by simpa using h2)
theorem lk_none {f : Str} : ∀ {fs : List Str} {vs : List V}, f ∉ fs → (fs.zip vs).lookup f = none
  | [], _, _ => rfl
  | _ :: _, [], _ => rfl
  | g :: fs, w :: vs, h => by
    have ne : ¬ f = g := fun e => h (by rw [e]; exact List.mem_cons_self)
    rw [List.zip_cons_cons, List.lookup_cons, beq_eq_false_iff_ne.mpr ne]
    exact lk_none fun q => h (List.mem_cons_of_mem _ q)
theorem put_zip {f : Str} {v v0 : V} : ∀ {fs : List Str} {vs : List V} {j : Nat}, fs.Nodup → fs[j]? = some f → vs[j]? = some v0 → putF f v (fs.zip vs) = fs.zip (vs.set j v)
  | [], _, _, _, h, _ => by simp at h
  | _ :: _, [], _, _, _, h => by simp at h
  | g :: fs, w :: vs, 0, _, h1, h2 => by
    have e1 : g = f := by simpa using h1
    rw [List.zip_cons_cons, List.set_cons_zero, List.zip_cons_cons]
    show (if g = f then _ else _) = _
    rw [if_pos e1]
  | g :: fs, w :: vs, j + 1, nd, h1, h2 => by
    have h1' : fs[j]? = some f := by simpa using h1
    have ne : ¬ g = f := fun e => (List.nodup_cons.mp nd).1 (by rw [e]; exact List.mem_of_getElem? h1')
    rw [List.zip_cons_cons, List.set_cons_succ, List.zip_cons_cons]
    show (if g = f then _ else _) = _
    rw [if_neg ne, put_zip (List.nodup_cons.mp nd).2 h1' (by simpa using h2)]
theorem put_new {f : Str} {v : V} : ∀ {fs : List Str} {vs : List V}, f ∉ fs → fs.length = vs.length → putF f v (fs.zip vs) = (fs ++ [f]).zip (vs ++ [v])
  | [], [], _, _ => rfl
  | [], _ :: _, _, h => by simp at h
  | _ :: _, [], _, h => by simp at h
  | g :: fs, w :: vs, h, hl => by
    have ne : ¬ g = f := fun e => h (by rw [e]; exact List.mem_cons_self)
    rw [List.cons_append, List.cons_append, List.zip_cons_cons, List.zip_cons_cons]
    show (if g = f then _ else _) = _
    rw [if_neg ne, put_new (fun q => h (List.mem_cons_of_mem _ q)) (by simpa using hl)]
/-- what is known of a class and its objects' fields -/
structure Ob (K : PySem.W.Frag) (C : Addr) (fs : List Str) : Prop where
  cls : Cls K C
  no : ∀ f ∈ fs, NoAttr K C f
  nd : fs.Nodup
  sm : fs.length < 900
section
variable {K : PySem.W.Frag} {Z Z1 Z2 Z' : Addr → Prop} {H H1 H2 H' : Hp} {F F1 F2 F' G Gt G1 G2 G' R Fd Fd' : List Addr} {σ : Sl} {E E1 E2 E' : EnvT} {d d0 d1 d2 : D} {v v1 v2 : V} {ds es ds' : List D} {vs vs' : List V} {a b C : Addr} {i j : Nat} {fs : List Str}
theorem EnvS.obj (e : EnvS K Z H E σ F) (hE : E[i]? = some (some (.obj C fs ds))) : ∃ a dx vs Fd R, σ[i]? = some (some (.ref a)) ∧ H a = some (.ins C dx (fs.zip vs)) ∧ fs.length = vs.length ∧ Reps K Z H ds vs Fd ∧ EnvR K Z H (E.set i none) σ R ∧ F.Perm ((a :: Fd) ++ R) := by
  obtain ⟨v, G, R, h1, h2, h3, h4⟩ := e.r.get hE
  cases h2 with
  | obj hl hk rs => exact ⟨_, _, _, _, R, h1, hl, hk, rs, h3, h4⟩
theorem EnvS.ow (e : EnvS K Z H E σ F) (hE : E[i]? = some (some (.ow a ds))) : ∃ vs Fd R, σ[i]? = some (some (.ref a)) ∧ H a = some (.lst vs) ∧ Reps K Z H ds vs Fd ∧ EnvR K Z H (E.set i none) σ R ∧ F.Perm ((a :: Fd) ++ R) := by
  obtain ⟨v, G, R, h1, h2, h3, h4⟩ := e.r.get hE
  cases h2 with
  | ow hl rs => exact ⟨_, _, R, h1, hl, rs, h3, h4⟩
theorem ins_nt {dx : Addr} {kvs : List (Str × V)} (h : H a = some (.ins C dx kvs)) : NX H a := ⟨(fun xs q => by rcases q with q | ⟨o, q⟩ <;> (rw [h] at q; cases q)), (fun ps q => by rw [h] at q; cases q), fun φ q => by rw [h] at q; cases q⟩
/-- one of some, taken out; another one laid in its place -/
theorem Reps.pull : ∀ {ds : List D} {vs : List V} {F : List Addr} {j : Nat} {d : D}, Reps K Z H ds vs F → ds[j]? = some d →
    ∃ v G R, vs[j]? = some v ∧ Rep K Z H d v G ∧ (∀ d' v' G', Rep K Z H d' v' G' → ∃ F', Reps K Z H (ds.set j d') (vs.set j v') F' ∧ F'.Perm (G' ++ R)) ∧ F.Perm (G ++ R)
  | _, _, _, _, _, .nil, h => by simp at h
  | _, _, _, 0, _, .cons (v := v) (F := F0) (G := G0) r rs, h => by
    have e := Option.some.inj (by simpa using h)
    subst e
    exact ⟨v, F0, G0, rfl, r, fun d' v' G' r' => ⟨_, .cons r' rs, List.Perm.refl _⟩, List.Perm.refl _⟩
  | _, _, _, j + 1, _, .cons (v := w) (F := F0) (G := G0) r rs, h => by
    obtain ⟨v, G, R, h1, h2, h3, h4⟩ := Reps.pull rs (by simpa using h)
    have sw : ∀ {A B : List Addr}, A.Perm (B ++ R) → (F0 ++ A).Perm (B ++ (F0 ++ R)) := fun {A B} p => by
      refine (List.Perm.append_left F0 p).trans ?_
      rw [← List.append_assoc, ← List.append_assoc]
      exact List.Perm.append_right _ List.perm_append_comm
    refine ⟨v, G, F0 ++ R, by simpa using h1, h2, fun d' v' G' r' => ?_, sw h4⟩
    obtain ⟨F', q1, q2⟩ := h3 d' v' G' r'
    exact ⟨_, .cons r q1, sw q2⟩
end
section
variable {X : Cx} {n : List Nat} {E : EnvT} {k : Opd → EnvT → Prop} {ks : KS} {sts : List Stmt} {pos pos' apos p : Pos} {i j g : Nat} {x y f : Str} {e o : Expr} {es : List Expr} {ds us : List D} {d : D} {a C : Addr} {fs : List Str}
/-- self.f, a thing that owns nothing -/
theorem wo_fldI (ob : Ob X.K C fs) (hN : X.N[i]? = some x) (hE : E[i]? = some (some (.obj C fs ds))) (hj : fs[j]? = some f) (hd : ds[j]? = some d) (hi : Imm d) (h : k (.val d) E)
    (hb : attributeBase (.Name x p) f X.env (eval (.Name x p) X.env) = eval (.Name x p) X.env := by rfl)
    (hv : Vis X.env.scope x := by first | exact Or.inl rfl | exact Or.inr (Or.inl rfl) | exact Or.inr (Or.inr rfl)) (hdb : (x == ("__debug__" : Str)) = false := by decide) (hcd : (x == ("__classdict__" : Str)) = false := by decide) :
    WO X (.Attribute (.Name x p) f pos) E k := by
  intro Z H σ F Q he hk'
  obtain ⟨a, dx, vs, Fd, R, hv1, hH, hl, rs, hR, hp⟩ := he.obj hE
  obtain ⟨v, G', hvj, rv, _⟩ := rs.get hd
  exact wpE_by (pe_fld (pe_var hN hv hdb hcd) hb) ⟨_, hv1, a, C, dx, _, v, rfl, hH, ob.cls, ob.no f (List.mem_of_getElem? hj), lk_zip ob.nd hj hvj, hk' _ E Z H F [] v h (Fin.refl he) (rv.nils hi)⟩
/-- self.f, a list that was opened into the slot g -/
theorem wo_fldA (g : Nat) (ob : Ob X.K C fs) (hN : X.N[i]? = some x) (hE : E[i]? = some (some (.obj C fs ds))) (hj : fs[j]? = some f) (hd : ds[j]? = some (.op (.ref a))) (hg : E[g]? = some (some (.ow a us))) (h : k (.bor g) E)
    (hb : attributeBase (.Name x p) f X.env (eval (.Name x p) X.env) = eval (.Name x p) X.env := by rfl)
    (hv : Vis X.env.scope x := by first | exact Or.inl rfl | exact Or.inr (Or.inl rfl) | exact Or.inr (Or.inr rfl)) (hdb : (x == ("__debug__" : Str)) = false := by decide) (hcd : (x == ("__classdict__" : Str)) = false := by decide) :
    WO X (.Attribute (.Name x p) f pos) E k := by
  intro Z H σ F Q he hk'
  obtain ⟨b, dx, vs, Fd, R, hv1, hH, hl, rs, hR, hp⟩ := he.obj hE
  obtain ⟨v, G', hvj, rv, _⟩ := rs.get hd
  cases rv
  obtain ⟨_, _, _, hg1, _⟩ := he.ow hg
  exact wpE_by (pe_fld (pe_var hN hv hdb hcd) hb) ⟨_, hv1, b, C, dx, _, _, rfl, hH, ob.cls, ob.no f (List.mem_of_getElem? hj), lk_zip ob.nd hj hvj, hk' (.bor g) E Z H F [] _ h (Fin.refl he) ⟨hg1, rfl⟩⟩
/-- another name of that list -/
theorem wo_nameA (g : Nat) (hN : X.N[i]? = some x) (hE : E[i]? = some (some (.op (.ref a)))) (hg : E[g]? = some (some (.ow a us))) (h : k (.bor g) E)
    (hv : Vis X.env.scope x := by first | exact Or.inl rfl | exact Or.inr (Or.inl rfl) | exact Or.inr (Or.inr rfl)) (hdb : (x == ("__debug__" : Str)) = false := by decide) (hcd : (x == ("__classdict__" : Str)) = false := by decide) :
    WO X (.Name x pos) E k := by
  intro Z H σ F Q he hk'
  obtain ⟨v, G, R, h1, h2, _⟩ := he.r.get hE
  cases h2
  obtain ⟨_, _, _, hg1, _⟩ := he.ow hg
  exact wpE_by (pe_var hN hv hdb hcd) ⟨_, h1, hk' (.bor g) E Z H F [] _ h (Fin.refl he) ⟨hg1, rfl⟩⟩
theorem wpSs_gh {D : Ends} {σ : Sl} {H : Hp} {o : Option V} (hN : X.N[g]? = some y) (hy : ¬ Vis X.env.scope y) (h : wpSs X sts D (σ.set g o) H) : wpSs X sts D σ H := fun pins s I => h pins s
  { I with
    loc := by
      obtain ⟨m, h1, h2⟩ := I.loc
      refine ⟨m, h1, fun i x v e1 e2 e3 => ?_⟩
      by_cases q : g = i
      · subst q
        rw [hN] at e1
        cases e1
        exact absurd e3 hy
      · rw [List.getElem?_set_ne q] at e2
        exact h2 i x v e1 e2 e3
    len := by rw [List.length_set]; exact I.len }
/-- a field's list opened into a slot that has no name in the text -/
theorem wss_open (i j g : Nat) (hE : E[i]? = some (some (.obj C fs ds))) (hd : ds[j]? = some (.lst us)) (hg : E[g]? = some none) (hN : X.N[g]? = some y) (hy : ¬ Vis X.env.scope y) (hn : g ∉ n) (hig : i ≠ g)
    (h : ∀ a : Addr, WSs X n sts ((E.set i (some (.obj C fs (ds.set j (.op (.ref a)))))).set g (some (.ow a us))) ks) : WSs X n sts E ks := by
  intro Z H σ F D he hk
  obtain ⟨a, dx, vs, Fd, R, hv1, hH, hl, rs, hR, hp⟩ := he.obj hE
  obtain ⟨w, G, R2, q1, q2, q3, q4⟩ := rs.pull hd
  cases q2 with
  | lst hb ru =>
    rename_i b ws G0
    obtain ⟨F', r1, r2⟩ := q3 (.op (.ref b)) (.ref b) [] (.op _)
    have ev : vs.set j (.ref b) = vs := by
      obtain ⟨hlj, hw⟩ := List.getElem?_eq_some_iff.mp q1
      rw [← hw]
      exact List.set_getElem_self hlj
    rw [ev] at r1
    rw [List.nil_append] at r2
    have hi : i < E.length := (List.getElem?_eq_some_iff.mp hE).1
    have hgl : g < E.length := (List.getElem?_eq_some_iff.mp hg).1
    have hσ : g < σ.length := by rw [← he.r.len]; exact hgl
    obtain ⟨F1, e1, p1⟩ := hR.put (i := i) (by simp [hi]) hv1 (Rep.obj hH hl r1)
    rw [List.set_set] at e1
    obtain ⟨R3, e2, s2⟩ := e1.drop g (some (.ref b))
    obtain ⟨F2, e3, p3⟩ := e2.put (i := g) (d := .ow b us) (v := .ref b) (by simp [hgl]) (by simp [hσ]) (Rep.ow hb ru)
    rw [List.set_set] at e3
    have pF : F.Perm ((b :: G0) ++ ((a :: F') ++ R)) := by
      refine hp.trans ?_
      have p4 : ((a :: Fd) ++ R).Perm ((a :: ((b :: G0) ++ R2)) ++ R) := List.Perm.append_right _ (List.Perm.cons _ q4)
      have p5 : ((a :: ((b :: G0) ++ F')) ++ R).Perm ((b :: G0) ++ ((a :: F') ++ R)) := by
        have : (a :: ((b :: G0) ++ F')).Perm ((b :: G0) ++ (a :: F')) := List.perm_middle.symm
        refine (List.Perm.append_right R this).trans ?_
        rw [List.append_assoc]
      exact p4.trans ((List.Perm.append_right _ (List.Perm.cons _ (List.Perm.append_left _ r2.symm))).trans p5)
    have nF := pF.nodup_iff.mp he.nd
    have subF : ∀ z ∈ R3, z ∈ (a :: F') ++ R := fun z hz => p1.mem_iff.mp (s2.subset hz)
    have inF : ∀ z ∈ F2, z ∈ F := fun z hz => by
      rcases List.mem_append.mp (p3.mem_iff.mp hz) with q | q
      · exact pF.mem_iff.mpr (List.mem_append_left _ q)
      · exact pF.mem_iff.mpr (List.mem_append_right _ (subF z q))
    have n1 : F1.Nodup := p1.nodup_iff.mpr (List.nodup_append.mp nF).2.1
    have nd2 : F2.Nodup := p3.nodup_iff.mpr (List.nodup_append.mpr ⟨(List.nodup_append.mp nF).1, s2.nodup n1, fun z hz t ht q => (List.nodup_append.mp nF).2.2 z hz t (subF t ht) q⟩)
    have env : EnvS X.K Z H ((E.set i (some (.obj C fs (ds.set j (.op (.ref b)))))).set g (some (.ow b us))) (σ.set g (some (.ref b))) F2 := ⟨e3, nd2, fun z hz => he.nz z (inF z hz), he.zt⟩
    exact wpSs_gh hN hy (h b Z H _ F2 D env (hk.after ⟨env, nd2, (fun z hz => nomatch hz), Stp.refl.sub inF, Pin.set hn⟩))
/-- laid back into the object -/
theorem wss_close (i j g : Nat) (hE : E[i]? = some (some (.obj C fs ds))) (hd : ds[j]? = some (.op (.ref a))) (hg : E[g]? = some (some (.ow a us))) (hig : i ≠ g)
    (h : WSs X n sts ((E.set g none).set i (some (.obj C fs (ds.set j (.lst us))))) ks) : WSs X n sts E ks := by
  intro Z H σ F D he hk
  obtain ⟨ws, G0, R, hg1, hb, ru, hR, hp⟩ := he.ow hg
  obtain ⟨v, G1, R1, hv1, ro, hR1, hp1⟩ := hR.get (i := i) (d := .obj C fs ds) (by rw [List.getElem?_set_ne (Ne.symm hig)]; exact hE)
  cases ro with
  | obj hH hl rs =>
    rename_i b dx vs Fd
    obtain ⟨w, G, R2, q1, q2, q3, q4⟩ := rs.pull hd
    cases q2
    obtain ⟨F', r1, r2⟩ := q3 (.lst us) (.ref a) (a :: G0) (.lst hb ru)
    have ev : vs.set j (.ref a) = vs := by
      obtain ⟨hlj, hw⟩ := List.getElem?_eq_some_iff.mp q1
      rw [← hw]
      exact List.set_getElem_self hlj
    rw [ev] at r1
    have hi : i < (E.set g none).length := by rw [List.length_set]; exact (List.getElem?_eq_some_iff.mp hE).1
    obtain ⟨F1, e1, p1⟩ := hR1.put (i := i) (by simp [(List.getElem?_eq_some_iff.mp hE).1]) hv1 (Rep.obj hH hl r1)
    rw [List.set_set] at e1
    have pF : F1.Perm F := by
      refine p1.trans (List.Perm.symm (hp.trans ?_))
      have a1 : ((a :: G0) ++ R).Perm ((a :: G0) ++ ((b :: Fd) ++ R1)) := List.Perm.append_left _ hp1
      have a2 : ((a :: G0) ++ ((b :: Fd) ++ R1)).Perm ((b :: ((a :: G0) ++ Fd)) ++ R1) := by
        have : ((a :: G0) ++ (b :: Fd)).Perm (b :: ((a :: G0) ++ Fd)) := List.perm_middle
        rw [← List.append_assoc]
        exact List.Perm.append_right _ this
      have a3 : ((a :: G0) ++ Fd).Perm F' := (List.Perm.append_left _ (by simpa using q4)).trans r2.symm
      exact a1.trans (a2.trans (List.Perm.append_right _ (List.Perm.cons _ a3)))
    have nd2 := pF.nodup_iff.mpr he.nd
    have env : EnvS X.K Z H ((E.set g none).set i (some (.obj C fs (ds.set j (.lst us))))) σ F1 := ⟨e1, nd2, fun z hz => he.nz z (pF.mem_iff.mp hz), he.zt⟩
    exact h Z H σ F1 D env (hk.after ⟨env, nd2, (fun z hz => nomatch hz), Stp.refl.sub fun z hz => pF.mem_iff.mp hz, Pin.refl⟩)
end
end DL

/-! objects with methods: fields written, methods called, objects made -/
namespace DL
open PySem PySem.Spec L2
variable [LamT]
open PyProof.Rows (envOfC)
section
variable {K : PySem.W.Frag} {Z Z1 Z2 Z' : Addr → Prop} {H H1 H2 H' : Hp} {F F1 F2 F' G Gt G1 G2 G' R Fd Fd' Gs : List Addr} {σ : Sl} {E E1 E2 E' : EnvT} {d d0 d1 d2 : D} {v v0 v1 v2 : V} {ds es ds' : List D} {vs vs' : List V} {a b C : Addr} {i j : Nat} {fs : List Str}
theorem EnvS.chgO (e : EnvS K Z H E σ F) (hE : E[i]? = some (some (.ow a ds))) (hv : σ[i]? = some (some (.ref a))) (hl : H a = some (.lst vs)) (rs : Reps K Z H ds vs Fd) (hR : EnvR K Z H (E.set i none) σ R) (hp : F.Perm ((a :: Fd) ++ R))
    (nt : (Gt ++ F).Nodup) (nzt : ∀ x ∈ Gt, ¬ Z x) (hs : ∀ x ∈ Fd', x ∈ Fd ∨ x ∈ Gt) (hn : (a :: Fd').Nodup) (rs' : Reps K Z H ds' vs' Fd') :
    ∃ F', EnvS K Z (L2.upd H a (.lst vs')) (E.set i (some (.ow a ds'))) σ F' ∧ Stp Z H (Gt ++ F) Z (L2.upd H a (.lst vs')) F' := by
  have haF : a ∈ F := hp.mem_iff.mpr (List.mem_append_left _ List.mem_cons_self)
  have s1 : Stp Z H [a] Z (L2.upd H a (.lst vs')) [a] := Stp.upd (by simp) (e.nz a haF) (lst_nt hl)
  exact e.chg hE hv (.ow hl rs) hR hp (lst_nt hl) nt nzt hs hn fun _ => .ow upd_same (rs'.step s1 fun x hx q => by
    rw [List.mem_singleton.mp q] at hx
    exact (List.nodup_cons.mp hn).1 hx)
/-- what stays apart when owned things are laid into a slot's object -/
theorem apart_in (nF : F.Perm ((a :: Fd) ++ R)) (nd : (G ++ F).Nodup) : (a :: (Fd ++ G)).Nodup := by
  have dis := (List.nodup_append.mp nd).2.2
  have nF' := nF.nodup_iff.mp (List.nodup_append.mp nd).2.1
  have n1 := (List.nodup_append.mp nF').1
  refine List.nodup_cons.mpr ⟨fun hm => ?_, List.nodup_append.mpr ⟨(List.nodup_cons.mp n1).2, (List.nodup_append.mp nd).1, fun y hy z hz q => ?_⟩⟩
  · rcases List.mem_append.mp hm with m | m
    · exact (List.nodup_cons.mp n1).1 m
    · exact dis a m a (nF.mem_iff.mpr (List.mem_append_left _ List.mem_cons_self)) rfl
  · subst q
    exact dis y hz y (nF.mem_iff.mpr (List.mem_append_left _ (List.mem_cons_of_mem _ hy))) rfl
theorem EnvS.chgF {dx : Addr} {fs' : List Str} {kvs : List (Str × V)} (e : EnvS K Z H E σ F) (hE : E[i]? = some (some (.obj C fs ds))) (hv : σ[i]? = some (some (.ref a))) (hH : H a = some (.ins C dx kvs)) (hk : kvs = fs.zip vs) (hl : fs.length = vs.length) (rs : Reps K Z H ds vs Fd) (hR : EnvR K Z H (E.set i none) σ R) (hp : F.Perm ((a :: Fd) ++ R))
    (nt : (Gt ++ F).Nodup) (nzt : ∀ x ∈ Gt, ¬ Z x) (hs : ∀ x ∈ Fd', x ∈ Fd ∨ x ∈ Gt) (hn : (a :: Fd').Nodup) (hl' : fs'.length = vs'.length) (rs' : Reps K Z H ds' vs' Fd') :
    ∃ F', EnvS K Z (L2.upd H a (.ins C dx (fs'.zip vs'))) (E.set i (some (.obj C fs' ds'))) σ F' ∧ Stp Z H (Gt ++ F) Z (L2.upd H a (.ins C dx (fs'.zip vs'))) F' := by
  subst hk
  have haF : a ∈ F := hp.mem_iff.mpr (List.mem_append_left _ List.mem_cons_self)
  have s1 : Stp Z H [a] Z (L2.upd H a (.ins C dx (fs'.zip vs'))) [a] := Stp.upd (by simp) (e.nz a haF) (ins_nt hH)
  exact e.chg hE hv (.obj hH hl rs) hR hp (ins_nt hH) nt nzt hs hn fun _ => .obj upd_same hl' (rs'.step s1 fun x hx q => by
    rw [List.mem_singleton.mp q] at hx
    exact (List.nodup_cons.mp hn).1 hx)
end
section
variable {X : Cx} {n : List Nat} {E : EnvT} {k : Opd → EnvT → Prop} {ks : KS} {sts : List Stmt} {pos pos' apos p : Pos} {i j g : Nat} {x y f : Str} {e o : Expr} {es : List Expr} {ds us : List D} {d : D} {a C : Addr} {fs : List Str}
/-- o.append(e), o a list at a known address in the slot g -/
theorem wo_appendP (g : Nat) {us0 : List D} (hE : E[g]? = some (some (.ow a us0))) (ho : WO X o E fun o1 E1 => o1 = .bor g ∧ E1 = E)
    (h : WO X e E fun o1 E1 => ∃ d us, o1 = .val d ∧ E1[g]? = some (some (.ow a us)) ∧ us.length < 100000 ∧ k (.val .non) (E1.set g (some (.ow a (us ++ [d])))))
    (hb : PE X (.Call (.Attribute o "append" apos) [e] [] pos) (tBM X.K "list" rAppend (wpE X o) (wpA X [e]))) (hs : starEach [e] X.env = (false, eval e X.env) :: starEach [] X.env := by rfl) :
    WO X (.Call (.Attribute o "append" apos) [e] [] pos) E k := by
  intro Z H σ F Q he hk
  refine wpE_by hb ?_
  refine ho Z H σ F _ he fun o1 E1 Z1 H1 F1 G v ⟨eo, eE⟩ f1 r1 => ?_
  subst eo eE
  obtain ⟨hv, eG⟩ := r1
  subst eG
  obtain ⟨vs0, Fd0, R0, hv0, hl0, _⟩ := f1.env.ow hE
  rw [hv] at hv0
  cases hv0
  refine ⟨.inl ⟨rfl, vs0, SqL.of hl0⟩, ?_⟩
  have hA : WA X [e] E1 fun os E2 => ∃ o, os = [o] ∧ ∃ d us, o = .val d ∧ E2[g]? = some (some (.ow a us)) ∧ us.length < 100000 ∧ k (.val .non) (E2.set g (some (.ow a (us ++ [d])))) := wa_cons (WO.mono h fun o E2 q => wa_nil ⟨o, rfl, q⟩) hs
  refine hA Z1 H1 σ F1 _ f1.env fun os E2 Z2 H2 F2 G vs ⟨o, eo, d, us, ed, hE1, hlen, kk⟩ f2 rs => ?_
  subst eo
  subst ed
  cases rs with
  | cons r1 rn =>
    cases rn
    rename_i w G1
    have f2' : Fin X.K Z1 H1 σ F1 E2 Z2 H2 F2 G1 := by have z := f2; rw [List.append_nil] at z; exact z
    obtain ⟨vs1, Fd, R, hv1, hl1, rd, hR, hp1⟩ := f2.env.ow hE1
    have hl := rd.len
    obtain ⟨F', e2, s2⟩ := f2.env.chgO hE1 hv1 hl1 rd hR hp1 (Gt := G1) (Fd' := Fd ++ G1) f2'.nd f2'.nz (fun y hy => List.mem_append.mp hy) (apart_in hp1 f2'.nd) (rd.app (Reps.one r1))
    refine ⟨a, vs1, w, rfl, rfl, hl1, Nat.lt_of_lt_of_le (by omega) (by decide : 100000 ≤ sizeLine), ?_⟩
    exact hk _ _ Z2 _ F' [] _ kk ⟨e2, e2.nd, (fun y hy => nomatch hy), f1.st.trans (f2'.st.trans s2)⟩ .non
/-- self.f = e, f a new field -/
theorem ws_fnew {fa : List Str} (ob : Ob X.K C fa) (hN : X.N[i]? = some x) (h : WE X e E fun d E1 => ∃ fs ds, E1[i]? = some (some (.obj C fs ds)) ∧ fs.length < 900 ∧ f ∉ fs ∧ f ∈ fa ∧ ks.nx (E1.set i (some (.obj C (fs ++ [f]) (ds ++ [d])))))
    (hs : swapsWith e (some (.Attribute (.Name x p) f pos')) pos.line X.env = pure false := by rfl)
    (hv : Vis X.env.scope x := by first | exact Or.inl rfl | exact Or.inr (Or.inl rfl) | exact Or.inr (Or.inr rfl)) (hdb : (x == ("__debug__" : Str)) = false := by decide) (hcd : (x == ("__classdict__" : Str)) = false := by decide) :
    WS X n (.Assign [.Attribute (.Name x p) f pos'] e pos) E ks := by
  intro Z H σ F D he hk
  refine wpS_by (ps_fld (pe_var hN hv hdb hcd) pe_w hs) (h Z H σ F _ he fun o E1 Z1 H1 F1 G v ⟨d, eo, fs, ds, hE, hlen, hf, hfa, q⟩ f1 r => ?_)
  subst eo
  obtain ⟨a, dx, vs, Fd, R, hv1, hH, hl, rs, hR, hp⟩ := f1.env.obj hE
  have hlz : (fs.zip vs).length = fs.length := by rw [List.length_zip]; omega
  refine ⟨_, hv1, a, C, dx, _, rfl, hH, ob.cls, ob.no f hfa, by omega, ?_⟩
  rw [put_new hf hl]
  obtain ⟨F', e2, s2⟩ := f1.env.chgF (fs' := fs ++ [f]) (vs' := vs ++ [v]) hE hv1 hH rfl hl rs hR hp (Gt := G) (Fd' := Fd ++ G) f1.nd f1.nz (fun y hy => List.mem_append.mp hy) (apart_in hp f1.nd) (by rw [List.length_append, List.length_append, hl]; rfl) (rs.app (Reps.one r))
  exact hk.nx _ Z1 _ σ F' q ⟨e2, e2.nd, (fun y hy => nomatch hy), f1.st.trans s2, Pin.refl⟩
/-- self.f = e -/
theorem ws_fput {fa : List Str} (ob : Ob X.K C fa) (hN : X.N[i]? = some x) (h : WE X e E fun d E1 => ∃ ds j d0, E1[i]? = some (some (.obj C fa ds)) ∧ fa[j]? = some f ∧ ds[j]? = some d0 ∧ ks.nx (E1.set i (some (.obj C fa (ds.set j d)))))
    (hs : swapsWith e (some (.Attribute (.Name x p) f pos')) pos.line X.env = pure false := by rfl)
    (hv : Vis X.env.scope x := by first | exact Or.inl rfl | exact Or.inr (Or.inl rfl) | exact Or.inr (Or.inr rfl)) (hdb : (x == ("__debug__" : Str)) = false := by decide) (hcd : (x == ("__classdict__" : Str)) = false := by decide) :
    WS X n (.Assign [.Attribute (.Name x p) f pos'] e pos) E ks := by
  intro Z H σ F D he hk
  refine wpS_by (ps_fld (pe_var hN hv hdb hcd) pe_w hs) (h Z H σ F _ he fun o E1 Z1 H1 F1 G v ⟨d, eo, ds, j, d0, hE, hj, hd, q⟩ f1 r => ?_)
  subst eo
  obtain ⟨a, dx, vs, Fd, R, hv1, hH, hl, rs, hR, hp⟩ := f1.env.obj hE
  obtain ⟨w, Gj, R2, q1, q2, q3, q4⟩ := rs.pull hd
  obtain ⟨Fn, r1, r2⟩ := q3 d v G r
  have hlz : (fa.zip vs).length = fa.length := by rw [List.length_zip]; omega
  have hsm := ob.sm
  refine ⟨_, hv1, a, C, dx, _, rfl, hH, ob.cls, ob.no f (List.mem_of_getElem? hj), by omega, ?_⟩
  rw [put_zip ob.nd hj q1]
  have ha := apart_in hp f1.nd
  have hs2 : ∀ z ∈ Fn, z ∈ Fd ∨ z ∈ G := fun z hz => by
    rcases List.mem_append.mp (r2.mem_iff.mp hz) with q | q
    · exact .inr q
    · exact .inl (q4.mem_iff.mpr (List.mem_append_right _ q))
  have hn2 : (a :: Fn).Nodup := by
    have h1 := List.nodup_cons.mp ha
    have h2 := List.nodup_append.mp h1.2
    have h3 := List.nodup_append.mp (q4.nodup_iff.mp h2.1)
    refine List.nodup_cons.mpr ⟨fun hm => h1.1 ?_, r2.nodup_iff.mpr (List.nodup_append.mpr ⟨h2.2.1, h3.2.1, fun z hz t ht q => ?_⟩)⟩
    · rcases hs2 a hm with z | z
      · exact List.mem_append_left _ z
      · exact List.mem_append_right _ z
    · exact h2.2.2 t (q4.mem_iff.mpr (List.mem_append_right _ ht)) z hz q.symm
  obtain ⟨F', e2, s2⟩ := f1.env.chgF (fs' := fa) (vs' := vs.set j v) hE hv1 hH rfl hl rs hR hp (Gt := G) (Fd' := Fn) f1.nd f1.nz hs2 hn2 (by rw [List.length_set]; exact hl) r1
  exact hk.nx _ Z1 _ σ F' q ⟨e2, e2.nd, (fun y hy => nomatch hy), f1.st.trans s2, Pin.refl⟩
end
/-! ### methods -/
/-- the j-th statement of a class's text -/
def methS (s : Stmt) (j : Nat) : Stmt := match s with
  | .ClassDef _ _ _ b _ _ _ _ _ _ _ => b.getD j (.Pass ⟨0, 0, 0, 0⟩)
  | _ => .Pass ⟨0, 0, 0, 0⟩
def visB (sc : Scope) (y : Str) : Bool := match sc.names.lookup y with
  | some .local => true
  | some .cell => true
  | some .free => true
  | _ => false
theorem notvis {sc : Scope} {y : Str} (h : visB sc y = false) : ¬ Vis sc y := fun v => by
  unfold visB at h
  rcases v with v | v | v <;> (rw [show sc.names.lookup y = _ from v] at h; cases h)
/-- a method of the class at C -/
structure HasM (K : PySem.W.Frag) (C : Addr) (m q : Str) (st : Stmt) (ps : List Str) : Prop where
  ex : ∃ (f : Addr) (fd : FuncData), Meth K C m f ∧ FunD K m q (defArgs st) (defBody st) (defScope st) [] [] f fd ∧ Binds K fd ps []
/-- the class at C has a method that keeps sp -/
structure CalM (P : Program) (w : World) (K : PySem.W.Frag) (mg : Str → Option Value) (base : Heap) (k : Nat) (C : Addr) (m : Str) (sp : Sp) : Prop where
  ex : ∃ (f : Addr) (fd : FuncData) (ps : List Str), FnOk P w K mg base CX0 k f fd ps sp ∧ Cls K C ∧ Meth K C m f ∧ Binds K fd ps [] ∧ FdAt K f fd ps
theorem calm_of {P : Program} {w : World} {K : PySem.W.Frag} {mg : Str → Option Value} {base : Heap} {C : Addr} {m q : Str} {st : Stmt} {N ps : List Str} {k pin : Nat} {S : Ct} (h : HasM K C m q st ps) (hc : Cls K C) (sc : FnScope N ps (defScope st))
    (hlen : ∀ a ds, S.pre a ds → ds.length = ps.length) (hpin : pin ≤ ps.length)
    (body : ∀ (f : Addr) (cdv : Value) (A : Around) (outer : List Env) (s : Shared) (H : Hp) (E : XK), Room k (A.deeper (envOfC q (defScope st) s.heap.objs.size f cdv)) → ∀ (a : S.α) (ds : List D), S.pre a ds →
      (let X : Cx := (cxOf CX0 P w K mg base N q (defScope st) f cdv A outer s H E).nox
      WSs X (List.range pin) (defBody st) (ds.map some ++ List.replicate (N.length - ps.length) none)
        { nx := fun E' => ∃ ds', E'.take pin = ds'.map some ∧ S.post a .non ds', rt := fun d E' => ∃ ds', E'.take pin = ds'.map some ∧ S.post a d ds' })) (hps : ps = (defArgs st).args.map (·.arg) := by rfl) : CalM P w K mg base (k + 1) C m (toSp K pin S) := by
  obtain ⟨f, fd, hm, F, b⟩ := h.ex
  exact ⟨f, fd, ps, fn_ok F sc hlen hpin (body f), hc, hm, b, .of F hps⟩
section
variable {X : Cx} {E E1 : EnvT} {k : Opd → EnvT → Prop} {e : Expr} {es : List Expr} {S : Ct} {XE : XK} {pos apos p : Pos} {i kd j : Nat} {x y m : Str} {C : Addr} {fs : List Str} {ds0 : List D}
/-- the callee's promise, its first argument what stands in the slot i -/
theorem sp_pin1 {Z Z1 : Addr → Prop} {H H1 : Hp} {σ : Sl} {F F1 Gs : List Addr} {os' : List Opd} {vs' : List V} {v0 : V} {d0 : D} {ds : List D} {a : S.α} {Q : VK} (f1 : Fin X.K Z H σ F E1 Z1 H1 F1 Gs) (rs : OpdRs X.K Z1 H1 σ os' vs' Gs)
    (hv : σ[i]? = some (some v0)) (hE : E1[i]? = some (some d0)) (g0 : valsOf os' = some ds) (pa : S.pre a (d0 :: ds)) (hq : ∀ d d0', S.post a d [d0'] → k (.val d) (E1.set i (some d0')))
    (hk : ∀ (o : Opd) (E' : EnvT) (Z' : Addr → Prop) (H' : Hp) (F' G : List Addr) (v : V), k o E' → Fin X.K Z H σ F E' Z' H' F' G → OpdR X.K Z' H' σ o v G → Q v H') : toSp X.K 1 S (v0 :: (vs' ++ [])) H1 Q XE := by
  have g := Gets.of (E := E1) g0
  obtain ⟨Gs', r, sub⟩ := g.reps f1.env rs
  have f2 := f1.sub sub
  obtain ⟨v0', G0, R, hv', rp, rR, pm⟩ := f1.env.r.get hE
  rw [hv] at hv'
  cases hv'
  rw [List.append_nil]
  have nF : (G0 ++ R).Nodup := pm.nodup_iff.mp f1.env.nd
  have nA : (G0 ++ Gs').Nodup := by
    refine List.nodup_append.mpr ⟨(List.nodup_append.mp nF).1, (List.nodup_append.mp f2.nd).1, fun x hx y hy e => ?_⟩
    subst e
    exact (List.nodup_append.mp f2.nd).2.2 x hy x (pm.mem_iff.mpr (List.mem_append_left _ hx)) rfl
  have nzA : ∀ x ∈ G0 ++ Gs', ¬ Z1 x := fun x hx => by
    rcases List.mem_append.mp hx with q | q
    · exact f1.env.nz x (pm.mem_iff.mpr (List.mem_append_left _ q))
    · exact f2.nz x q
  refine ⟨Z1, d0 :: ds, G0 ++ Gs', .cons rp r, nA, nzA, f1.env.zt, a, pa, fun d ds' po v Z' H' G2 F2 r2 rv nd nz zt st => ?_⟩
  have et : (v0 :: vs').take 1 = [v0] := rfl
  rw [et] at r2
  cases r2 with
  | cons r2 rn =>
    cases rn
    rename_i d0' Fd
    rw [List.append_nil] at nd nz st
    have nR : ∀ x ∈ R, x ∉ G0 ++ Gs' := fun x hx hm => by
      rcases List.mem_append.mp hm with q | q
      · exact (List.nodup_append.mp nF).2.2 x q x hx rfl
      · exact (List.nodup_append.mp f2.nd).2.2 x q x (pm.mem_iff.mpr (List.mem_append_right _ hx)) rfl
    have rR' := rR.step st nR
    obtain ⟨F3, e3, p3⟩ := rR'.put (i := i) (d := d0') (v := v0) (G := Fd) (by
      obtain ⟨hl, _⟩ := List.getElem?_eq_some_iff.mp hE
      simp [hl]) hv r2
    rw [List.set_set] at e3
    have apR : ∀ x ∈ R, x ∉ G2 ++ Fd := fun x hx hm => by
      rcases st.f2 x hm with q | q
      · exact nR x hx q
      · obtain ⟨o, e, n⟩ := rR.mem x hx
        exact q o e n
    have nd3 : (G2 ++ (Fd ++ R)).Nodup := by
      rw [← List.append_assoc]
      refine List.nodup_append.mpr ⟨nd, (List.nodup_append.mp nF).2.1, fun x hx y hy e => ?_⟩
      subst e
      exact apR x hy hx
    have mem3 : ∀ x ∈ F3, x ∈ Fd ∨ x ∈ R := fun x hx => List.mem_append.mp (p3.mem_iff.mp hx)
    have nzR := st.nz rR.mem nR fun x hx => f1.env.nz x (pm.mem_iff.mpr (List.mem_append_right _ hx))
    have hsub : ∀ x ∈ G0 ++ Gs', x ∈ Gs' ++ F1 := fun x hx => by
      rcases List.mem_append.mp hx with q | q
      · exact List.mem_append_right _ (pm.mem_iff.mpr (List.mem_append_left _ q))
      · exact List.mem_append_left _ q
    refine hk (.val d) _ Z' H' F3 G2 v (hq d d0' po) ⟨⟨e3, p3.nodup_iff.mpr (List.nodup_append.mp nd3).2.1, fun x hx => (mem3 x hx).elim (fun q => nz x (List.mem_append_right _ q)) (nzR x), zt⟩,
      (List.Perm.append_left G2 p3).nodup_iff.mpr nd3, fun x hx => nz x (List.mem_append_left _ hx), ?_⟩ rv
    refine f2.st.trans (st.more hsub fun x hx => ?_)
    rcases List.mem_append.mp hx with q | q
    · exact .inl (List.mem_append_left _ q)
    · rcases mem3 x q with z | z
      · exact .inl (List.mem_append_right _ z)
      · exact .inr (List.mem_append_right _ (pm.mem_iff.mpr (List.mem_append_right _ z)))
/-- y.m(e, ..) -/
theorem wo_m1 {pl : Sem Bool} (c : CalM X.prog X.w X.K X.mg X.base kd C m (toSp X.K 1 S)) (hr : Room j X.A) (hk : kd ≤ j) (hN : X.N[i]? = some y) (hE : E[i]? = some (some (.obj C fs ds0))) (hm : m ∉ fs)
    (h : WA X (e :: es) E fun os E1 => ∃ d0 ds, E1[i]? = some (some d0) ∧ valsOf os = some ds ∧ ∃ a, S.pre a (d0 :: ds) ∧ ∀ d d0', S.post a d [d0'] → k (.val d) (E1.set i (some d0')))
    (hst : starEach (e :: es) X.env = (false, eval e X.env) :: starEach es X.env := by rfl) (hpl : (backTo pos (starEach es X.env)).any (·.1) = false := by rfl)
    (ht : eval (.Call (.Attribute (.Name y p) m apos) (e :: es) [] pos) X.env = (do
      let ov ← eval (.Name y p) X.env
      standAt apos.atName
      let (f, first) ← holding [ov] (getMethod ov m pl)
      callWith pos f first (backTo pos (starEach (e :: es) X.env)) (backToKw pos (keywordEach [] X.env))) := by rfl)
    (hv : Vis X.env.scope y := by first | exact Or.inl rfl | exact Or.inr (Or.inl rfl) | exact Or.inr (Or.inr rfl)) (hdb : (y == ("__debug__" : Str)) = false := by decide) (hcd : (y == ("__classdict__" : Str)) = false := by decide) :
    WO X (.Call (.Attribute (.Name y p) m apos) (e :: es) [] pos) E k := by
  obtain ⟨f, fd, ps, F, hc, hmm, b, _⟩ := c.ex
  intro Z H σ F0 Q he hk'
  obtain ⟨o, dx, vs, Fd, R, hv1, hH, hl, rs, hR, hp⟩ := he.obj hE
  refine wpE_by (pe_meth (pe_var hN hv hdb hcd) hc hmm F (hr.mono hk) b .nil pass0 pa_w hst hpl ht) ⟨_, hv1, o, dx, _, rfl, hH, lk_none hm, ?_⟩
  exact h Z H σ F0 _ he fun os E1 Z1 H1 F1 G ws ⟨d0, ds, hE1, g0, a, pa, hq⟩ f1 rs1 => sp_pin1 f1 rs1 hv1 hE1 g0 pa hq hk'
/-- y.m() -/
theorem wo_m10 {pl : Sem Bool} (c : CalM X.prog X.w X.K X.mg X.base kd C m (toSp X.K 1 S)) (hr : Room j X.A) (hk : kd ≤ j) (hN : X.N[i]? = some y) (hE : E[i]? = some (some (.obj C fs ds0))) (hm : m ∉ fs)
    (h : ∃ a, S.pre a [.obj C fs ds0] ∧ ∀ d d0', S.post a d [d0'] → k (.val d) (E.set i (some d0')))
    (ht : eval (.Call (.Attribute (.Name y p) m apos) [] [] pos) X.env = (do
      let ov ← eval (.Name y p) X.env
      standAt apos.atName
      let (f, first) ← holding [ov] (getMethod ov m pl)
      callWith pos f first (backTo pos (starEach [] X.env)) (backToKw pos (keywordEach [] X.env))) := by rfl)
    (hv : Vis X.env.scope y := by first | exact Or.inl rfl | exact Or.inr (Or.inl rfl) | exact Or.inr (Or.inr rfl)) (hdb : (y == ("__debug__" : Str)) = false := by decide) (hcd : (y == ("__classdict__" : Str)) = false := by decide) :
    WO X (.Call (.Attribute (.Name y p) m apos) [] [] pos) E k := by
  obtain ⟨f, fd, ps, F, hc, hmm, b, _⟩ := c.ex
  intro Z H σ F0 Q he hk'
  obtain ⟨o, dx, vs, Fd, R, hv1, hH, hl, rs, hR, hp⟩ := he.obj hE
  obtain ⟨a, pa, hq⟩ := h
  refine wpE_by (pe_meth0 (pe_var hN hv hdb hcd) hc hmm F (hr.mono hk) b .nil pass0 ht) ⟨_, hv1, o, dx, _, rfl, hH, lk_none hm, ?_⟩
  exact (sp_pin1 (XE := C8.E0) (Fin.refl he) .nil hv1 hE rfl pa hq hk' : toSp X.K 1 S (V.ref o :: (([] : List V) ++ [])) H Q C8.E0)
end
end DL

/-! objects: what was opened is closed at each end -/
namespace DL
open PySem PySem.Spec L2
variable [LamT]
theorem fj (n : Nat) {α : Type} {l : List α} {x : α} (h : l[n]? = some x) : l[n]? = some x := h
section
variable {K : PySem.W.Frag} {n : List Nat} {Z Z' : Addr → Prop} {H H' : Hp} {F F' G : List Addr} {σ σ' : Sl} {E E' : EnvT} {ds us : List D} {a C : Addr} {i j g : Nat} {fs : List Str}
theorem EnvS.close (he : EnvS K Z H E σ F) (hE : E[i]? = some (some (.obj C fs ds))) (hd : ds[j]? = some (.op (.ref a))) (hg : E[g]? = some (some (.ow a us))) (hig : i ≠ g) :
    ∃ F1, EnvS K Z H ((E.set g none).set i (some (.obj C fs (ds.set j (.lst us))))) σ F1 ∧ F1.Perm F := by
  obtain ⟨ws, G0, R, hg1, hb, ru, hR, hp⟩ := he.ow hg
  obtain ⟨v, G1, R1, hv1, ro, hR1, hp1⟩ := hR.get (i := i) (d := .obj C fs ds) (by rw [List.getElem?_set_ne (Ne.symm hig)]; exact hE)
  cases ro with
  | obj hH hl rs =>
    rename_i b dx vs Fd
    obtain ⟨w, G, R2, q1, q2, q3, q4⟩ := rs.pull hd
    cases q2
    obtain ⟨F', r1, r2⟩ := q3 (.lst us) (.ref a) (a :: G0) (.lst hb ru)
    have ev : vs.set j (.ref a) = vs := by
      obtain ⟨hlj, hw⟩ := List.getElem?_eq_some_iff.mp q1
      rw [← hw]
      exact List.set_getElem_self hlj
    rw [ev] at r1
    obtain ⟨F1, e1, p1⟩ := hR1.put (i := i) (by simp [(List.getElem?_eq_some_iff.mp hE).1]) hv1 (Rep.obj hH hl r1)
    rw [List.set_set] at e1
    have pF : F1.Perm F := by
      refine p1.trans (List.Perm.symm (hp.trans ?_))
      have a1 : ((a :: G0) ++ R).Perm ((a :: G0) ++ ((b :: Fd) ++ R1)) := List.Perm.append_left _ hp1
      have a2 : ((a :: G0) ++ ((b :: Fd) ++ R1)).Perm ((b :: ((a :: G0) ++ Fd)) ++ R1) := by
        have : ((a :: G0) ++ (b :: Fd)).Perm (b :: ((a :: G0) ++ Fd)) := List.perm_middle
        rw [← List.append_assoc]
        exact List.Perm.append_right _ this
      have a3 : ((a :: G0) ++ Fd).Perm F' := (List.Perm.append_left _ (by simpa using q4)).trans r2.symm
      exact a1.trans (a2.trans (List.Perm.append_right _ (List.Perm.cons _ a3)))
    have nd2 := pF.nodup_iff.mpr he.nd
    exact ⟨F1, ⟨e1, nd2, fun z hz => he.nz z (pF.mem_iff.mp hz), he.zt⟩, pF⟩
theorem FinS.close (f : FinS K n Z H σ F E' Z' H' σ' F' G) (hE : E'[i]? = some (some (.obj C fs ds))) (hd : ds[j]? = some (.op (.ref a))) (hg : E'[g]? = some (some (.ow a us))) (hig : i ≠ g) :
    ∃ F1, FinS K n Z H σ F ((E'.set g none).set i (some (.obj C fs (ds.set j (.lst us))))) Z' H' σ' F1 G := by
  obtain ⟨F1, e1, p⟩ := f.env.close hE hd hg hig
  exact ⟨F1, e1, (List.Perm.append_left G p).nodup_iff.mpr f.nd, f.nz, f.st.sub fun z hz => (List.mem_append.mp hz).elim (List.mem_append_left _) fun q => List.mem_append_right _ (p.mem_iff.mp q), f.pin⟩
/-- the field j of the object in the slot i, opened into the slot g, is laid back -/
abbrev clE (i j g : Nat) (k : EnvT → Prop) (E : EnvT) : Prop := ∃ (C : Addr) (fs : List Str) (ds : List D) (a : Addr) (us : List D), E[i]? = some (some (.obj C fs ds)) ∧ ds[j]? = some (.op (.ref a)) ∧ E[g]? = some (some (.ow a us)) ∧ i ≠ g ∧ k ((E.set g none).set i (some (.obj C fs (ds.set j (.lst us)))))
abbrev clK (i j g : Nat) (k : KS) : KS := { nx := clE i j g k.nx, rt := fun d => clE i j g (k.rt d), bk := clE i j g k.bk, ct := clE i j g k.ct }
theorem EndsOk.close {k : KS} {D : Ends} (e : EndsOk K n Z H σ F k D) (i j g : Nat) : EndsOk K n Z H σ F (clK i j g k) D where
  nx := fun E' Z' H' σ' F' ⟨C, fs, ds, a, us, h1, h2, h3, h4, h5⟩ f => let ⟨F1, f'⟩ := f.close h1 h2 h3 h4; e.nx _ Z' H' σ' F1 h5 f'
  rt := fun d v E' Z' H' σ' F' G ⟨C, fs, ds, a, us, h1, h2, h3, h4, h5⟩ f r => let ⟨F1, f'⟩ := f.close h1 h2 h3 h4; e.rt d v _ Z' H' σ' F1 G h5 f' r
  bk := fun E' Z' H' σ' F' ⟨C, fs, ds, a, us, h1, h2, h3, h4, h5⟩ f => let ⟨F1, f'⟩ := f.close h1 h2 h3 h4; e.bk _ Z' H' σ' F1 h5 f'
  ct := fun E' Z' H' σ' F' ⟨C, fs, ds, a, us, h1, h2, h3, h4, h5⟩ f => let ⟨F1, f'⟩ := f.close h1 h2 h3 h4; e.ct _ Z' H' σ' F1 h5 f'
end
section
variable {X : Cx} {n : List Nat} {E : EnvT} {ks : KS} {sts : List Stmt} {i j g : Nat} {y : Str} {ds us : List D} {C : Addr} {fs : List Str}
theorem wss_closeK (i j g : Nat) (h : WSs X n sts E (clK i j g ks)) : WSs X n sts E ks := fun Z H σ F D he hk => h Z H σ F D he (hk.close i j g)
/-- opened to the end -/
theorem wss_opn (i j g : Nat) (hE : E[i]? = some (some (.obj C fs ds))) (hd : ds[j]? = some (.lst us)) (hg : E[g]? = some none) (hN : X.N[g]? = some y) (hy : ¬ Vis X.env.scope y) (hn : g ∉ n) (hig : i ≠ g)
    (h : ∀ a : Addr, WSs X n sts ((E.set i (some (.obj C fs (ds.set j (.op (.ref a)))))).set g (some (.ow a us))) (clK i j g ks)) : WSs X n sts E ks :=
  wss_open i j g hE hd hg hN hy hn hig fun a => wss_closeK i j g (h a)
/-- self.f.append(e) -/
theorem wo_appF {k : Opd → EnvT → Prop} {pos apos p p2 : Pos} {x f : Str} {e : Expr} {a : Addr} (g : Nat) (ob : Ob X.K C fs) (hN : X.N[i]? = some x) (hE : E[i]? = some (some (.obj C fs ds))) (hj : fs[j]? = some f) (hd : ds[j]? = some (.op (.ref a))) (hg : E[g]? = some (some (.ow a us)))
    (h : WO X e E fun o1 E1 => ∃ d us, o1 = .val d ∧ E1[g]? = some (some (.ow a us)) ∧ us.length < 100000 ∧ k (.val .non) (E1.set g (some (.ow a (us ++ [d])))))
    (hb : PE X (.Call (.Attribute (.Attribute (.Name x p) f p2) "append" apos) [e] [] pos) (tBM X.K "list" rAppend (wpE X (.Attribute (.Name x p) f p2)) (wpA X [e]))) (hs : starEach [e] X.env = (false, eval e X.env) :: starEach [] X.env := by rfl)
    (hb2 : attributeBase (.Name x p) f X.env (eval (.Name x p) X.env) = eval (.Name x p) X.env := by rfl)
    (hv : Vis X.env.scope x := by first | exact Or.inl rfl | exact Or.inr (Or.inl rfl) | exact Or.inr (Or.inr rfl)) (hdb : (x == ("__debug__" : Str)) = false := by decide) (hcd : (x == ("__classdict__" : Str)) = false := by decide) :
    WO X (.Call (.Attribute (.Attribute (.Name x p) f p2) "append" apos) [e] [] pos) E k :=
  wo_appendP g hg (wo_fldA g ob hN hE hj hd hg ⟨rfl, rfl⟩ hb2 hv hdb hcd) h hb hs
end
end DL

/-! objects that are only read: their fields, their methods, methods that raise; methods with keywords -/
namespace DL
open PySem PySem.Spec L2
variable [LamT]
open PyProof.Rows (envOfC)
section
variable {X : Cx} {E E1 : EnvT} {k : Opd → EnvT → Prop} {e : Expr} {es : List Expr} {S : Ct} {XE : XK} {pos apos p : Pos} {i kd j : Nat} {x y m f : Str} {C : Addr} {fs : List Str} {ds0 ds : List D} {d : D}
theorem EnvS.fo {K : PySem.W.Frag} {Z : Addr → Prop} {H : Hp} {σ : Sl} {F : List Addr} (e : EnvS K Z H E σ F) (hE : E[i]? = some (some (.fo C fs ds))) : ∃ a dx vs, σ[i]? = some (some (.ref a)) ∧ H a = some (.ins C dx (fs.zip vs)) ∧ fs.length = vs.length ∧ Reps K Z H ds vs [] ∧ Rep K Z H (.fo C fs ds) (.ref a) [] := by
  obtain ⟨v, G, R, h1, h2, _⟩ := e.r.get hE
  cases h2 with
  | fo z eH l r => exact ⟨_, _, _, h1, eH, l, r, .fo z eH l r⟩
/-- y.f, y is only read -/
theorem wo_fldF (ob : Ob X.K C fs) (hN : X.N[i]? = some x) (hE : E[i]? = some (some (.fo C fs ds))) (hj : fs[j]? = some f) (hd : ds[j]? = some d) (h : k (.val d) E)
    (hb : attributeBase (.Name x p) f X.env (eval (.Name x p) X.env) = eval (.Name x p) X.env := by rfl)
    (hv : Vis X.env.scope x := by first | exact Or.inl rfl | exact Or.inr (Or.inl rfl) | exact Or.inr (Or.inr rfl)) (hdb : (x == ("__debug__" : Str)) = false := by decide) (hcd : (x == ("__classdict__" : Str)) = false := by decide) :
    WO X (.Attribute (.Name x p) f pos) E k := by
  intro Z H σ F Q he hk'
  obtain ⟨a, dx, vs, hv1, hH, hl, rs, _⟩ := he.fo hE
  obtain ⟨v, G', hvj, rv, sb⟩ := rs.get hd
  cases List.sublist_nil.mp sb
  exact wpE_by (pe_fld (pe_var hN hv hdb hcd) hb) ⟨_, hv1, a, C, dx, _, v, rfl, hH, ob.cls, ob.no f (List.mem_of_getElem? hj), lk_zip ob.nd hj hvj, hk' _ E Z H F [] v h (Fin.refl he) rv⟩
/-- the callee's promise, its first argument a thing that owns nothing -/
theorem sp_pin0 {Z Z1 : Addr → Prop} {H H1 : Hp} {σ : Sl} {F F1 G : List Addr} {os : List Opd} {vs : List V} {v0 : V} {d0 : D} {a : S.α} {Q : VK} (f1 : Fin X.K Z H σ F E1 Z1 H1 F1 G) (rs : OpdRs X.K Z1 H1 σ os vs G)
    (r0 : Rep X.K Z1 H1 d0 v0 []) (g0 : valsOf os = some ds) (pa : S.pre a (d0 :: ds)) (hq : ∀ d, S.post a d [] → k (.val d) E1)
    (hk : ∀ (o : Opd) (E' : EnvT) (Z' : Addr → Prop) (H' : Hp) (F' G : List Addr) (v : V), k o E' → Fin X.K Z H σ F E' Z' H' F' G → OpdR X.K Z' H' σ o v G → Q v H') : toSp X.K 0 S (v0 :: (vs ++ [])) H1 Q XE := by
  have g := Gets.of (E := E1) g0
  obtain ⟨G', r, sub⟩ := g.reps f1.env rs
  have f2 := f1.sub sub
  rw [List.append_nil]
  refine ⟨Z1, d0 :: ds, G', .cons (F := []) r0 r, (List.nodup_append.mp f2.nd).1, f2.nz, f1.env.zt, a, pa, fun d ds' po v Z' H' G2 F2 r2 rv nd nz zt st => ?_⟩
  rw [List.take_zero] at r2
  cases r2
  have st0 : Stp Z1 H1 G' Z' H' G2 := st.sub fun x hx => List.mem_append_left _ hx
  have n2 : G2.Nodup := (List.nodup_append.mp nd).1
  have ap := st0.apart (G := F1) (F1 := G') (F2 := G2) f1.env.r.mem (by
    refine List.nodup_append.mpr ⟨f1.env.nd, (List.nodup_append.mp f2.nd).1, fun x hx y hy e => ?_⟩
    subst e
    exact (List.nodup_append.mp f2.nd).2.2 x hy x hx rfl) n2
  have nzF := st0.nz f1.env.r.mem ap.2 f1.env.nz
  refine hk (.val d) E1 Z' H' F1 G2 v (hq d po) ⟨⟨f1.env.r.step st0 ap.2, f1.env.nd, nzF, zt⟩, ?_, fun x hx => nz x (List.mem_append_left _ hx), ?_⟩ rv
  · refine List.nodup_append.mpr ⟨n2, f1.env.nd, fun x hx y hy e => ?_⟩
    subst e
    exact (List.nodup_append.mp ap.1).2.2 x hy x hx rfl
  · exact f2.st.trans (st0.more (fun x hx => List.mem_append_left _ hx) fun x hx => (List.mem_append.mp hx).imp_right fun z => List.mem_append_right _ z)
/-- y.m(e, ..), y is only read -/
theorem wo_mF {pl : Sem Bool} (c : CalM X.prog X.w X.K X.mg X.base kd C m (toSp X.K 0 S)) (hr : Room j X.A) (hk : kd ≤ j) (hN : X.N[i]? = some y) (hE : E[i]? = some (some (.fo C fs ds0))) (hm : m ∉ fs)
    (h : WA X (e :: es) E fun os E1 => ∃ ds, valsOf os = some ds ∧ ∃ a, S.pre a (.fo C fs ds0 :: ds) ∧ ∀ d, S.post a d [] → k (.val d) E1)
    (hst : starEach (e :: es) X.env = (false, eval e X.env) :: starEach es X.env := by rfl) (hpl : (backTo pos (starEach es X.env)).any (·.1) = false := by rfl)
    (ht : eval (.Call (.Attribute (.Name y p) m apos) (e :: es) [] pos) X.env = (do
      let ov ← eval (.Name y p) X.env
      standAt apos.atName
      let (f, first) ← holding [ov] (getMethod ov m pl)
      callWith pos f first (backTo pos (starEach (e :: es) X.env)) (backToKw pos (keywordEach [] X.env))) := by rfl)
    (hv : Vis X.env.scope y := by first | exact Or.inl rfl | exact Or.inr (Or.inl rfl) | exact Or.inr (Or.inr rfl)) (hdb : (y == ("__debug__" : Str)) = false := by decide) (hcd : (y == ("__classdict__" : Str)) = false := by decide) :
    WO X (.Call (.Attribute (.Name y p) m apos) (e :: es) [] pos) E k := by
  obtain ⟨f, fd, ps, F, hc, hmm, b, _⟩ := c.ex
  intro Z H σ F0 Q he hk'
  obtain ⟨o, dx, vs, hv1, hH, hl, rs, r0⟩ := he.fo hE
  refine wpE_by (pe_meth (pe_var hN hv hdb hcd) hc hmm F (hr.mono hk) b .nil pass0 pa_w hst hpl ht) ⟨_, hv1, o, dx, _, rfl, hH, lk_none hm, ?_⟩
  exact h Z H σ F0 _ he fun os E1 Z1 H1 F1 G ws ⟨ds, g0, a, pa, hq⟩ f1 rs1 => sp_pin0 f1 rs1 (r0.step f1.st (fun _ q => nomatch q)) g0 pa hq hk'
/-- y.m(), y is only read -/
theorem wo_mF0 {pl : Sem Bool} (c : CalM X.prog X.w X.K X.mg X.base kd C m (toSp X.K 0 S)) (hr : Room j X.A) (hk : kd ≤ j) (hN : X.N[i]? = some y) (hE : E[i]? = some (some (.fo C fs ds0))) (hm : m ∉ fs)
    (h : ∃ a, S.pre a [.fo C fs ds0] ∧ ∀ d, S.post a d [] → k (.val d) E)
    (ht : eval (.Call (.Attribute (.Name y p) m apos) [] [] pos) X.env = (do
      let ov ← eval (.Name y p) X.env
      standAt apos.atName
      let (f, first) ← holding [ov] (getMethod ov m pl)
      callWith pos f first (backTo pos (starEach [] X.env)) (backToKw pos (keywordEach [] X.env))) := by rfl)
    (hv : Vis X.env.scope y := by first | exact Or.inl rfl | exact Or.inr (Or.inl rfl) | exact Or.inr (Or.inr rfl)) (hdb : (y == ("__debug__" : Str)) = false := by decide) (hcd : (y == ("__classdict__" : Str)) = false := by decide) :
    WO X (.Call (.Attribute (.Name y p) m apos) [] [] pos) E k := by
  obtain ⟨f, fd, ps, F, hc, hmm, b, _⟩ := c.ex
  intro Z H σ F0 Q he hk'
  obtain ⟨o, dx, vs, hv1, hH, hl, rs, r0⟩ := he.fo hE
  obtain ⟨a, pa, hq⟩ := h
  refine wpE_by (pe_meth0 (pe_var hN hv hdb hcd) hc hmm F (hr.mono hk) b .nil pass0 ht) ⟨_, hv1, o, dx, _, rfl, hH, lk_none hm, ?_⟩
  exact (sp_pin0 (XE := C8.E0) (Fin.refl he) .nil r0 rfl pa hq hk' : toSp X.K 0 S (V.ref o :: (([] : List V) ++ [])) H Q C8.E0)
end
/-! ### methods with keywords alone -/
/-- a method of the class at C, called with the keywords ks: the parameter behind self number i gets the value pm[i] -/
structure KwM (K : PySem.W.Frag) (C : Addr) (m : Str) (ks : List Str) (pm : List Nat) : Prop where
  ex : ∃ (f : Addr) (fd : FuncData) (ps : List Str), Meth K C m f ∧ FdAt K f fd ps ∧ KBn K fd ps 1 ks (fun us ws => us ++ gi pm ws) (fun vs zs => vs ++ gi pm zs)
section
variable {X : Cx} {E E1 : EnvT} {k : Opd → EnvT → Prop} {kws : List Keyword} {S : Ct} {XE : XK} {pos apos p : Pos} {i kd j : Nat} {x y m : Str} {C : Addr} {fs ks : List Str} {ds0 ds : List D} {d : D} {pm : List Nat}
end
/-! ### methods that raise -/
structure CalMX (P : Program) (w : World) (K : PySem.W.Frag) (mg : Str → Option Value) (base : Heap) (k : Nat) (C : Addr) (m : Str) (sp : Sp) : Prop where
  ex : ∃ (f : Addr) (fd : FuncData) (ps : List Str), FnOk P w K mg base (L2.CX P w) k f fd ps sp ∧ Cls K C ∧ Meth K C m f ∧ Binds K fd ps [] ∧ FdAt K f fd ps
section
variable {P : Program} {w : World} {K : PySem.W.Frag} {mg : Str → Option Value} {base : Heap} {C : Addr} {m q : Str}
end
section
variable {X : Cx} {E E1 : EnvT} {e : Expr} {es : List Expr} {pos apos p : Pos} {i kd j : Nat} {x y m : Str} {C : Addr} {fs : List Str} {ds0 ds : List D} {cls : Er}
end
end DL

/-! isinstance(x, C), x an instance of the own class C that is only read -/
namespace DL
open PySem PySem.Spec L2
variable [LamT]
/-- what isinstance asks of an own class, as a head may look at it -/
def insB (K : PySem.W.Frag) (x : Str) : Bool :=
  He.eqO (PySem.W.findIn K (.ref (He.ga K x)) "__class__") (some (some (.builtin "object.__class__"))) && (He.eqO (PySem.W.specialIn K (.builtin "object.__class__") "__get__") (some (some (.builtin "getset_descriptor.__get__"))) &&
    (eqB (PySem.W.takesIn K (.builtin "object.__class__")) (some true) && (eqB (PySem.W.mroIn K (He.ga K x) (.type "object")) (some true) && eqB (PySem.W.kitOne K (.ref (He.ga K x)) (.ref (He.ga K x))) (some true))))
theorem insB_ok {K : PySem.W.Frag} {x : Str} (c : Cls K (He.ga K x)) (h : insB K x = true) : C8.InsC K (He.ga K x) := by
  obtain ⟨h1, h⟩ := He.ba h
  obtain ⟨h2, h⟩ := He.ba h
  obtain ⟨h3, h⟩ := He.ba h
  obtain ⟨h4, h5⟩ := He.ba h
  exact ⟨c, He.eqO_ok h1, He.eqO_ok h2, of_decide_eq_true h3, of_decide_eq_true h4, of_decide_eq_true h5⟩
section
variable {X : Cx} {a b : Expr} {E : EnvT} {k : Opd → EnvT → Prop} {p pos : Pos}
def rIsO (K : PySem.W.Frag) : List V → Hp → VK → Prop := fun xs H Q => ∃ (C a dx : Addr) (fs : List (Str × V)), C8.InsC K C ∧ xs = [.ref a, .ref C] ∧ H a = some (.ins C dx fs) ∧ Q (.bl true) H
theorem cr_isO : CallR X (.builtin "isinstance") (rIsO X.K) := by
  intro pins s σ H xs us Q I r ⟨C, a, dx, fs, c, ex, ha, q⟩
  exact C8.call_isC c pins s σ H xs us Q I r ⟨a, dx, fs, ex, ha, q⟩
theorem wo_isO (hg : Gl X "isinstance") (hm : X.mg "isinstance" = none) (h : WO X a E fun o1 E1 => WO X b E1 fun o2 E2 => ∃ (C : Addr) (fs : List Str) (ds : List D), o1.get E2 = some (.fo C fs ds) ∧ o2 = .val (.op (.ref C)) ∧ C8.InsC X.K C ∧ k (.val (.bl true)) E2)
    (hs : starEach [a, b] X.env = (false, eval a X.env) :: starEach [b] X.env := by rfl) (hs2 : starEach [b] X.env = (false, eval b X.env) :: starEach [] X.env := by rfl) : WO X (.Call (.Name "isinstance" p) [a, b] [] pos) E k :=
  wo_b2 (pe_callB cr_isO hg hm (by decide +kernel) pa_w (he := hs) (hpl := by rw [hs2]; rfl)) (WO.mono h fun o1 E1 q => WO.mono q fun o2 E2 ⟨C, fs, ds, g1, g2, c, kk⟩ => by
    subst g2
    exact ⟨.fo C fs ds, .op (.ref C), g1, rfl, _, fun Z H v1 v2 G1 G2 r1 r2 => GivesP.one fun Q q => by
      cases r2
      cases r1 with
      | fo z e l rs => exact ⟨C, _, _, _, c, rfl, e, q _ H [] (.bl _) Grow.refl⟩, fun d e => by rw [e]; exact kk⟩) hs hs2
end
end DL

/-! an __init__ of an own error class: super().__init__("..") and self.f = x -/
namespace DL
open PySem PySem.Spec L2
open PyProof.Rows
/-- its body -/
abbrev supBody (x m : Str) (j : Nat) (p0 p1 p2 p3 p4 p5 p6 p7 p8 p9 : Pos) : List Stmt :=
  [.Expr (.Call (.Attribute (.Call (.Name "super" p0) [] [] p1) "__init__" p2) [.Constant (.str m) j p3] [] p4) p5,
   .Assign [.Attribute (.Name "self" p6) x p7] (.Name x p8) p9]
abbrev supPar (x : Str) (q0 q1 : Pos) : Arguments := ⟨[], [⟨"self", none, q0⟩, ⟨x, none, q1⟩], none, [], [], none, []⟩
abbrev supSc (x : Str) : Scope := { kind := .function, names := [("self", .local), (x, .local), ("__class__", .free), ("super", .globalImplicit)], isGenerator := false, isCoroutine := false }
structure SupF (file : Str) (K : PySem.W.Frag) (C fI : Addr) (x : Str) (qual : Str) : Prop where
  ex : ∃ (oc ccl cl kV doc pm ct : Value) (od cdd cld an : Option Addr) (osl ccs csl : Array (Option Value)) (name m : Str) (j : Nat) (p0 p1 p2 p3 p4 p5 p6 p7 p8 p9 q0 q1 : Pos) (cda cc : Addr) (vs : Array Value) (tf : Tok),
    K.lookup fI = some ⟨oc, od, .func (PySem.W.ksFn name qual (supPar x q0 q1) (supBody x m j p0 p1 p2 p3 p4 p5 p6 p7 p8 p9) (supSc x) .none kV doc pm an (.ref cda) ct cc), osl⟩ ∧ PySem.W.codeIn K (.ref cda) qual = true ∧
      K.lookup cda = some ⟨ccl, cdd, .fields vs, ccs⟩ ∧ vs[2]? = some (.str file tf) ∧ (p2.endLine == p4.line) = true ∧ K.lookup cc = some ⟨cl, cld, .cell (some (.ref C)), csl⟩
structure SupK (file : Str) (K : PySem.W.Frag) (C fI : Addr) (x : Str) (qual : Str) : Prop where
  fn : SupF file K C fI x qual
  oex : OexC K C
  iC : PySem.W.findIn K (.ref C) "__init__" = some (some (.ref fI))
  tI : PySem.W.typeIn K (.ref fI) = some (.type "function")
  no : PySem.W.findIn K (.ref C) x = some none
  sub : PySem.W.mroIn K C (.ref C) = some true
  opq : PySem.W.nsIn K cStatics "thirdparty.any" = some none
  sup : PySem.W.ks_superIn K C C "__init__" = some (some (.builtin "ValueError.__init__"))
  ve : PySem.W.subIn K (.ref C) (.type "ValueError") = some true
section
open PySem.W PySem.Calls PyProof.Rows
variable {prog : Program} {w : World} {A : Around} {E : Value → Shared → Prop} {h : Heap} {g : Array GenState} {d : Drawn} {t : Nat} {os : OsState}
variable {nm q : Str} {C N : Addr} {bs bm : List Value} {hdct : Bool} {sn : List Str} {sub : List Value} {ab : Bool} {col : Option Bool} {dd : Option Addr} {k0 k1 k2 k3 k5 : Option Value}
end
section
variable {P : Program} {w : World} {K : PySem.W.Frag} {mg : Str → Option Value} {base : Heap} {C fI : Addr} {qual : Str}
end
end DL

/-! displays that are frozen where they stand -/
namespace DL
open PySem PySem.Spec L2
variable [LamT]
theorem frzs_ints : ∀ {xs : List Int}, frzs (xs.map D.int) = xs.map D.int ∧ canFs (xs.map D.int) = true
  | [] => ⟨rfl, rfl⟩
  | x :: xs => by
    obtain ⟨h1, h2⟩ := frzs_ints (xs := xs)
    refine ⟨?_, ?_⟩
    · show frz (.int x) :: frzs (xs.map D.int) = _
      rw [h1]
      rfl
    · show (canF (.int x) && canFs (xs.map D.int)) = true
      rw [h2]
      rfl
theorem wss_frzI {X : Cx} {n : List Nat} {sts : List Stmt} {E : EnvT} {ks : KS} {xs : List Int} (i : Nat) (hE : E[i]? = some (some (.lst (xs.map D.int)))) (h : WSs X n sts (E.set i (some (.fz (xs.map D.int)))) ks) : WSs X n sts E ks := by
  refine wss_frz i hE (show canFs (xs.map D.int) = true from frzs_ints.2) ?_
  have e : frz (.lst (xs.map D.int)) = .fz (xs.map D.int) := congrArg D.fz frzs_ints.1
  rw [e]
  exact h
section
variable {X : Cx} {a b c : Expr} {pos : Pos} {tA tB tC : TT}
end
section
variable {X : Cx} {n : List Nat} {E : EnvT} {k : Opd → EnvT → Prop} {pos : Pos} {es : List Expr}
/-- a class of the module -/
theorem wo_cls {x : Str} {C : Addr} (hg : Gl X x) (hm : X.mg x = some (.ref C)) (h : k (.val (.op (.ref C))) E) (hd : (x == ("__debug__" : Str)) = false := by decide) : WO X (.Name x pos) E k :=
  wo_glob (d := .op (.ref C)) (v := .ref C) hg hm rfl (fun _ _ => .op _) h hd
end
end DL

/-! errors that bear a field: raised, caught, asked -/
namespace DL
open PySem PySem.Spec L2
variable [LamT]
open PyProof.Rows (envOfC)
/-- what is known of an error class x of the program, whose __init__ takes f -/
structure ExS (file : Str) (K : PySem.W.Frag) (mg : Str → Option Value) (x f : Str) : Prop where
  ex : ∃ (C CE fI : Addr) (qual : Str), mg x = some (.ref C) ∧ mg "CopyError" = some (.ref CE) ∧ SupK file K C fI f qual ∧ PySem.W.exmOne K (.ref C) (.ref CE) = some true ∧ mg "super" = none
theorem ExS.caught {file : Str} {K : PySem.W.Frag} {mg : Str → Option Value} {x f : Str} (S : ExS file K mg x f) {CE : Addr} (h : mg "CopyError" = some (.ref CE)) : ∃ C, mg x = some (.ref C) ∧ PySem.W.exmOne K (.ref C) (.ref CE) = some true := by
  obtain ⟨C, CE', fI, qual, g, gE, _, x1, _⟩ := S.ex
  rw [h] at gE
  cases gE
  exact ⟨C, g, x1⟩
/-- the program's file, its names -/
class PrF (P : Program) (file : outParam Str) : Prop where
  file : P.main.file = file
  top : (P.main.scope.names.lookup ("super" : Str)).isSome = false
section
variable {X : Cx} {E : EnvT} {p p3 pos : Pos}
end
/-! ### isinstance(e, C), e.f -/
section
variable {X : Cx}
end
section
variable {X : Cx} {a b : Expr} {E : EnvT} {k : Opd → EnvT → Prop} {pos p : Pos}
end
/-! ### _law_caught(lambda: ..) -/
open LamX in
section
variable {X : Cx} {E E0 : EnvT} {k : Opd → EnvT → Prop}
end
end DL

/-! heads: a def other than law that holds the lambdas -/
namespace DL
open PySem PySem.Spec L2
open PyProof.Rows (envOfC)
theorem sp_lawT (T : LamT) {K : PySem.W.Frag} {H : Hp} {a : Addr} {ns : List Int} {C : Ct} (pre : ∀ zs : List Int, zs.length ≤ 1000 → ∃ x : C.α, C.pre x [.fz (zs.map D.int)] ∧ ∀ d ds', C.post x d ds' → d = .bl true)
    (hn : ns.length ≤ 1000) (hT : LamX.Tabs T.tk H) (h : SqL K H a (ns.map V.int)) : @toSp T K 0 C [.ref a] H (fun v _ => v = .bl true) (fun _ _ _ => False) := by
  letI : LamT := T
  obtain ⟨x, px, po⟩ := pre ns hn
  have fin : ∀ d ds', C.post x d ds' → ∀ v Z' H' G F', Reps K Z' H' ds' ([V.ref a].take 0) F' → Rep K Z' H' d v G → v = .bl true := by
    intro d ds' hd v Z' H' G F' _ r
    have hd : d = .bl true := po d ds' hd
    subst hd
    cases r
    rfl
  rcases h with h | h
  · refine ⟨fun b => b = a, [.fz (ns.map D.int)], [], Reps.cons (show Rep K (fun b => b = a) H (.fz (ns.map D.int)) (.ref a) [] from .fz (.inl ⟨rfl, h⟩) (Reps.ofInts ns)) .nil, List.nodup_nil, (fun x hx => nomatch hx), ⟨fun b hb => ?_, hT⟩, x, px, fun d ds' hd v Z' H' G F' r1 r2 _ _ _ _ => fin d ds' hd v Z' H' G F' r1 r2⟩
    subst hb
    rcases h with h | ⟨o, h⟩
    · exact ⟨_, h, ntb_lst⟩
    · exact ⟨_, h, ntb_frzL⟩
  · exact ⟨fun _ => False, [.fz (ns.map D.int)], [], Reps.cons (show Rep K (fun _ => False) H (.fz (ns.map D.int)) (.ref a) [] from .fz (.inr fun _ => .inr h) (Reps.ofInts ns)) .nil, List.nodup_nil, (fun x hx => nomatch hx), ⟨fun _ h => h.elim, hT⟩, x, px, fun d ds' hd v Z' H' G F' r1 r2 _ _ _ _ => fin d ds' hd v Z' H' G F' r1 r2⟩
end DL

/-! heads: what is known of an error class with an __init__ of its own, by one Bool -/
namespace DL
open PySem PySem.Spec L2
variable [LamT]
def nmB (e : Expr) (x : Str) : Bool := match e with
  | .Name y _ => decide (y = x)
  | _ => false
theorem nmB_ok {e : Expr} {x : Str} (h : nmB e x = true) : ∃ p, e = .Name x p := by
  cases e with
  | Name y p =>
    have e := of_decide_eq_true (show decide (y = x) = true from h)
    exact ⟨p, by rw [e]⟩
  | _ => cases h
def suB (e : Expr) : Bool := match e with
  | .Call f [] [] _ => nmB f "super"
  | _ => false
theorem suB_ok {e : Expr} (h : suB e = true) : ∃ p0 p1, e = .Call (.Name "super" p0) [] [] p1 := by
  unfold suB at h
  split at h
  · obtain ⟨p, e⟩ := nmB_ok h
    exact ⟨p, _, by rw [e]⟩
  · cases h
def siB (e : Expr) : Bool := match e with
  | .Call (.Attribute o b p2) [.Constant (.str _) _ _] [] p4 => suB o && (decide (b = "__init__") && (p2.endLine == p4.line))
  | _ => false
theorem siB_ok {e : Expr} (h : siB e = true) : ∃ m j p0 p1 p2 p3 p4, e = .Call (.Attribute (.Call (.Name "super" p0) [] [] p1) "__init__" p2) [.Constant (.str m) j p3] [] p4 ∧ (p2.endLine == p4.line) = true := by
  unfold siB at h
  split at h
  · obtain ⟨h1, h⟩ := He.ba h
    obtain ⟨h2, h3⟩ := He.ba h
    obtain ⟨p0, p1, e⟩ := suB_ok h1
    exact ⟨_, _, p0, p1, _, _, _, by rw [e, of_decide_eq_true h2], h3⟩
  · cases h
def seB (t v : Expr) (f : Str) : Bool := match t with
  | .Attribute o g _ => nmB o "self" && (decide (g = f) && nmB v f)
  | _ => false
theorem seB_ok {t v : Expr} {f : Str} (h : seB t v f = true) : ∃ p6 p7 p8, t = .Attribute (.Name "self" p6) f p7 ∧ v = .Name f p8 := by
  unfold seB at h
  split at h
  · obtain ⟨h1, h⟩ := He.ba h
    obtain ⟨h2, h3⟩ := He.ba h
    obtain ⟨p, e⟩ := nmB_ok h1
    obtain ⟨p2, e2⟩ := nmB_ok h3
    exact ⟨p, _, p2, by rw [e, of_decide_eq_true h2], e2⟩
  · cases h
def bodB (b : FuncBody) (f : Str) : Bool := match b with
  | .stmts [.Expr e _, .Assign [t] v _] => siB e && seB t v f
  | _ => false
theorem bodB_ok {b : FuncBody} {f : Str} (h : bodB b f = true) : ∃ m j p0 p1 p2 p3 p4 p5 p6 p7 p8 p9, b = .stmts (supBody f m j p0 p1 p2 p3 p4 p5 p6 p7 p8 p9) ∧ (p2.endLine == p4.line) = true := by
  unfold bodB at h
  split at h
  · obtain ⟨h1, h2⟩ := He.ba h
    obtain ⟨m, j, p0, p1, p2, p3, p4, e, hp⟩ := siB_ok h1
    obtain ⟨p6, p7, p8, e2, e3⟩ := seB_ok h2
    exact ⟨m, j, p0, p1, p2, p3, p4, _, p6, p7, p8, _, by rw [e, e2, e3], hp⟩
  · cases h
def parB (a : Arguments) (f : Str) : Bool := match a with
  | ⟨[], [⟨x, none, _⟩, ⟨y, none, _⟩], none, [], [], none, []⟩ => decide (x = "self") && decide (y = f)
  | _ => false
theorem parB_ok {a : Arguments} {f : Str} (h : parB a f = true) : ∃ q0 q1, a = supPar f q0 q1 := by
  unfold parB at h
  split at h
  · obtain ⟨h1, h2⟩ := He.ba h
    exact ⟨_, _, by rw [of_decide_eq_true h1, of_decide_eq_true h2]⟩
  · cases h
def celB (K : PySem.W.Frag) (C : Addr) (cl : List (Str × Addr)) : Bool := match cl with
  | [(x, cc)] => decide (x = "__class__") && (match K.lookup cc with
    | some ⟨_, _, .cell (some (.ref D)), _⟩ => decide (D = C)
    | _ => false)
  | _ => false
theorem celB_ok {K : PySem.W.Frag} {C : Addr} {cl : List (Str × Addr)} (h : celB K C cl = true) : ∃ cc a b c, cl = [(("__class__" : Str), cc)] ∧ K.lookup cc = some ⟨a, b, .cell (some (.ref C)), c⟩ := by
  unfold celB at h
  split at h
  · obtain ⟨h1, h2⟩ := He.ba h
    split at h2
    · rename_i e
      exact ⟨_, _, _, _, by rw [of_decide_eq_true h1], by rw [e, of_decide_eq_true h2]⟩
    · cases h2
  · cases h
def codB (K : PySem.W.Frag) (cd : Value) (qual file : Str) : Bool := match cd with
  | .ref c => PySem.W.codeIn K (.ref c) qual && (match K.lookup c with
    | some ⟨_, _, .fields vs, _⟩ => (match (vs[2]? : Option Value) with
      | some (.str fl _) => decide (fl = file)
      | _ => false)
    | _ => false)
  | _ => false
theorem codB_ok {K : PySem.W.Frag} {cd : Value} {qual file : Str} (h : codB K cd qual file = true) : ∃ c a b vs d tf, cd = .ref c ∧ PySem.W.codeIn K (.ref c) qual = true ∧ K.lookup c = some ⟨a, b, .fields vs, d⟩ ∧ vs[2]? = some (.str file tf) := by
  unfold codB at h
  split at h
  · obtain ⟨h1, h2⟩ := He.ba h
    split at h2
    · rename_i e
      split at h2
      · rename_i e2
        exact ⟨_, _, _, _, _, _, rfl, h1, e, by rw [e2, of_decide_eq_true h2]⟩
      · cases h2
    · cases h2
  · cases h
def nonB : Value → Bool
  | .none => true
  | _ => false
theorem nonB_ok {v : Value} (h : nonB v = true) : v = .none := by cases v <;> first | rfl | cases h
def fncB (file : Str) (K : PySem.W.Frag) (C fI : Addr) (f : Str) : Bool := match K.lookup fI with
  | some ⟨_, _, .func fd, _⟩ => parB fd.params f && (bodB fd.body f && (decide (fd.scope = supSc f) && (decide (fd.globals = mainGlobals) && (celB K C fd.closure && (nonB fd.defaults && (codB K fd.code fd.qualname file && decide (fd.builtins = builtinsNs)))))))
  | _ => false
theorem fncB_ok {file : Str} {K : PySem.W.Frag} {C fI : Addr} {f : Str} (h : fncB file K C fI f = true) : ∃ qual, SupF file K C fI f qual := by
  unfold fncB at h
  split at h
  · rename_i a b fd c e
    obtain ⟨h1, h⟩ := He.ba h
    obtain ⟨h2, h⟩ := He.ba h
    obtain ⟨h3, h⟩ := He.ba h
    obtain ⟨h4, h⟩ := He.ba h
    obtain ⟨h5, h⟩ := He.ba h
    obtain ⟨h6, h⟩ := He.ba h
    obtain ⟨h7, h8⟩ := He.ba h
    obtain ⟨q0, q1, e1⟩ := parB_ok h1
    obtain ⟨m, j, p0, p1, p2, p3, p4, p5, p6, p7, p8, p9, e2, hp⟩ := bodB_ok h2
    have e3 := of_decide_eq_true h3
    have e4 := of_decide_eq_true h4
    obtain ⟨cc, c1, c2, c3, e5, lcc⟩ := celB_ok h5
    have e6 := nonB_ok h6
    obtain ⟨cda, d1, d2, vs, d3, tf, e7, hcd, lcd, hvs⟩ := codB_ok h7
    have e8 := of_decide_eq_true h8
    obtain ⟨n1, n2, n3, n4, n5, n6, n7, n8, n9, n10, n11, n12, n13, n14, n15⟩ := fd
    dsimp only at e1 e2 e3 e4 e5 e6 e7 e8 hcd
    subst e1 e2 e3 e4 e5 e6 e7 e8
    exact ⟨n2, ⟨_, _, _, _, _, _, _, _, _, _, _, _, _, _, _, _, _, _, _, _, _, _, _, _, _, _, _, _, _, _, _, _, _, e, hcd, lcd, hvs, hp, lcc⟩⟩
  · cases h
def clB (C : Addr) (cd : ClassData) (sl : Array (Option Value)) : Bool := match cd.mro, sl.toList with
  | .ref C' :: bm, [_, _, _, _, some (.builtin n), _] => decide (C' = C) && (decide (n = "ValueError.__new__") && (!cd.hasDel && (cd.hasDict && PySem.HandSPX.refsVE bm)))
  | _, _ => false
theorem clB_ok {C : Addr} {cd : ClassData} {sl : Array (Option Value)} (h : clB C cd sl = true) : ∃ bm k0 k1 k2 k3 k5, cd.mro = .ref C :: bm ∧ sl = #[k0, k1, k2, k3, some (.builtin "ValueError.__new__"), k5] ∧ cd.hasDel = false ∧ cd.hasDict = true ∧ PySem.HandSPX.refsVE bm = true := by
  unfold clB at h
  split at h
  · rename_i C' bm k0 k1 k2 k3 n k5 hm hs
    obtain ⟨g1, h0⟩ := He.ba h
    obtain ⟨g2, h1⟩ := He.ba h0
    obtain ⟨g3, h2⟩ := He.ba h1
    obtain ⟨g4, g5⟩ := He.ba h2
    have e1 := of_decide_eq_true g1
    have e2 := of_decide_eq_true g2
    have e3 : cd.hasDel = false := by simpa using g3
    subst e1 e2
    refine ⟨bm, k0, k1, k2, k3, k5, hm, ?_, e3, g4, g5⟩
    obtain ⟨l⟩ := sl
    simp only at hs
    rw [hs]
  · cases h
def objB (C : Addr) (o : Option Obj) : Bool := match o with
  | some ⟨.type t, _, .cls cd, sl⟩ => decide (t = "type") && clB C cd sl
  | _ => false
theorem objB_ok {C : Addr} {o : Option Obj} (h : objB C o = true) : ∃ nm q N bs bm sn sub ab col dd k0 k1 k2 k3 k5, o = some (excClassObj nm q C N bs bm true sn sub ab col dd k0 k1 k2 k3 k5 "ValueError.__new__") ∧ PySem.HandSPX.refsVE bm = true := by
  unfold objB at h
  split at h
  · rename_i t dd cd sl
    obtain ⟨g1, g2⟩ := He.ba h
    have e1 := of_decide_eq_true g1
    subst e1
    obtain ⟨bm, k0, k1, k2, k3, k5, e1, e2, e3, e4, e5⟩ := clB_ok g2
    obtain ⟨nm, bs, mro, ns, qn, hd, sn, sub, ab, col, del⟩ := cd
    dsimp only at e1 e3 e4
    subst e1 e2 e3 e4
    exact ⟨nm, qn, ns, bs, bm, sn, sub, ab, col, dd, k0, k1, k2, k3, k5, rfl, e5⟩
  · cases h
def oexB (K : PySem.W.Frag) (C : Addr) : Bool := objB C (K.lookup C) && (He.eqO (PySem.W.findIn K (.ref C) "__setattr__") (some (some (.builtin "object.__setattr__"))) && (eqB (PySem.W.subIn K (.ref C) (.type "BaseException")) (some true) && (decide (PySem.W.typeIn K (.ref C) = some (.type "type")) && PySem.W.keepIn K (.ref C))))
theorem oexB_ok {K : PySem.W.Frag} {C : Addr} (h : oexB K C = true) : OexC K C := by
  obtain ⟨h0, h⟩ := He.ba h
  obtain ⟨h1, h⟩ := He.ba h
  obtain ⟨h2, h⟩ := He.ba h
  obtain ⟨h3, h4⟩ := He.ba h
  exact ⟨objB_ok h0, He.eqO_ok h1, of_decide_eq_true h2, of_decide_eq_true h3, h4⟩
/-- all of it -/
def supB (file : Str) (K : PySem.W.Frag) (x f : Str) : Bool :=
  let C := He.ga K x
  let fI := He.ma K C "__init__"
  fncB file K C fI f && (oexB K C && (He.eqO (PySem.W.findIn K (.ref C) "__init__") (some (some (.ref fI))) && (decide (PySem.W.typeIn K (.ref fI) = some (.type "function")) && (He.eqO (PySem.W.findIn K (.ref C) f) (some none) &&
    (eqB (PySem.W.mroIn K C (.ref C)) (some true) && (He.eqO (PySem.W.nsIn K cStatics "thirdparty.any") (some none) && (He.eqO (PySem.W.ks_superIn K C C "__init__") (some (some (.builtin "ValueError.__init__"))) && (eqB (PySem.W.subIn K (.ref C) (.type "ValueError")) (some true) &&
      (excB K x && He.eqO (PySem.W.nsIn K mainGlobals "super") (some none))))))))))
theorem supB_ok {file : Str} {K : PySem.W.Frag} {x f : Str} (h : supB file K x f = true) : (∃ fI qual, SupK file K (He.ga K x) fI f qual) ∧ ExcC K (He.ga K x) ∧ XfC K (He.ga K x) ∧ PySem.W.nsIn K mainGlobals "super" = some none := by
  obtain ⟨h1, h⟩ := He.ba (show (_ && _) = true from h)
  obtain ⟨h2, h⟩ := He.ba h
  obtain ⟨h3, h⟩ := He.ba h
  obtain ⟨h4, h⟩ := He.ba h
  obtain ⟨h5, h⟩ := He.ba h
  obtain ⟨h6, h⟩ := He.ba h
  obtain ⟨h7, h⟩ := He.ba h
  obtain ⟨h8, h⟩ := He.ba h
  obtain ⟨h9, h⟩ := He.ba h
  obtain ⟨h10, h11⟩ := He.ba h
  obtain ⟨qual, F⟩ := fncB_ok h1
  have c := excB_ok h10
  exact ⟨⟨_, qual, F, oexB_ok h2, He.eqO_ok h3, of_decide_eq_true h4, He.eqO_ok h5, of_decide_eq_true h6, He.eqO_ok h7, He.eqO_ok h8, of_decide_eq_true h9⟩, c, ⟨c.hg, c.hk, c.hs, c.hd⟩, He.eqO_ok h11⟩
section
variable {K : PySem.W.Frag} {h : Heap} {mg : Str → Option Value}
theorem exS_of (X : K.In h) (G : h.Ns mainGlobals mg) {file x f : Str} (c1 : (He.Fa.glo x).ok K = true) (c2 : (He.Fa.glo "CopyError").ok K = true) (c4 : (He.Fa.exm x "CopyError" true).ok K = true) (c : supB file K x f = true) : ExS file K mg x f := by
  obtain ⟨⟨fI, qual, S⟩, _, _, hs⟩ := supB_ok c
  exact ⟨_, _, fI, qual, He.glo_ok X G c1, He.glo_ok X G c2, S, He.exm_ok c4, PySem.W.mg_none_of X G hs⟩
theorem exSC_of (X : K.In h) (G : h.Ns mainGlobals mg) {file x f : Str} (c1 : (He.Fa.glo x).ok K = true) (c : supB file K x f = true) : ∀ C : Addr, mg x = some (.ref C) → ExcC K C ∧ XfC K C ∧ PySem.W.findIn K (.ref C) f = some none := fun C hC => by
  have e := He.glo_ok X G c1
  rw [hC] at e
  cases e
  obtain ⟨⟨fI, qual, S⟩, c, d, _⟩ := supB_ok c
  exact ⟨c, d, S.no⟩
end
end DL

/-! heads: several defs that hold lambdas -/
namespace DL
open PySem PySem.Spec L2
@[reducible] def lamTs (l : List (Addr × Str)) (ob : Str → Addr := fun _ => 0) : LamT := ⟨l, ob⟩
theorem tabs_of {l : List (Addr × Str)} {ob : Str → Addr} {H : Hp} (h : ∀ p ∈ l, H p.1 = some (.tbl #[])) : LamX.Tabs (lamTs l ob).tk H := fun p hp => ⟨#[], h p hp, trivial, fun pos cv hc => nomatch (show (none : Option Value) = some cv from hc)⟩
/-- the tables of some defs, with their lambdas' name -/
def lamOf (K : PySem.W.Frag) (tf : List He.Defn) : List (Addr × Str) := tf.map fun p => ((He.cT K p).2, p.1 ++ ".<locals>.<lambda>")
def ndB (K : PySem.W.Frag) (tf : List He.Defn) : Bool := decide ((tf.map fun p => (He.cT K p).2).Nodup)
theorem lamOf_nd {K : PySem.W.Frag} {tf : List He.Defn} (h : ndB K tf = true) : ((lamOf K tf).map (·.1)).Nodup := by
  have e : (lamOf K tf).map (·.1) = tf.map fun p => (He.cT K p).2 := by unfold lamOf; rw [List.map_map]; rfl
  rw [e]
  exact of_decide_eq_true h
theorem lamOf_tab {K : PySem.W.Frag} {ob : Str → Addr} {tf : List He.Defn} {H : Hp} (h : ∀ p ∈ tf.map (He.cT K), H p.2 = some (.tbl #[])) : LamX.Tabs (lamTs (lamOf K tf) ob).tk H := tabs_of fun p hp => by
  obtain ⟨q, hq, rfl⟩ := List.mem_map.mp hp
  exact h _ (List.mem_map.mpr ⟨q, hq, rfl⟩)
end DL

/-! heads: what is known holds the table of statics, too -/
namespace DL
open PySem PySem.Spec L2
def frS (g : Addr → Option Obj) (n : Nat) : PySem.W.Frag := He.frT g (cStatics :: He.asD g n)
section
variable (n : Nat) (fa : List He.Fa) (fn : List He.DefD) (tf : List He.Defn) (ex : PySem.W.Frag → Bool)
def obsS (g : Addr → Option Obj) : He.AlX := (He.obsT fa fn [] (frS g n), ex (frS g n) && He.tabsB g tf (frS g n))
variable {n fa fn tf ex}
theorem tabs_tell {g : Addr → Option Obj} {K : PySem.W.Frag} (h : He.tabsB g tf K = true) {p : He.Defn} (hp : p ∈ tf) : PySem.W.codeHdIn K (He.cT K p).1 (He.cT K p).2 = true ∧ ∃ o, g (He.cT K p).2 = some o ∧ He.emptyTab o = true := by
  obtain ⟨a, b⟩ := He.ba (List.all_eq_true.mp h p hp)
  refine ⟨a, ?_⟩
  revert b
  cases g (He.cT K p).2 with
  | none => exact fun z => nomatch z
  | some o => exact fun z => ⟨o, rfl, z⟩
theorem saysS_of {w : World} {h : Heap} (e : obsS n fa fn tf ex h.get? = He.valX fn [] w) : He.SaysX fa fn [] tf ex w h (frS h.get? n) := by
  obtain ⟨h1, h2⟩ := He.ba (show (ex (frS h.get? n) && He.tabsB h.get? tf (frS h.get? n)) = true from congrArg (fun z : He.AlX => z.2) e)
  refine ⟨congrArg (fun z : He.AlX => z.1) e, h1, fun p hp => (tabs_tell h2 hp).1, fun p hp => ?_, fun p hp => ?_⟩ <;> obtain ⟨_, o, q, z⟩ := tabs_tell h2 hp
  · exact He.frT_none q z
  · rw [q, He.emptyTab_eq z]
variable (n fa fn tf ex)
def hookS : PySem.W.Hook where
  α := He.AlX
  obs := fun s => obsS n fa fn tf ex s.heap.get?
  val := fun w => He.valX fn [] w
  says := fun w h => ∃ K : PySem.W.Frag, K.In h ∧ He.SaysX fa fn [] tf ex w h K
  of := fun _ _ e => ⟨frS _ n, He.frT_in, saysS_of e⟩
  keeps := fun _ _ _ ⟨K, hK, c⟩ k => ⟨K, PySem.W.Frag.In.keeps hK k, { c with empty := fun p hp => k _ _ (c.empty p hp) }⟩
variable {n fa fn tf ex}
theorem obsS_eq {g : Addr → Option Obj} {s : Shared} (h : ∀ a, g a = s.heap.get? a) : obsS n fa fn tf ex g = (hookS n fa fn tf ex).obs s := by
  cases (funext h : g = s.heap.get?)
  rfl
end
end DL

/-! labels that keep a row in its sequence, in plain Lean -/
namespace DL
open PySem PySem.Spec L2 Ln
variable [LamT]
structure Lb where
  b : Nat
  line : List Nat
  ms : List Nat
  tot : Nat
def mostBy (l : Nat) : Nat := 4 ^ l / 3 ^ l
def Lb.at (s : Lb) (i : Nat) : Nat := s.ms.getD i 0
def Lb.endOf (s : Lb) (p : Nat) : Nat := match s.line[p + 1]? with
  | some j => s.at j
  | none => 2 ^ s.b
def inP (at' : Nat → Nat) (l f : Nat) (i : Nat) : Bool := decide (f ≤ at' i) && decide (at' i < f + 2 ^ l)
def Lb.inS (s : Lb) (l f : Nat) : List Nat := s.line.filter (inP s.at l f)
def loS (l m : Nat) : Nat := m - m % 2 ^ l
def Lb.levelOf (s : Lb) (m : Nat) : Option Nat := (List.range (s.b + 1)).find? fun l => decide ((s.inS l (loS l m)).length < mostBy l)
/-- the stretch laid anew -/
def layL (f S n : Nat) : List Nat → Nat → List Nat → List Nat
  | [], _, mk => mk
  | i :: r, p, mk => layL f S n r (p + 1) (mk.set i (f + p * S / n))
def movL (f S n new : Nat) : List Nat → Nat → List Nat → Nat
  | [], _, _ => 0
  | i :: r, p, mk => (if i ≠ new ∧ mk.getD i 0 ≠ f + p * S / n then 1 else 0) + movL f S n new r (p + 1) (mk.set i (f + p * S / n))
def insI (l : List Nat) (p v : Nat) : List Nat := l.take (p + 1) ++ v :: l.drop (p + 1)
def Lb.put (s : Lb) (it : Nat) : Option Lb :=
  let p := s.line.idxOf it
  let m := s.at it
  let n := s.line.length
  let e := s.endOf p
  if e - m = 1 then
    match s.levelOf m with
    | none => none
    | some l =>
      let s1 : Lb := { s with line := insI s.line p n, ms := s.ms ++ [m] }
      let ins := s1.inS l (loS l m)
      some { s1 with ms := layL (loS l m) (2 ^ l) ins.length ins 0 s1.ms, tot := s.tot + movL (loS l m) (2 ^ l) ins.length n ins 0 s1.ms }
  else some { s with line := insI s.line p n, ms := s.ms ++ [(m + e) / 2] }
structure LbOk (s : Lb) : Prop where
  len : s.ms.length = s.line.length
  pos : 0 < s.line.length
  mem : ∀ i, i ∈ s.line ↔ i < s.line.length
  nd : s.line.Nodup
  inc : s.line.Pairwise fun i j => s.at i < s.at j
  top : ∀ i, i < s.line.length → s.at i < 2 ^ s.b
theorem getD_set {l : List Nat} {i j v : Nat} (h : i < l.length) : (l.set i v).getD j 0 = if j = i then v else l.getD j 0 := by
  rw [List.getD_eq_getElem?_getD, List.getD_eq_getElem?_getD, List.getElem?_set]
  by_cases q : i = j
  · subst q
    rw [if_pos rfl, if_pos rfl, if_pos h]
    rfl
  · rw [if_neg q, if_neg (fun z => q z.symm)]
theorem layL_len {f S n : Nat} : ∀ {ins : List Nat} {p : Nat} {mk : List Nat}, (layL f S n ins p mk).length = mk.length
  | [], _, _ => rfl
  | i :: r, p, mk => by
    show (layL f S n r (p + 1) (mk.set i _)).length = _
    rw [layL_len, List.length_set]
theorem layL_not {f S n j : Nat} : ∀ {ins : List Nat} {p : Nat} {mk : List Nat}, (∀ i ∈ ins, i < mk.length) → j ∉ ins → (layL f S n ins p mk).getD j 0 = mk.getD j 0
  | [], _, _, _, _ => rfl
  | i :: r, p, mk, h, hj => by
    show (layL f S n r (p + 1) (mk.set i _)).getD j 0 = _
    rw [layL_not (fun x hx => by rw [List.length_set]; exact h x (List.mem_cons_of_mem _ hx)) (fun z => hj (List.mem_cons_of_mem _ z)), getD_set (h i List.mem_cons_self), if_neg (fun z => hj (by rw [z]; exact List.mem_cons_self))]
theorem layL_at {f S n : Nat} : ∀ {ins : List Nat} {p q : Nat} {mk : List Nat} {i : Nat}, (∀ i ∈ ins, i < mk.length) → ins.Nodup → ins[q]? = some i → (layL f S n ins p mk).getD i 0 = f + (p + q) * S / n
  | [], _, _, _, _, _, _, h => nomatch h
  | a :: r, p, 0, mk, i, hm, nd, h => by
    cases h
    show (layL f S n r (p + 1) (mk.set a _)).getD a 0 = _
    rw [layL_not (fun x hx => by rw [List.length_set]; exact hm x (List.mem_cons_of_mem _ hx)) (List.nodup_cons.mp nd).1, getD_set (hm a List.mem_cons_self), if_pos rfl]
    rfl
  | a :: r, p, q + 1, mk, i, hm, nd, h => by
    show (layL f S n r (p + 1) (mk.set a _)).getD i 0 = _
    rw [layL_at (q := q) (fun x hx => by rw [List.length_set]; exact hm x (List.mem_cons_of_mem _ hx)) (List.nodup_cons.mp nd).2 (by simpa using h), show p + 1 + q = p + (q + 1) by omega]
/-- even places are unlike, if there is room -/
theorem even_lt {S n p q : Nat} (hn : 0 < n) (h : n ≤ S) (hp : p < q) : p * S / n < q * S / n := by
  have h1 : (p + 1) * S ≤ q * S := Nat.mul_le_mul_right S hp
  have h2 : p * S + n ≤ q * S := by rw [Nat.add_mul, Nat.one_mul] at h1; omega
  have h3 := Nat.div_le_div_right (c := n) h2
  rw [Nat.add_div_right _ hn] at h3
  omega
theorem even_top {S n p : Nat} (hn : 0 < n) (hS : 0 < S) (hp : p < n) : p * S / n < S := by
  rw [Nat.div_lt_iff_lt_mul hn, Nat.mul_comm S n]
  exact Nat.mul_lt_mul_of_pos_right hp hS
theorem mostBy_le (l : Nat) : mostBy l ≤ 2 ^ l := by
  unfold mostBy
  have h : 4 ^ l ≤ 2 ^ l * 3 ^ l := by
    rw [← Nat.mul_pow]
    exact Nat.pow_le_pow_left (by omega) l
  exact Nat.div_le_of_le_mul (by rw [Nat.mul_comm]; exact h)
theorem loS_le {l m : Nat} : loS l m ≤ m ∧ m < loS l m + 2 ^ l := by
  have h := Nat.mod_lt m (Nat.two_pow_pos l)
  have h2 := Nat.mod_le m (2 ^ l)
  unfold loS
  omega
theorem loS_top {l m b : Nat} (hl : l ≤ b) (h : m < 2 ^ b) : loS l m + 2 ^ l ≤ 2 ^ b := by
  have e : loS l m = 2 ^ l * (m / 2 ^ l) := by
    have := Nat.div_add_mod m (2 ^ l)
    unfold loS
    omega
  have e2 : 2 ^ b = 2 ^ l * 2 ^ (b - l) := by rw [← Nat.pow_add, Nat.add_sub_cancel' hl]
  have h3 : m / 2 ^ l < 2 ^ (b - l) := by
    rw [Nat.div_lt_iff_lt_mul (Nat.two_pow_pos l), Nat.mul_comm, ← e2]
    exact h
  rw [e, e2]
  have := Nat.mul_le_mul_left (2 ^ l) h3
  rw [Nat.mul_succ] at this
  exact this
/-- the row with one item more -/
theorem ins_split {l : List Nat} {it v : Nat} (nd : l.Nodup) (h : it ∈ l) : ∃ A C, l = A ++ it :: C ∧ l.idxOf it = A.length ∧ insI l (l.idxOf it) v = A ++ it :: v :: C ∧ l[l.idxOf it + 1]? = C[0]? := by
  have hp : l.idxOf it < l.length := List.idxOf_lt_length_of_mem h
  have e : l = l.take (l.idxOf it) ++ it :: l.drop (l.idxOf it + 1) := by
    conv => lhs; rw [← List.take_append_drop (l.idxOf it) l, List.drop_eq_getElem_cons hp]
    rw [List.getElem_idxOf]
  have la : (l.take (l.idxOf it)).length = l.idxOf it := by rw [List.length_take]; omega
  refine ⟨l.take (l.idxOf it), l.drop (l.idxOf it + 1), e, la.symm, ?_, ?_⟩
  · unfold insI
    have e2 : l.take (l.idxOf it + 1) = l.take (l.idxOf it) ++ [it] := by
      rw [List.take_succ, List.getElem?_eq_getElem hp, List.getElem_idxOf]
      rfl
    rw [e2]
    simp
  · rw [List.getElem?_drop]
/-- one more between two: a relation along the row -/
theorem pw_ins {R : Nat → Nat → Prop} {A C : List Nat} {it v : Nat} (h : (A ++ it :: C).Pairwise R) (h1 : ∀ a ∈ A, R a v) (h2 : R it v) (h3 : ∀ c ∈ C, R v c) : (A ++ it :: v :: C).Pairwise R := by
  obtain ⟨p1, p2, p3⟩ := List.pairwise_append.mp h
  obtain ⟨p4, p5⟩ := List.pairwise_cons.mp p2
  refine List.pairwise_append.mpr ⟨p1, List.pairwise_cons.mpr ⟨fun c hc => ?_, List.pairwise_cons.mpr ⟨h3, p5⟩⟩, fun a ha c hc => ?_⟩
  · rcases List.mem_cons.mp hc with q | q
    · rw [q]; exact h2
    · exact p4 c q
  · rcases List.mem_cons.mp hc with q | q
    · rw [q]; exact p3 a ha it List.mem_cons_self
    · rcases List.mem_cons.mp q with q | q
      · rw [q]; exact h1 a ha
      · exact p3 a ha c (List.mem_cons_of_mem _ q)
theorem getD_app {l : List Nat} {v i : Nat} : (l ++ [v]).getD i 0 = if i = l.length then v else l.getD i 0 := by
  rw [List.getD_eq_getElem?_getD, List.getD_eq_getElem?_getD, List.getElem?_append]
  by_cases q : i < l.length
  · rw [if_pos q, if_neg (by omega)]
  · rw [if_neg q]
    by_cases e : i = l.length
    · subst e
      rw [if_pos rfl, Nat.sub_self]
      rfl
    · rw [if_neg e, List.getElem?_eq_none (by simp; omega), List.getElem?_eq_none (by omega)]
/-- the row and what its items are, with one more -/
theorem row_mem {l A C : List Nat} {it : Nat} (e : l = A ++ it :: C) (mem : ∀ i, i ∈ l ↔ i < l.length) (nd : l.Nodup) :
    (∀ i, i ∈ A ++ it :: l.length :: C ↔ i < (A ++ it :: l.length :: C).length) ∧ (A ++ it :: l.length :: C).Nodup := by
  have hm : ∀ i, i ∈ A ++ it :: l.length :: C ↔ i = l.length ∨ i ∈ l := fun i => by
    rw [e]
    simp only [List.mem_append, List.mem_cons]
    constructor
    · rintro (q | q | q | q)
      · exact .inr (.inl q)
      · exact .inr (.inr (.inl q))
      · exact .inl q
      · exact .inr (.inr (.inr q))
    · rintro (q | q | q | q)
      · exact .inr (.inr (.inl q))
      · exact .inl q
      · exact .inr (.inl q)
      · exact .inr (.inr (.inr q))
  have hl : (A ++ it :: l.length :: C).length = l.length + 1 := by
    conv => rhs; rw [e]
    simp
    omega
  refine ⟨fun i => by rw [hm, hl, mem]; omega, ?_⟩
  have nn : l.length ∉ l := fun q => Nat.lt_irrefl _ ((mem _).mp q)
  refine pw_ins (R := fun a b => a ≠ b) (by rw [← e]; exact nd) (fun a ha q => nn ?_) (fun q => nn ?_) (fun c hc q => nn ?_)
  · rw [← q, e]; exact List.mem_append_left _ ha
  · rw [← q]; rw [e]; exact List.mem_append_right _ List.mem_cons_self
  · rw [q]; rw [e]; exact List.mem_append_right _ (List.mem_cons_of_mem _ hc)
/-- what stands behind an item's label -/
theorem end_gt {s : Lb} (ok : LbOk s) {A C : List Nat} {it : Nat} (e : s.line = A ++ it :: C) (he : s.endOf (s.line.idxOf it) = match C[0]? with | some j => s.at j | none => 2 ^ s.b) :
    s.at it < s.endOf (s.line.idxOf it) ∧ s.endOf (s.line.idxOf it) ≤ 2 ^ s.b ∧ ∀ c ∈ C, s.endOf (s.line.idxOf it) ≤ s.at c := by
  have inc := ok.inc
  rw [e] at inc
  obtain ⟨_, p2, _⟩ := List.pairwise_append.mp inc
  obtain ⟨p4, p5⟩ := List.pairwise_cons.mp p2
  have hi : it < s.line.length := (ok.mem it).mp (by rw [e]; exact List.mem_append_right _ List.mem_cons_self)
  rw [he]
  cases C with
  | nil => exact ⟨ok.top it hi, Nat.le_refl _, fun c hc => nomatch hc⟩
  | cons c0 C =>
    have hc0 : c0 < s.line.length := (ok.mem c0).mp (by rw [e]; exact List.mem_append_right _ (List.mem_cons_of_mem _ List.mem_cons_self))
    refine ⟨p4 c0 List.mem_cons_self, Nat.le_of_lt (ok.top c0 hc0), fun c hc => ?_⟩
    rcases List.mem_cons.mp hc with q | q
    · rw [q]; exact Nat.le_refl _
    · exact Nat.le_of_lt ((List.pairwise_cons.mp p5).1 c q)
theorem put_half {s : Lb} (ok : LbOk s) {A C : List Nat} {it v : Nat} (e : s.line = A ++ it :: C) (h1 : s.at it < v) (h2 : v < 2 ^ s.b) (h3 : ∀ c ∈ C, v < s.at c) :
    LbOk { s with line := A ++ it :: s.line.length :: C, ms := s.ms ++ [v] } := by
  obtain ⟨mem, nd⟩ := row_mem e ok.mem ok.nd
  have hl : (A ++ it :: s.line.length :: C).length = s.line.length + 1 := by
    conv => rhs; rw [e]
    simp
    omega
  have hat : ∀ i, i < s.line.length → (s.ms ++ [v]).getD i 0 = s.at i := fun i hi => by
    rw [getD_app, if_neg (by rw [ok.len]; omega)]
    rfl
  have hnew : (s.ms ++ [v]).getD s.line.length 0 = v := by rw [getD_app, if_pos ok.len.symm]
  have inl : ∀ i ∈ s.line, i < s.line.length := fun i hi => (ok.mem i).mp hi
  have inc : (A ++ it :: C).Pairwise fun i j => (s.ms ++ [v]).getD i 0 < (s.ms ++ [v]).getD j 0 := by
    have q := ok.inc
    rw [← e]
    exact List.Pairwise.imp_of_mem (fun {a b} ha hb h => by rw [hat a (inl a ha), hat b (inl b hb)]; exact h) q
  have ina : ∀ a ∈ A, s.at a < s.at it := fun a ha => by
    have q := ok.inc
    rw [e] at q
    exact (List.pairwise_append.mp q).2.2 a ha it List.mem_cons_self
  have mA : ∀ a ∈ A, a < s.line.length := fun a ha => inl a (by rw [e]; exact List.mem_append_left _ ha)
  have mi : it < s.line.length := inl it (by rw [e]; exact List.mem_append_right _ List.mem_cons_self)
  have mC : ∀ c ∈ C, c < s.line.length := fun c hc => inl c (by rw [e]; exact List.mem_append_right _ (List.mem_cons_of_mem _ hc))
  refine ⟨?_, ?_, mem, nd, ?_, fun i hi => ?_⟩
  · show (s.ms ++ [v]).length = _
    rw [List.length_append, ok.len, hl]
    rfl
  · show 0 < (A ++ it :: s.line.length :: C).length
    omega
  · refine pw_ins inc (fun a ha => ?_) ?_ (fun c hc => ?_)
    · show (s.ms ++ [v]).getD a 0 < (s.ms ++ [v]).getD s.line.length 0
      rw [hat a (mA a ha), hnew]
      exact Nat.lt_trans (ina a ha) h1
    · show (s.ms ++ [v]).getD it 0 < (s.ms ++ [v]).getD s.line.length 0
      rw [hat it mi, hnew]
      exact h1
    · show (s.ms ++ [v]).getD s.line.length 0 < (s.ms ++ [v]).getD c 0
      rw [hat c (mC c hc), hnew]
      exact h3 c hc
  · have hi : i < (A ++ it :: s.line.length :: C).length := hi
    show (s.ms ++ [v]).getD i 0 < 2 ^ s.b
    rcases Nat.lt_or_ge i s.line.length with q | q
    · rw [hat i q]
      exact ok.top i q
    · rw [show i = s.line.length by omega, hnew]
      exact h2
theorem inP_iff {g : Nat → Nat} {l f i : Nat} : inP g l f i = true ↔ f ≤ g i ∧ g i < f + 2 ^ l := by
  unfold inP
  rw [Bool.and_eq_true, decide_eq_true_eq, decide_eq_true_eq]
theorem filter_one {g g' : Nat → Nat} {l f it n : Nat} {A C : List Nat} (h1 : ∀ i ∈ A ++ it :: C, g' i = g i) (hi : inP g' l f it = true) (hn : inP g' l f n = true) :
    ((A ++ it :: n :: C).filter (inP g' l f)).length = ((A ++ it :: C).filter (inP g l f)).length + 1 := by
  have ha : A.filter (inP g' l f) = A.filter (inP g l f) := List.filter_congr fun i hi => by unfold inP; rw [h1 i (List.mem_append_left _ hi)]
  have hc : C.filter (inP g' l f) = C.filter (inP g l f) := List.filter_congr fun i hi => by unfold inP; rw [h1 i (List.mem_append_right _ (List.mem_cons_of_mem _ hi))]
  have hi' : inP g l f it = true := by
    rw [← hi]
    unfold inP
    rw [h1 it (List.mem_append_right _ List.mem_cons_self)]
  rw [List.filter_append, List.filter_append, List.filter_cons_of_pos hi, List.filter_cons_of_pos hn, List.filter_cons_of_pos hi', ha, hc]
  simp
  omega
theorem put_laid {s : Lb} (ok : LbOk s) {A C : List Nat} {it l t : Nat} (e : s.line = A ++ it :: C) (hl : l ≤ s.b) (hc : (s.inS l (loS l (s.at it))).length < mostBy l) :
    LbOk { s with line := A ++ it :: s.line.length :: C, ms := layL (loS l (s.at it)) (2 ^ l) ((A ++ it :: s.line.length :: C).filter (inP (fun i => (s.ms ++ [s.at it]).getD i 0) l (loS l (s.at it)))).length ((A ++ it :: s.line.length :: C).filter (inP (fun i => (s.ms ++ [s.at it]).getD i 0) l (loS l (s.at it)))) 0 (s.ms ++ [s.at it]), tot := t } := by
  obtain ⟨mem, nd⟩ := row_mem e ok.mem ok.nd
  have hrl : (A ++ it :: s.line.length :: C).length = s.line.length + 1 := by
    conv => rhs; rw [e]
    simp
    omega
  have inl : ∀ i ∈ s.line, i < s.line.length := fun i hi => (ok.mem i).mp hi
  have mA : ∀ a ∈ A, a < s.line.length := fun a ha => inl a (by rw [e]; exact List.mem_append_left _ ha)
  have mi : it < s.line.length := inl it (by rw [e]; exact List.mem_append_right _ List.mem_cons_self)
  have mC : ∀ c ∈ C, c < s.line.length := fun c hc => inl c (by rw [e]; exact List.mem_append_right _ (List.mem_cons_of_mem _ hc))
  have hat : ∀ i, i < s.line.length → (s.ms ++ [s.at it]).getD i 0 = s.at i := fun i hi => by
    rw [getD_app, if_neg (by rw [ok.len]; omega)]
    rfl
  have hnew : (s.ms ++ [s.at it]).getD s.line.length 0 = s.at it := by rw [getD_app, if_pos ok.len.symm]
  have hm1 : (s.ms ++ [s.at it]).length = s.line.length + 1 := by rw [List.length_append, ok.len]; rfl
  have htop := ok.top it mi
  have q0 := ok.inc
  rw [e] at q0
  have hfm := loS_le (l := l) (m := s.at it)
  have hft := loS_top hl htop
  have hmb := mostBy_le l
  have eold : s.inS l (loS l (s.at it)) = (A ++ it :: C).filter (inP s.at l (loS l (s.at it))) := by unfold Lb.inS; rw [e]
  rw [eold] at hc
  generalize loS l (s.at it) = f at hfm hft hc ⊢
  generalize hg : (fun i => (s.ms ++ [s.at it]).getD i 0) = g at ⊢
  have gat : ∀ i, i < s.line.length → g i = s.at i := fun i hi => by rw [← hg]; exact hat i hi
  have gnew : g s.line.length = s.at it := by rw [← hg]; exact hnew
  have cnt := filter_one (g := s.at) (g' := g) (l := l) (f := f) (it := it) (n := s.line.length) (A := A) (C := C) (fun i hi => gat i (inl i (by rw [e]; exact hi))) (inP_iff.mpr (by rw [gat it mi]; exact hfm)) (inP_iff.mpr (by rw [gnew]; exact hfm))
  have inc1 : (A ++ it :: s.line.length :: C).Pairwise fun i j => g i < g j ∨ (g i = s.at it ∧ g j = s.at it) := by
    refine pw_ins ?_ (fun a ha => .inl ?_) (.inr ⟨gat it mi, gnew⟩) (fun c hc => .inl ?_)
    · exact List.Pairwise.imp_of_mem (fun {a b} ha hb h => .inl (by rw [gat a (inl a (by rw [e]; exact ha)), gat b (inl b (by rw [e]; exact hb))]; exact h)) q0
    · rw [gat a (mA a ha), gnew]
      exact (List.pairwise_append.mp q0).2.2 a ha it List.mem_cons_self
    · rw [gat c (mC c hc), gnew]
      exact (List.pairwise_cons.mp (List.pairwise_append.mp q0).2.1).1 c hc
  generalize hrow : A ++ it :: s.line.length :: C = row at mem nd hrl cnt inc1 ⊢
  generalize hins : row.filter (inP g l f) = ins at cnt ⊢
  have insnd : ins.Nodup := by rw [← hins]; exact nd.filter _
  have insm : ∀ i ∈ ins, i < (s.ms ++ [s.at it]).length := fun i hi => by
    rw [← hins] at hi
    have := (mem i).mp (List.mem_filter.mp hi).1
    omega
  have c0 : 0 < ins.length := by omega
  have cS : ins.length ≤ 2 ^ l := by omega
  have a2 : ∀ (q : Nat) (i : Nat), ins[q]? = some i → (layL f (2 ^ l) ins.length ins 0 (s.ms ++ [s.at it])).getD i 0 = f + q * 2 ^ l / ins.length := fun q i h => by
    rw [layL_at insm insnd h, Nat.zero_add]
  have a3 : ∀ i, i ∉ ins → (layL f (2 ^ l) ins.length ins 0 (s.ms ++ [s.at it])).getD i 0 = g i := fun i h => by
    rw [layL_not insm h, ← hg]
  have hlen2 : (layL f (2 ^ l) ins.length ins 0 (s.ms ++ [s.at it])).length = s.line.length + 1 := by rw [layL_len, hm1]
  generalize layL f (2 ^ l) ins.length ins 0 (s.ms ++ [s.at it]) = m2 at a2 a3 hlen2 ⊢
  have bnd : ∀ i ∈ ins, f ≤ m2.getD i 0 ∧ m2.getD i 0 < f + 2 ^ l := fun i hi => by
    obtain ⟨q, hq⟩ := List.mem_iff_getElem?.mp hi
    have hql := (List.getElem?_eq_some_iff.mp hq).1
    rw [a2 q i hq]
    have := even_top (S := 2 ^ l) c0 (Nat.two_pow_pos l) hql
    exact ⟨Nat.le_add_right _ _, Nat.add_lt_add_left this f⟩
  have pin : ins.Pairwise fun i j => m2.getD i 0 < m2.getD j 0 := by
    rw [List.pairwise_iff_getElem]
    intro i j hi hj hij
    rw [a2 i _ (List.getElem?_eq_getElem hi), a2 j _ (List.getElem?_eq_getElem hj)]
    have := even_lt (S := 2 ^ l) c0 cS hij
    omega
  refine ⟨?_, ?_, mem, nd, ?_, fun i hi => ?_⟩
  · show m2.length = row.length
    omega
  · show 0 < row.length
    omega
  · show row.Pairwise fun i j => m2.getD i 0 < m2.getD j 0
    rw [← hins, List.pairwise_filter] at pin
    have both := List.Pairwise.and pin inc1
    refine List.Pairwise.imp_of_mem (fun {a b} ha hb h => ?_) both
    obtain ⟨h1, h2⟩ := h
    have ia : a ∈ ins ↔ inP g l f a = true := by rw [← hins, List.mem_filter]; exact ⟨fun z => z.2, fun z => ⟨ha, z⟩⟩
    have ib : b ∈ ins ↔ inP g l f b = true := by rw [← hins, List.mem_filter]; exact ⟨fun z => z.2, fun z => ⟨hb, z⟩⟩
    by_cases pa : a ∈ ins
    · by_cases pb : b ∈ ins
      · exact h1 (ia.mp pa) (ib.mp pb)
      · rw [a3 b pb]
        have ba := bnd a pa
        have ga := inP_iff.mp (ia.mp pa)
        have gb : ¬ (f ≤ g b ∧ g b < f + 2 ^ l) := fun z => pb (ib.mpr (inP_iff.mpr z))
        omega
    · by_cases pb : b ∈ ins
      · rw [a3 a pa]
        have bb := bnd b pb
        have gb := inP_iff.mp (ib.mp pb)
        have ga : ¬ (f ≤ g a ∧ g a < f + 2 ^ l) := fun z => pa (ia.mpr (inP_iff.mpr z))
        omega
      · rw [a3 a pa, a3 b pb]
        rcases h2 with z | ⟨z1, z2⟩
        · exact z
        · exact absurd (ia.mpr (inP_iff.mpr (by rw [z1]; exact hfm))) pa
  · have hi : i < row.length := hi
    show m2.getD i 0 < 2 ^ s.b
    by_cases pi : i ∈ ins
    · have := bnd i pi
      omega
    · rw [a3 i pi]
      rcases Nat.lt_or_ge i s.line.length with q | q
      · rw [gat i q]
        exact ok.top i q
      · rw [show i = s.line.length by omega, gnew]
        exact htop
theorem put_ok {s s' : Lb} {it : Nat} (ok : LbOk s) (hi : it < s.line.length) (h : s.put it = some s') : LbOk s' ∧ s'.line = insI s.line (s.line.idxOf it) s.line.length ∧ s'.b = s.b := by
  obtain ⟨A, C, e, hx, hins, hnx⟩ := ins_split (v := s.line.length) ok.nd ((ok.mem it).mpr hi)
  have hend : s.endOf (s.line.idxOf it) = match C[0]? with | some j => s.at j | none => 2 ^ s.b := by
    unfold Lb.endOf
    rw [hnx]
  obtain ⟨g1, g2, g3⟩ := end_gt ok e hend
  unfold Lb.put at h
  dsimp only at h
  rw [hins] at h ⊢
  by_cases q : s.endOf (s.line.idxOf it) - s.at it = 1
  · rw [if_pos q] at h
    cases hv : s.levelOf (s.at it) with
    | none => rw [hv] at h; exact nomatch h
    | some l =>
      rw [hv] at h
      injection h with h
      have hl := List.find?_some hv
      have hm := List.mem_range.mp (List.mem_of_find?_eq_some hv)
      have hl := of_decide_eq_true hl
      rw [← h]
      exact ⟨put_laid ok e (by omega) hl, rfl, rfl⟩
  · rw [if_neg q] at h
    injection h with h
    rw [← h]
    exact ⟨put_half ok e (by omega) (by omega) fun c hc => by have := g3 c hc; omega, rfl, rfl⟩
theorem put_none {s : Lb} {it : Nat} (ok : LbOk s) (h : s.put it = none) : mostBy s.b ≤ s.line.length := by
  unfold Lb.put at h
  dsimp only at h
  by_cases q : s.endOf (s.line.idxOf it) - s.at it = 1
  · rw [if_pos q] at h
    cases hv : s.levelOf (s.at it) with
    | some l => rw [hv] at h; exact nomatch h
    | none =>
      have := List.find?_eq_none.mp hv s.b (List.mem_range.mpr (by omega))
      have h2 : ¬ (s.inS s.b (loS s.b (s.at it))).length < mostBy s.b := fun z => this (decide_eq_true z)
      have h3 : (s.inS s.b (loS s.b (s.at it))).length ≤ s.line.length := List.length_filter_le _ _
      omega
  · rw [if_neg q] at h
    exact nomatch h
/-- all gaps are so wide -/
structure Gap (s : Lb) (k : Nat) : Prop where
  inc : s.line.Pairwise fun i j => s.at i + 2 ^ k ≤ s.at j
  top : ∀ i, i < s.line.length → s.at i + 2 ^ k ≤ 2 ^ s.b
theorem put_gap {s : Lb} {it k : Nat} (ok : LbOk s) (gp : Gap s (k + 1)) (hi : it < s.line.length) : ∃ s', s.put it = some s' ∧ Gap s' k ∧ s'.tot = s.tot := by
  obtain ⟨A, C, e, hx, hins, hnx⟩ := ins_split (v := s.line.length) ok.nd ((ok.mem it).mpr hi)
  have hend : s.endOf (s.line.idxOf it) = match C[0]? with | some j => s.at j | none => 2 ^ s.b := by
    unfold Lb.endOf
    rw [hnx]
  obtain ⟨g1, g2, g3⟩ := end_gt ok e hend
  have inc := gp.inc
  rw [e] at inc
  have p2 := (List.pairwise_append.mp inc).2.1
  have k2 : 2 ^ (k + 1) = 2 * 2 ^ k := by rw [Nat.pow_succ, Nat.mul_comm]
  have k0 := Nat.two_pow_pos k
  have wide : s.at it + 2 ^ (k + 1) ≤ s.endOf (s.line.idxOf it) := by
    rw [hend]
    cases C with
    | nil => exact gp.top it hi
    | cons c0 C => exact (List.pairwise_cons.mp p2).1 c0 List.mem_cons_self
  have q : ¬ s.endOf (s.line.idxOf it) - s.at it = 1 := by omega
  refine ⟨{ s with line := A ++ it :: s.line.length :: C, ms := s.ms ++ [(s.at it + s.endOf (s.line.idxOf it)) / 2] }, ?_, ?_, rfl⟩
  · unfold Lb.put
    dsimp only
    rw [if_neg q, hins]
  · have inl : ∀ i ∈ s.line, i < s.line.length := fun i hi => (ok.mem i).mp hi
    have hrl : (A ++ it :: s.line.length :: C).length = s.line.length + 1 := by
      conv => rhs; rw [e]
      simp
      omega
    have hat : ∀ i, i < s.line.length → (s.ms ++ [(s.at it + s.endOf (s.line.idxOf it)) / 2]).getD i 0 = s.at i := fun i hi => by
      rw [getD_app, if_neg (by rw [ok.len]; omega)]
      rfl
    have hnew : (s.ms ++ [(s.at it + s.endOf (s.line.idxOf it)) / 2]).getD s.line.length 0 = (s.at it + s.endOf (s.line.idxOf it)) / 2 := by rw [getD_app, if_pos ok.len.symm]
    generalize s.ms ++ [(s.at it + s.endOf (s.line.idxOf it)) / 2] = m2 at hat hnew
    refine ⟨?_, fun i hi2 => ?_⟩
    · show (A ++ it :: s.line.length :: C).Pairwise fun i j => m2.getD i 0 + 2 ^ k ≤ m2.getD j 0
      refine pw_ins ?_ (fun a ha => ?_) ?_ (fun c hc => ?_)
      · exact List.Pairwise.imp_of_mem (fun {a b} ha hb h => by rw [hat a (inl a (by rw [e]; exact ha)), hat b (inl b (by rw [e]; exact hb))]; omega) inc
      · have := (List.pairwise_append.mp inc).2.2 a ha it List.mem_cons_self
        rw [hat a (inl a (by rw [e]; exact List.mem_append_left _ ha)), hnew]
        omega
      · rw [hat it hi, hnew]
        omega
      · have := g3 c hc
        rw [hat c (inl c (by rw [e]; exact List.mem_append_right _ (List.mem_cons_of_mem _ hc))), hnew]
        omega
    · have hi2 : i < (A ++ it :: s.line.length :: C).length := hi2
      show m2.getD i 0 + 2 ^ k ≤ 2 ^ s.b
      rcases Nat.lt_or_ge i s.line.length with z | z
      · rw [hat i z]
        have := gp.top i z
        omega
      · rw [show i = s.line.length by omega, hnew]
        omega
theorem inc_range : ∀ {xs : List Nat} {lo : Nat}, xs.Pairwise (· < ·) → (∀ x ∈ xs, lo ≤ x ∧ x < lo + xs.length) → ∀ p x, xs[p]? = some x → x = lo + p
  | [], _, _, _, _, _, h => nomatch h
  | a :: xs, lo, pw, hb, p, x, h => by
    obtain ⟨p1, p2⟩ := List.pairwise_cons.mp pw
    have ha := hb a List.mem_cons_self
    have hl : (a :: xs).length = xs.length + 1 := List.length_cons
    have hb2 : ∀ y ∈ xs, lo + 1 ≤ y ∧ y < lo + 1 + xs.length := fun y hy => by
      have h1 := p1 y hy
      have h2 := (hb y (List.mem_cons_of_mem _ hy)).2
      have h3 : a < y := h1
      omega
    cases p with
    | zero =>
      cases h
      cases xs with
      | nil => simp at ha; omega
      | cons c xs =>
        have h1 : c = lo + 1 + 0 := inc_range p2 hb2 0 c rfl
        have h2 : a < c := p1 c List.mem_cons_self
        omega
    | succ p =>
      have := inc_range p2 hb2 p x (by simpa using h)
      omega
theorem cnt_range {f S : Nat} : ∀ N : Nat, ((List.range N).filter fun x => decide (f ≤ x) && decide (x < f + S)).length = min N (f + S) - f
  | 0 => by simp
  | N + 1 => by
    rw [List.range_succ, List.filter_append, List.length_append, cnt_range N]
    by_cases q : f ≤ N ∧ N < f + S
    · rw [List.filter_cons_of_pos (by simp [q.1, q.2])]
      show _ + 1 = _
      omega
    · rw [List.filter_cons_of_neg (by simp; omega)]
      show _ + 0 = _
      omega
theorem put_full {s : Lb} {it : Nat} (ok : LbOk s) (hi : it < s.line.length) (hn : s.line.length = 2 ^ s.b) : s.put it = none := by
  have hml : ∀ p i, s.line[p]? = some i → s.at i = p := fun p i h => by
    have q := inc_range (xs := s.line.map s.at) (lo := 0) (List.pairwise_map.mpr ok.inc) (fun x hx => by
      obtain ⟨j, hj, rfl⟩ := List.mem_map.mp hx
      have := ok.top j ((ok.mem j).mp hj)
      rw [List.length_map]
      omega) p (s.at i) (by rw [List.getElem?_map, h]; rfl)
    omega
  have hp : s.line.idxOf it < s.line.length := List.idxOf_lt_length_of_mem ((ok.mem it).mpr hi)
  have hit : s.at it = s.line.idxOf it := hml _ _ (by rw [List.getElem?_eq_getElem hp, List.getElem_idxOf])
  have hend : s.endOf (s.line.idxOf it) = s.line.idxOf it + 1 := by
    unfold Lb.endOf
    cases h : s.line[s.line.idxOf it + 1]? with
    | some j => exact hml _ _ h
    | none =>
      have := List.getElem?_eq_none_iff.mp h
      show 2 ^ s.b = _
      omega
  have emap : s.line.map s.at = List.range s.line.length := by
    refine List.ext_getElem? fun p => ?_
    rw [List.getElem?_map]
    by_cases h : p < s.line.length
    · rw [List.getElem?_eq_getElem h, List.getElem?_range h]
      show some (s.at _) = some p
      rw [hml p _ (List.getElem?_eq_getElem h)]
    · rw [List.getElem?_eq_none (by omega), List.getElem?_eq_none (by rw [List.length_range]; omega)]
      rfl
  have hlv : s.levelOf (s.at it) = none := by
    unfold Lb.levelOf
    rw [List.find?_eq_none]
    intro l hl hh
    have hl := List.mem_range.mp hl
    have hh := of_decide_eq_true hh
    have ht := loS_top (l := l) (m := s.at it) (b := s.b) (by omega) (by rw [hit]; omega)
    have e : (s.inS l (loS l (s.at it))).length = 2 ^ l := by
      have e1 : (s.inS l (loS l (s.at it))).length = ((s.line.map s.at).filter fun x => decide (loS l (s.at it) ≤ x) && decide (x < loS l (s.at it) + 2 ^ l)).length := by
        rw [List.filter_map, List.length_map]
        rfl
      rw [e1, emap, cnt_range, hn, Nat.min_eq_right ht, Nat.add_sub_cancel_left]
    have := mostBy_le l
    have := Nat.two_pow_pos l
    omega
  unfold Lb.put
  dsimp only
  rw [if_pos (by omega), hlv]
end DL

/-! the sum of two lists that are known -/
namespace DL
open PySem PySem.Spec L2
variable [LamT]
end DL

/-! t == () for any tuple; defs as values, calls of them that raise -/
namespace DL
open PySem PySem.Spec L2
variable [LamT]
end DL

/-! _law_caught(lambda: ..) over owned things: the work changes them; or it raises, and they were only looked at -/
namespace DL
open PySem PySem.Spec L2 LamX
variable [LamT]
open PyProof.Rows (envOfC)
section
variable {K : PySem.W.Frag} {Z Z' : Addr → Prop} {H H1 H' : Hp} {E : EnvT} {σ : Sl} {F F' Gi : List Addr}
/-- behind a look at what was owned: it is owned again -/
theorem peek_back (he : EnvS K Z H E σ F) (hG : ∀ a ∈ Gi, a ∈ F) (s0 : Stp Z H [] Z H1 []) (s' : Stp (fun b => Z b ∨ b ∈ Gi) H1 [] Z' H' F') (zt : Zt K Z' H') :
    EnvS K (fun b => Z' b ∧ b ∉ Gi) H' E σ F ∧ Stp Z H F (fun b => Z' b ∧ b ∉ Gi) H' F := by
  have nzI : ∀ a ∈ Gi, ¬ Z a := fun a ha => he.nz a (hG a ha)
  have stay : ∀ a o, H a = some o → NTb o → H' a = some o := fun a o e n => s'.fr a o (s0.fr a o e (fun q => nomatch q) n) (fun q => nomatch q) n
  have kp : Kp Z H (fun b => Z' b ∧ b ∉ Gi) H' := ⟨fun a z => ⟨s'.z1 a (.inl z), fun g => nzI a g z⟩, fun a xs r => s'.tu a xs (s0.tu a xs r), fun a u z n e => stay a u e n, fun a o xs e => s'.ft a o xs (s0.ft a o xs e)⟩
  have nwb : ∀ a, Nw H1 a → Nw H a := fun a q o e n => q o (s0.fr a o e (fun q => nomatch q) n) n
  refine ⟨⟨he.r.kp kp fun a _ o n e => stay a o e n, he.nd, fun a ha ⟨z, zi⟩ => ?_, ⟨fun a z => zt.th a z.1, zt.tb⟩⟩, ⟨kp.z1, fun a z => ?_, fun a o e _ n => stay a o e n, fun h => s'.tb (s0.tb h), fun a o e n => ⟨o, stay a o e n, n⟩, fun a ha => .inl ha, kp.tu, kp.fl, kp.ft⟩⟩
  · rcases s'.z2 a z with (y | y) | y | y
    · exact he.nz a ha y
    · exact zi y
    · exact nomatch y
    · obtain ⟨o, e, n⟩ := he.r.mem a ha
      exact nwb a y o e n
  · rcases s'.z2 a z.1 with (y | y) | y | y
    · exact .inl y
    · exact absurd y z.2
    · exact nomatch y
    · exact .inr (.inr (nwb a y))
end
section
variable {X : Cx} {E E0 : EnvT} {k : Opd → EnvT → Prop}
end
end DL

/-! lists of lists that are only read while a statement runs: known for so long, one's own again behind it -/
namespace DL
open PySem PySem.Spec L2
variable [LamT]
mutual
def noF : D → Bool
  | .tup ds => noFs ds
  | .pt ds => noFs ds
  | .lst ds => noFs ds
  | .ow _ ds => noFs ds
  | .fz _ => false
  | .fd _ _ => false
  | .fw _ => false
  | .fo _ _ _ => false
  | .dic _ ds => noFs ds
  | .obj _ _ ds => noFs ds
  | _ => true
def noFs : List D → Bool
  | [] => true
  | d :: ds => noF d && noFs ds
end
theorem noFs_map {α : Type} {f : α → D} : ∀ {xs : List α}, (∀ x ∈ xs, noF (f x) = true) → noFs (xs.map f) = true
  | [], _ => rfl
  | x :: xs, h => by
    show (noF (f x) && noFs (xs.map f)) = true
    rw [h x List.mem_cons_self, noFs_map fun y hy => h y (List.mem_cons_of_mem _ hy)]
    rfl
def noFE : EnvT → Bool
  | [] => true
  | none :: E => noFE E
  | some d :: E => noF d && noFE E
section
variable {K : PySem.W.Frag} {Z Z' : Addr → Prop} {H : Hp}
mutual
theorem Rep.noF : ∀ {d : D} {v : V} {G : List Addr}, Rep K Z H d v G → DL.noF d = true → Rep K Z' H d v G
  | _, _, _, .non, _ => .non
  | _, _, _, .bl b, _ => .bl b
  | _, _, _, .int i, _ => .int i
  | _, _, _, .str x, _ => .str x
  | _, _, _, .tup e r, h => .tup e (Reps.noF r (by simpa [DL.noF] using h))
  | _, _, _, .pt e d r, h => .pt e d (Reps.noF r (by simpa [DL.noF] using h))
  | _, _, _, .lst e r, h => .lst e (Reps.noF r (by simpa [DL.noF] using h))
  | _, _, _, .fz e r, h => by simp [DL.noF] at h
  | _, _, _, .fd e r, h => by simp [DL.noF] at h
  | _, _, _, .dic e l r, h => .dic e l (Reps.noF r (by simpa [DL.noF] using h))
  | _, _, _, .obj e l r, h => .obj e l (Reps.noF r (by simpa [DL.noF] using h))
  | _, _, _, .op v, _ => .op v
  | _, _, _, .exc e, _ => .exc e
  | _, _, _, .exd e f, _ => .exd e f
  | _, _, _, .ow e r, h => .ow e (Reps.noF r (by simpa [DL.noF] using h))
  | _, _, _, .fw _ _ _, h => by simp [DL.noF] at h
  | _, _, _, .fo _ _ _ _, h => by simp [DL.noF] at h
theorem Reps.noF : ∀ {ds : List D} {vs : List V} {G : List Addr}, Reps K Z H ds vs G → noFs ds = true → Reps K Z' H ds vs G
  | _, _, _, .nil, _ => .nil
  | _, _, _, .cons r rs, h => by
    simp only [noFs, Bool.and_eq_true] at h
    exact .cons (Rep.noF r h.1) (Reps.noF rs h.2)
end
theorem EnvR.noF : ∀ {E : EnvT} {σ : Sl} {F : List Addr}, EnvR K Z H E σ F → noFE E = true → EnvR K Z' H E σ F
  | _, _, _, .nil, _ => .nil
  | _, _, _, .no r, h => .no (EnvR.noF r h)
  | _, _, _, .so r rs, h => by
    simp only [noFE, Bool.and_eq_true] at h
    exact .so (Rep.noF r h.1) (EnvR.noF rs h.2)
end
section
variable {X : Cx} {n : List Nat} {E : EnvT} {ks : KS} {st : Stmt}
end
end DL

/-! an owned thing only looked at while an expression runs; objects made with arguments -/
namespace DL
open PySem PySem.Spec L2
variable [LamT]
section
variable {X : Cx} {E E0 : EnvT} {k : Opd → EnvT → Prop} {e : Expr} {d : D}
theorem wo_peek (i : Nat) (hE : E[i]? = some (some d)) (hc : canF d = true) (m : Msk E E0) (hE0 : E0[i]? = some none)
    (h : WO X e (E0.set i (some (frz d))) fun o E1 => ∃ d', o = .val d' ∧ noF d' = true ∧ k (.val d') E) : WO X e E k := by
  intro Z H σ F Q he hk
  obtain ⟨v, Gi, R1, g1, g2, g3, g4⟩ := he.r.get hE
  have GiF : ∀ a ∈ Gi, a ∈ F := fun a ha => g4.mem_iff.mpr (List.mem_append_left _ ha)
  have kpz : Kp Z H (fun b => Z b ∨ b ∈ Gi) H := ⟨fun _ z => .inl z, fun _ _ z => z, fun _ _ _ _ z => z, fun _ _ _ z => z⟩
  obtain ⟨F3, e3', p3⟩ := ((he.r.msk m).kp kpz fun _ _ _ _ q => q).put (i := i) (d := frz d) (v := v) (G := []) hE0 g1 (g2.frz (fun _ z => .inl z) hc fun a ha => .inr ha)
  have n3 : F3 = [] := List.Perm.eq_nil (by simpa using p3)
  subst n3
  refine h _ H σ [] _ ⟨e3', List.nodup_nil, (fun _ q => nomatch q), ⟨fun a z => ?_, he.zt.tb⟩⟩ fun o E1 Z' H' F' G w ⟨d', eo, nf, kk⟩ f1 r => ?_
  · rcases z with z | z
    · exact he.zt.th a z
    · exact he.r.mem a (GiF a z)
  · subst eo
    have r : Rep X.K Z' H' d' w G := r
    have s' : Stp (fun b => Z b ∨ b ∈ Gi) H [] Z' H' G := f1.st.sub fun x hx => List.mem_append_left _ hx
    have s0 : Stp Z H [] Z H [] := Stp.refl
    obtain ⟨he2, st2⟩ := peek_back he GiF s0 s' f1.env.zt
    have newG : ∀ a ∈ G, Nw H a := fun a ha => (s'.f2 a ha).elim (fun q => nomatch q) id
    have offG : ∀ a ∈ G, a ∉ F := fun a ha hf => by
      obtain ⟨o, e, n⟩ := he.r.mem a hf
      exact newG a ha o e n
    refine hk (.val d') E _ H' F G w kk ⟨he2, List.nodup_append.mpr ⟨(List.nodup_append.mp f1.nd).1, he.nd, fun a ha b hb e => by subst e; exact offG a ha hb⟩, fun a ha z => f1.nz a ha z.1, ?_⟩ (r.noF nf)
    exact ⟨st2.z1, st2.z2, st2.fr, st2.tb, st2.th, fun a ha => (List.mem_append.mp ha).elim (fun q => .inr (newG a q)) (fun q => .inl q), st2.tu, st2.fl, st2.ft⟩
/-- x(e, ..), a new object; the arguments own nothing -/
theorem wo_make1 {es : List Expr} {S : Ct} {C : Addr} {x : Str} {kd j : Nat} {p pos : Pos} (M : ∃ f, Mk X.K C f) (c : CalM X.prog X.w X.K X.mg X.base kd C "__init__" (toSp X.K 1 S)) (hr : Room (j + 1) X.A) (hk : kd ≤ j) (hg : Gl X x) (hm : X.mg x = some (.ref C))
    (h : WA X (e :: es) E fun os E1 => ∃ ds, valsOf os = some ds ∧ Imms ds ∧ ∃ a, S.pre a (.obj C [] [] :: ds) ∧ ∀ d d0', S.post a d [d0'] → d = .non ∧ k (.val d0') E1) (hdb : (x == ("__debug__" : Str)) = false := by decide)
    (he0 : starEach (e :: es) X.env = (false, eval e X.env) :: starEach es X.env := by rfl) (hpl : (backTo pos (starEach es X.env)).any (·.1) = false := by rfl) : WO X (.Call (.Name x p) (e :: es) [] pos) E k := by
  obtain ⟨f, fd, ps, F, hc, hmm, b, _⟩ := c.ex
  obtain ⟨f', M⟩ := M
  have ef : f' = f := by
    have e1 := M.init
    have e2 := hmm.at_
    rw [e1] at e2
    cases e2
    rfl
  subst ef
  intro Z0 H0 σ F00 Q he00 hk'
  refine wpE_by (pe_make M F (hr.mono (Nat.succ_le_succ hk)) hg hm b .nil pass0 pa_w hdb he0 hpl) ?_
  refine h Z0 H0 σ F00 _ he00 fun os E1 Z H F0 G1 ws ⟨ds, eo, im, a, pa, hq⟩ f1 rs => ?_
  have eo' := valsOf_map eo
  subst eo'
  have rv0 := (rs.vals).nils im
  have f2 := f1.nil
  have he := f2.env
  intro o dx ho hdx ne
  have hdx' : (upd H dx (.own o)) o = none := by rw [upd_ne (Ne.symm ne)]; exact ho
  have g1 : Grow H (upd H dx (.own o)) [] := Grow.new0 hdx
  have g2 : Grow (upd H dx (.own o)) (upd (upd H dx (.own o)) o (.ins C dx [])) [o] := Grow.new hdx'
  have g : Grow H (upd (upd H dx (.own o)) o (.ins C dx [])) [o] := by simpa using g1.trans g2
  have offo : o ∉ F0 := fun hx => by
    obtain ⟨u, e, _⟩ := he.r.mem o hx
    rw [ho] at e
    cases e
  have nzo : ¬ Z o := fun z => by
    obtain ⟨u, e, _⟩ := he.zt.th o z
    rw [ho] at e
    cases e
  have rva : Reps X.K Z (upd (upd H dx (.own o)) o (.ins C dx [])) ds ws [] := rv0.kp g.kp fun a ha => nomatch ha
  refine ⟨Z, .obj C [] [] :: ds, [o], ?_, List.nodup_cons.mpr ⟨(fun h => nomatch h), List.nodup_nil⟩, fun z hz => by rw [List.mem_singleton.mp hz]; exact nzo, he.zt.gr g, a, pa, fun d ds' po v Z' H' G F2 r2 rv nd nz zt st => ?_⟩
  · rw [List.append_nil]
    exact .cons (F := [o]) (G := []) (.obj (dx := dx) (vs := []) (F := []) upd_same rfl .nil) rva
  have et : (V.ref o :: (ws ++ [])).take 1 = [V.ref o] := rfl
  rw [et] at r2
  cases r2 with
  | cons r2 rn =>
    cases rn
    rename_i d0' Fd
    rw [List.append_nil] at nd nz st
    obtain ⟨ed, kk⟩ := hq d d0' po
    subst ed
    cases rv
    rw [List.nil_append] at nd nz st
    refine ⟨rfl, ?_⟩
    have rF : EnvR X.K Z (upd (upd H dx (.own o)) o (.ins C dx [])) E1 σ F0 := he.r.kp g.kp fun a _ u _ e => g.gr a u e
    have off : ∀ z ∈ F0, z ∉ [o] := fun z hz q => by
      rw [List.mem_singleton.mp q] at hz
      exact offo hz
    have rF2 := rF.step st off
    have nzF := st.nz rF.mem off he.nz
    have apF : ∀ z ∈ Fd, z ∉ F0 := fun z hz hf => by
      rcases st.f2 z hz with q | q
      · exact off z hf q
      · obtain ⟨u, e, nt⟩ := rF.mem z hf
        exact q u e nt
    have s1 : Stp Z H F0 Z (upd (upd H dx (.own o)) o (.ins C dx [])) ([o] ++ F0) := g.st
    have s2 := s1.trans (st.more (fun z hz => List.mem_append_left _ hz) fun z hz => (List.mem_append.mp hz).imp_right fun q => List.mem_append_right _ q)
    have s3 := f2.st
    rw [List.nil_append] at s3
    exact hk' (.val d0') E1 Z' H' F0 Fd _ kk ⟨⟨rF2, he.nd, nzF, zt⟩, List.nodup_append.mpr ⟨nd, he.nd, fun z hz t ht q => by
      subst q
      exact apF z hz ht⟩, nz, s3.trans s2⟩ r2
end
end DL

/-! lists that an object's fields hold: self.f[e] = v -/
namespace DL
open PySem PySem.Spec L2
variable [LamT]
section
variable {X : Cx} {n : List Nat} {e o : Expr} {E : EnvT} {pos : Pos} {d : D} {k : EnvT → Prop} {a : Addr}
theorem wg_lputF (g : Nat) {us0 : List D} (hE : E[g]? = some (some (.ow a us0))) (ho : WO X o E fun o1 E1 => o1 = .bor g ∧ E1 = E) (im : Imm d)
    (h : WO X e E fun o1 E1 => ∃ (j : Nat) (us : List D), o1.get E1 = some (.int (j : Int)) ∧ E1[g]? = some (some (.ow a us)) ∧ Imms us ∧ j < us.length ∧ k (E1.set g (some (.ow a (us.set j d)))))
    (ha : ∀ v, assign (.Subscript o e pos) X.env v = (do
      let ov ← holding [v] (eval o X.env)
      let iv ← holding [v, ov] (eval e X.env)
      standAt pos
      holding [v, ov, iv] (setItem ov iv v)
      release [v, ov, iv] []) := by intro _; rfl) : WG X n (.Subscript o e pos) d E k := by
  intro Z H σ F G v Q he r nd nz hk
  have eG := r.imm im
  subst eG
  refine wpG_by (pg_sub pe_w pe_w set_list ha) ?_
  refine ho Z H σ F _ he fun o1 E0 Z0 H0 F0 G0 v0 ⟨eo, eE⟩ f0 r0 => ?_
  subst eo eE
  obtain ⟨hv, eG0⟩ := r0
  subst eG0
  obtain ⟨vs0, Fd0, R0, hv0, hl0, _⟩ := f0.env.ow hE
  rw [hv] at hv0
  cases hv0
  refine h Z0 H0 σ F0 _ f0.env fun o1 E1 Z1 H1 F1 G1 w ⟨j, us, g1, hE1, ims, hj, q⟩ f r1 => ?_
  obtain ⟨Gj, rj, _⟩ := r1.use f.env g1
  cases rj
  obtain ⟨vs1, Fd, R, hv1, hl1, rd, hR, hp1⟩ := f.env.ow hE1
  have hl := rd.len
  have r2 : Rep X.K Z1 H1 d v [] := (r.step f0.st fun y hy => nomatch hy).step f.st fun y hy => nomatch hy
  have rd0 := rd.nils ims
  have rset : Reps X.K Z1 H1 (us.set j d) (vs1.set j v) [] := by
    have hd0 : us[j]? = some us[j] := List.getElem?_eq_getElem hj
    exact rd0.setI hd0 (imms_get ims hd0) r2
  obtain ⟨F', e3, s3⟩ := f.env.chgO hE1 hv1 hl1 rd hR hp1 (Gt := []) (Fd' := []) f.env.nd (fun y hy => nomatch hy) (fun y hy => nomatch hy) (by simp) rset
  have f00 := f0.nil
  have s0 := f00.st
  rw [List.nil_append] at s0
  refine ⟨a, vs1, (j : Int), j, rfl, rfl, hl1, ixN_nat (by omega), ?_⟩
  exact hk _ Z1 _ σ F' q ⟨e3, e3.nd, (fun y hy => nomatch hy), s0.trans (f.nil.st.trans s3), Pin.refl⟩
/-- o.insert(e, f), o a list that a field holds -/
theorem wo_insertF {f : Expr} {kk0 : Opd → EnvT → Prop} {apos : Pos} (g : Nat) {us0 : List D} (hE : E[g]? = some (some (.ow a us0))) (ho : WO X o E fun o1 E1 => o1 = .bor g ∧ E1 = E)
    (h : WO X e E fun o1 E1 => WO X f E1 fun o2 E2 => ∃ j d us, o1.get E2 = some (.int j) ∧ o2 = .val d ∧ Imm d ∧ E2[g]? = some (some (.ow a us)) ∧ Imms us ∧ us.length < 100000 ∧ (0 ≤ j ∧ j < 2 ^ 63) ∧ kk0 (.val .non) (E2.set g (some (.ow a (us.take j.toNat ++ [d] ++ us.drop j.toNat)))))
    {rr : V → List V → Hp → VK → Prop} (hrr : rr = fun x vs H Q => ∃ (l : Addr) (xs : List V) (i : Int) (y : V), x = .ref l ∧ vs = [.int i, y] ∧ H l = some (.lst xs) ∧ xs.length < sizeLine ∧ 0 ≤ i ∧ i < 2 ^ 63 ∧ Q .non (upd H l (.lst (xs.take i.toNat ++ [y] ++ xs.drop i.toNat))))
    (hb : PE X (.Call (.Attribute o "insert" apos) [e, f] [] pos) (tBM X.K "list" rr (wpE X o) (wpA X [e, f]))) (hs : starEach [e, f] X.env = (false, eval e X.env) :: starEach [f] X.env := by rfl) (hs2 : starEach [f] X.env = (false, eval f X.env) :: starEach [] X.env := by rfl) :
    WO X (.Call (.Attribute o "insert" apos) [e, f] [] pos) E kk0 := by
  intro Z H σ F Q he hk
  refine wpE_by hb ?_
  refine ho Z H σ F _ he fun o1 E0 Z0 H0 F0 G0 v0 ⟨eo, eE⟩ f0 r0 => ?_
  subst eo eE
  obtain ⟨hv, eG0⟩ := r0
  subst eG0
  obtain ⟨vs0, Fd0, R0, hv0, hl0, _⟩ := f0.env.ow hE
  rw [hv] at hv0
  cases hv0
  refine ⟨.inl ⟨rfl, vs0, SqL.of hl0⟩, ?_⟩
  have hA : WA X [e, f] E0 fun os E2 => ∃ o1 o2, os = [o1, o2] ∧ ∃ j d us, o1.get E2 = some (.int j) ∧ o2 = .val d ∧ Imm d ∧ E2[g]? = some (some (.ow a us)) ∧ Imms us ∧ us.length < 100000 ∧ (0 ≤ j ∧ j < 2 ^ 63) ∧ kk0 (.val .non) (E2.set g (some (.ow a (us.take j.toNat ++ [d] ++ us.drop j.toNat)))) :=
    wa_cons (WO.mono h fun o1 E1 q => wa_cons (WO.mono q fun o2 E2 q => wa_nil ⟨o1, o2, rfl, q⟩) hs2) hs
  refine hA Z0 H0 σ F0 _ f0.env fun os E1 Z1 H1 F1 G vs ⟨o1, o2, eo, j, d, us, g1, ed, im, hE1, ims, hlen, hj, kk⟩ f1 rs => ?_
  subst eo
  subst ed
  cases rs with
  | cons r1 rn =>
    cases rn with
    | cons r2 rn =>
      cases rn
      rename_i w1 G1 w2 G2
      obtain ⟨Gj, rj, _⟩ := r1.use f1.env g1
      cases rj
      obtain ⟨vs1, Fd, R, hv1, hl1, rd, hR, hp1⟩ := f1.env.ow hE1
      have hl := rd.len
      have rd0 := rd.nils ims
      have r20 : Rep X.K Z1 H1 d w2 [] := Rep.nils r2 im
      obtain ⟨Ga, ra, _⟩ := rd0.take j.toNat
      obtain ⟨Gb, rb, _⟩ := rd0.drop j.toNat
      have ra0 := ra.nils (imms_iff.mpr fun d hd => imms_iff.mp ims d (List.take_subset _ _ hd))
      have rb0 := rb.nils (imms_iff.mpr fun d hd => imms_iff.mp ims d (List.drop_subset _ _ hd))
      obtain ⟨F', e2, s2⟩ := f1.env.chgO hE1 hv1 hl1 rd hR hp1 (Gt := []) (Fd' := []) f1.env.nd (fun y hy => nomatch hy) (fun y hy => nomatch hy) (by simp) ((ra0.app (Reps.one r20)).app rb0)
      subst hrr
      have s0 := f0.nil.st
      rw [List.nil_append] at s0
      refine ⟨a, vs1, j, w2, rfl, rfl, hl1, Nat.lt_of_lt_of_le (by omega) (by decide : 100000 ≤ sizeLine), hj.1, hj.2, ?_⟩
      exact hk _ _ Z1 _ F' [] _ kk ⟨e2, e2.nd, (fun y hy => nomatch hy), s0.trans (f1.nil.st.trans s2)⟩ .non
end
end DL

/-! what moves cost, paid by a stock: in plain Lean -/
namespace DL
open PySem PySem.Spec L2 Ln
def cntS (k q : Nat) (ms : List Nat) : Nat := ms.countP fun m => decide (m / 2 ^ k = q)
def halfBy (l : Nat) : Nat := (mostBy (l + 1) + 1) / 2
def sumR (f : Nat → Nat) : Nat → Nat
  | 0 => 0
  | n + 1 => sumR f n + f n
def stL (k : Nat) (ms : List Nat) (N : Nat) : Nat := sumR (fun q => 4 * (cntS k q ms - halfBy k)) N
/-- the stock: four for each item too many in half a stretch -/
def stock (b : Nat) (ms : List Nat) : Nat := sumR (fun k => stL k ms (2 ^ b)) b
theorem sumR_le {f g : Nat → Nat} : ∀ {N : Nat}, (∀ q, q < N → f q ≤ g q) → sumR f N ≤ sumR g N
  | 0, _ => Nat.le_refl _
  | N + 1, h => Nat.add_le_add (sumR_le fun q hq => h q (by omega)) (h N (by omega))
theorem sumR_at {f g : Nat → Nat} {q0 d e : Nat} (h : ∀ q, q ≠ q0 → f q ≤ g q) (h0 : f q0 + d ≤ g q0 + e) : ∀ {N : Nat}, q0 < N → sumR f N + d ≤ sumR g N + e
  | 0, hq => absurd hq (Nat.not_lt_zero _)
  | N + 1, hq => by
    show sumR f N + f N + d ≤ sumR g N + g N + e
    by_cases z : q0 = N
    · have := sumR_le (f := f) (g := g) (N := N) fun q hq => h q (by omega)
      rw [← z] at *
      omega
    · have := sumR_at h h0 (N := N) (by omega)
      have := h N (fun y => z y.symm)
      omega
theorem sumR_two {f g d e : Nat → Nat} : ∀ {N : Nat}, (∀ k, k < N → f k + d k ≤ g k + e k) → sumR f N + sumR d N ≤ sumR g N + sumR e N
  | 0, _ => Nat.le_refl _
  | N + 1, h => by
    have := sumR_two (N := N) fun k hk => h k (by omega)
    have := h N (by omega)
    show sumR f N + f N + (sumR d N + d N) ≤ sumR g N + g N + (sumR e N + e N)
    omega
theorem sumR_const {c : Nat} : ∀ N, sumR (fun _ => c) N = c * N
  | 0 => rfl
  | N + 1 => by
    show sumR _ N + c = c * (N + 1)
    rw [sumR_const N, Nat.mul_succ]
theorem sumR_cut {d : Nat → Nat} {l : Nat} : ∀ {N : Nat}, l ≤ N → sumR (fun k => if k < l then d k else 0) N = sumR d l
  | 0, h => by rw [show l = 0 by omega]; rfl
  | N + 1, h => by
    show sumR _ N + _ = _
    by_cases z : l = N + 1
    · subst z
      show _ + (if N < N + 1 then d N else 0) = sumR d N + d N
      rw [if_pos (by omega)]
      have : ∀ M, M ≤ N + 1 → sumR (fun k => if k < N + 1 then d k else 0) M = sumR d M := fun M => by
        induction M with
        | zero => intro _; rfl
        | succ M ih =>
          intro hM
          show _ + (if M < N + 1 then d M else 0) = sumR d M + d M
          rw [ih (by omega), if_pos (by omega)]
      rw [this N (by omega)]
    · rw [sumR_cut (N := N) (by omega)]
      show _ + (if N < l then d N else 0) = _
      rw [if_neg (by omega), Nat.add_zero]
theorem sumR_cut4 {l : Nat} : ∀ {N : Nat}, l ≤ N → sumR (fun k => if k < l then 0 else 4) N = 4 * (N - l)
  | 0, h => by rw [Nat.zero_sub]; rfl
  | N + 1, h => by
    show sumR _ N + _ = _
    by_cases z : l = N + 1
    · subst z
      show _ + (if N < N + 1 then 0 else 4) = _
      rw [if_pos (by omega), Nat.sub_self]
      have : ∀ M, M ≤ N + 1 → sumR (fun k => if k < N + 1 then 0 else 4) M = 0 := fun M => by
        induction M with
        | zero => intro _; rfl
        | succ M ih =>
          intro hM
          show _ + (if M < N + 1 then 0 else 4) = 0
          rw [ih (by omega), if_pos (by omega)]
      rw [this N (by omega)]
    · rw [sumR_cut4 (N := N) (by omega)]
      show _ + (if N < l then 0 else 4) = _
      rw [if_neg (by omega)]
      omega
theorem cntS_app {k q v : Nat} {ms : List Nat} : cntS k q (ms ++ [v]) = cntS k q ms + (if v / 2 ^ k = q then 1 else 0) := by
  unfold cntS
  rw [List.countP_append, List.countP_singleton]
  congr 1
  by_cases h : v / 2 ^ k = q
  · rw [if_pos h, if_pos (decide_eq_true h)]
  · rw [if_neg h, decide_eq_false h]
    rfl
/-- one label more -/
theorem stL_app {k v N : Nat} {ms : List Nat} (h : v / 2 ^ k < N) : stL k (ms ++ [v]) N ≤ stL k ms N + 4 := by
  unfold stL
  refine sumR_at (q0 := v / 2 ^ k) (d := 0) (e := 4) (fun q hq => ?_) ?_ h
  · rw [cntS_app, if_neg (fun z => hq z.symm)]
    exact Nat.le_refl _
  · rw [cntS_app, if_pos rfl]
    omega
theorem stock_app {b v : Nat} {ms : List Nat} (h : v < 2 ^ b) : stock b (ms ++ [v]) ≤ stock b ms + 4 * b := by
  unfold stock
  have := sumR_two (f := fun k => stL k (ms ++ [v]) (2 ^ b)) (g := fun k => stL k ms (2 ^ b)) (d := fun _ => 0) (e := fun _ => 4) (N := b) fun k _ => stL_app (Nat.lt_of_le_of_lt (Nat.div_le_self _ _) h)
  rw [sumR_const, sumR_const] at this
  omega
/-! ### most -/
theorem mostBy_pos (l : Nat) : 1 ≤ mostBy l := by
  unfold mostBy
  exact (Nat.le_div_iff_mul_le (Nat.pow_pos (by decide))).mpr (by rw [Nat.one_mul]; exact Nat.pow_le_pow_left (by decide) l)
theorem mostBy_two (j : Nat) : mostBy (j + 1) ≤ 2 * mostBy j := by
  have m1 := mostBy_pos j
  have B0 : 0 < 3 ^ j := Nat.pow_pos (by decide)
  unfold mostBy at m1 ⊢
  have h1 : 4 ^ j < 3 ^ j * (4 ^ j / 3 ^ j + 1) := Nat.lt_mul_div_succ _ B0
  generalize 4 ^ j / 3 ^ j = m at m1 h1
  have h2 : 4 ^ (j + 1) / 3 ^ (j + 1) < 2 * m + 1 := by
    rw [Nat.div_lt_iff_lt_mul (Nat.pow_pos (by decide)), Nat.pow_succ, Nat.pow_succ]
    generalize 3 ^ j = B at *
    generalize 4 ^ j = A at *
    have e1 : B * (m + 1) = B * m + B := Nat.mul_succ _ _
    have e2 : (2 * m + 1) * (B * 3) = 6 * (B * m) + 3 * B := by
      rw [Nat.add_mul, Nat.one_mul, Nat.mul_comm B 3, ← Nat.mul_assoc, Nat.mul_comm (2 * m) 3, ← Nat.mul_assoc, Nat.mul_assoc (3 * 2) m B, Nat.mul_comm m B]
    have e3 : B ≤ B * m := Nat.le_mul_of_pos_right B m1
    rw [e2]
    omega
  omega
theorem mostBy_far {k : Nat} : ∀ e, mostBy (k + 1 + e) ≤ 2 ^ e * mostBy (k + 1)
  | 0 => by rw [Nat.add_zero, Nat.pow_zero, Nat.one_mul]; exact Nat.le_refl _
  | e + 1 => by
    have h1 := mostBy_far (k := k) e
    have h2 := mostBy_two (k + 1 + e)
    rw [show k + 1 + (e + 1) = k + 1 + e + 1 by omega, Nat.pow_succ, Nat.mul_comm (2 ^ e) 2, Nat.mul_assoc]
    omega
/-- so many even places lie in a window -/
theorem half_ok {k l n : Nat} (hk : k < l) (n1 : 1 ≤ n) (hn : n ≤ mostBy l) : (n - 1) / 2 ^ (l - k) + 1 ≤ halfBy k := by
  obtain ⟨e, rfl⟩ : ∃ e, l = k + 1 + e := ⟨l - (k + 1), by omega⟩
  have h := mostBy_far (k := k) e
  have T1 := mostBy_pos (k + 1)
  unfold halfBy
  generalize mostBy (k + 1) = T at h T1 ⊢
  rw [show k + 1 + e - k = e + 1 by omega, Nat.pow_succ, ← Nat.div_div_eq_div_mul]
  have p := Nat.two_pow_pos e
  have h2 : (n - 1) / 2 ^ e ≤ T - 1 := by
    have : (n - 1) / 2 ^ e < T := by
      rw [Nat.div_lt_iff_lt_mul p, Nat.mul_comm]
      omega
    omega
  have h3 := Nat.div_le_div_right (c := 2) h2
  omega
theorem inc_len0 {N : Nat} : ∀ {xs : List Nat} {lo : Nat}, xs.Pairwise (· < ·) → (∀ x ∈ xs, lo ≤ x ∧ x < N) → xs.length ≤ N - lo
  | [], _, _, _ => Nat.zero_le _
  | x :: xs, lo, pw, hb => by
    obtain ⟨p1, p2⟩ := List.pairwise_cons.mp pw
    have hx := hb x List.mem_cons_self
    have q := inc_len0 (lo := x + 1) p2 fun y hy => ⟨p1 y hy, (hb y (List.mem_cons_of_mem _ hy)).2⟩
    rw [List.length_cons]
    omega
theorem win {R n j : Nat} (hR : 0 < R) (n1 : 1 ≤ n) : ((List.range n).countP fun p => decide (p * R / n = j)) ≤ (n - 1) / R + 1 := by
  rw [List.countP_eq_length_filter]
  cases hx : (List.range n).filter fun p => decide (p * R / n = j) with
  | nil => exact Nat.zero_le _
  | cons a xs =>
    have pw : (a :: xs).Pairwise (· < ·) := by rw [← hx]; exact List.Pairwise.filter _ List.pairwise_lt_range
    have mem : ∀ x ∈ a :: xs, x * R / n = j := fun x h => by
      rw [← hx] at h
      exact of_decide_eq_true (List.mem_filter.mp h).2
    have ha := mem a List.mem_cons_self
    have q := inc_len0 (xs := a :: xs) (lo := a) (N := a + ((n - 1) / R + 1)) pw fun x h => by
      have hx2 := mem x h
      have ax : a ≤ x := by
        rcases List.mem_cons.mp h with z | z
        · omega
        · exact Nat.le_of_lt ((List.pairwise_cons.mp pw).1 x z)
      refine ⟨ax, ?_⟩
      have b1 : n * j ≤ a * R := by rw [← ha]; exact Nat.mul_div_le _ _
      have b2 : x * R < n * (j + 1) := by rw [← hx2]; exact Nat.lt_mul_div_succ _ (by omega)
      have e1 : n * (j + 1) = n * j + n := Nat.mul_succ _ _
      have e2 : (x - a) * R = x * R - a * R := Nat.sub_mul _ _ _
      have b3 : (x - a) * R ≤ n - 1 := by omega
      have b4 := (Nat.le_div_iff_mul_le hR).mpr b3
      generalize (n - 1) / R = T at b4 ⊢
      omega
    rw [Nat.add_sub_cancel_left] at q
    exact q
/-- what a level's stretch of moves gives back is enough -/
theorem enough : ∀ l, l < 60 → mostBy l ≤ 4 * l + sumR (fun k => 4 * (mostBy k - halfBy k)) l + 1 := by decide +kernel
end DL

/-! each put is paid: in plain Lean -/
namespace DL
open PySem PySem.Spec L2 Ln
variable [LamT]
/-- all items' labels, by the row -/
theorem cnt_line {s : Lb} (ok : LbOk s) {k q : Nat} : cntS k q s.ms = s.line.countP fun i => decide (s.at i / 2 ^ k = q) := by
  have pm : s.line.Perm (List.range s.line.length) := (List.perm_ext_iff_of_nodup ok.nd List.nodup_range).mpr fun i => (ok.mem i).trans List.mem_range.symm
  have e : s.ms = (List.range s.line.length).map s.at := by
    refine List.ext_getElem? fun i => ?_
    rw [List.getElem?_map]
    by_cases h : i < s.line.length
    · rw [List.getElem?_range h]
      unfold Lb.at
      show _ = some (s.ms.getD i 0)
      rw [List.getD_eq_getElem?_getD, List.getElem?_eq_getElem (by rw [ok.len]; exact h)]
      rfl
    · rw [List.getElem?_eq_none (by rw [ok.len]; omega), List.getElem?_eq_none (by rw [List.length_range]; omega)]
      rfl
  unfold cntS
  rw [pm.countP_eq, e, List.countP_map]
  rfl
theorem st_iff {l u x : Nat} : (2 ^ l * u ≤ x ∧ x < 2 ^ l * u + 2 ^ l) ↔ x / 2 ^ l = u := by
  have p := Nat.two_pow_pos l
  constructor
  · rintro ⟨h1, h2⟩
    refine Nat.div_eq_of_lt_le ?_ ?_
    · rw [Nat.mul_comm]; exact h1
    · rw [Nat.mul_comm, Nat.mul_succ]; exact h2
  · intro h
    have h1 := Nat.mul_div_le x (2 ^ l)
    have h2 := Nat.lt_mul_div_succ x p
    rw [h] at h1 h2
    rw [Nat.mul_succ] at h2
    exact ⟨h1, h2⟩
theorem loS_eq {l m : Nat} : loS l m = 2 ^ l * (m / 2 ^ l) := by
  have := Nat.div_add_mod m (2 ^ l)
  unfold loS
  omega
theorem inP_st {g : Nat → Nat} {l m i : Nat} : inP g l (loS l m) i = true ↔ g i / 2 ^ l = m / 2 ^ l := by
  rw [inP_iff, loS_eq]
  exact st_iff
theorem up_spot {k l x : Nat} (h : k ≤ l) : x / 2 ^ k / 2 ^ (l - k) = x / 2 ^ l := by
  rw [Nat.div_div_eq_div_mul, ← Nat.pow_add, Nat.add_sub_cancel' h]
/-- entries that are alike at a level -/
theorem cnt_same {k q : Nat} : ∀ {xs ys : List Nat}, xs.length = ys.length → (∀ j, (xs.getD j 0 / 2 ^ k = q ↔ ys.getD j 0 / 2 ^ k = q)) → cntS k q xs = cntS k q ys
  | [], [], _, _ => rfl
  | [], _ :: _, h, _ => nomatch h
  | _ :: _, [], h, _ => nomatch h
  | x :: xs, y :: ys, h, hj => by
    have h0 : x / 2 ^ k = q ↔ y / 2 ^ k = q := hj 0
    have r := cnt_same (k := k) (q := q) (xs := xs) (ys := ys) (Nat.succ.inj h) fun j => hj (j + 1)
    unfold cntS at r ⊢
    rw [List.countP_cons, List.countP_cons, r]
    congr 1
    by_cases z : x / 2 ^ k = q
    · rw [if_pos (decide_eq_true z), if_pos (decide_eq_true (h0.mp z))]
    · rw [decide_eq_false z, decide_eq_false fun y => z (h0.mpr y)]
theorem movL_le {f S n new : Nat} : ∀ {ins : List Nat} {p : Nat} {mk : List Nat}, movL f S n new ins p mk ≤ (ins.filter fun i => decide (i ≠ new)).length
  | [], _, _ => Nat.le_refl _
  | i :: r, p, mk => by
    have h := movL_le (f := f) (S := S) (n := n) (new := new) (ins := r) (p := p + 1) (mk := mk.set i (f + p * S / n))
    show (if i ≠ new ∧ _ then 1 else 0) + movL f S n new r (p + 1) _ ≤ _
    by_cases z : i ≠ new
    · rw [List.filter_cons_of_pos (by simpa using z), List.length_cons]
      split <;> omega
    · rw [List.filter_cons_of_neg (by simp at z; simp [z]), if_neg (fun y => z y.1)]
      omega
theorem flt_ne {new : Nat} : ∀ {ins : List Nat}, ins.Nodup → new ∈ ins → (ins.filter fun i => decide (i ≠ new)).length + 1 = ins.length
  | [], _, h => nomatch h
  | i :: r, nd, h => by
    obtain ⟨n1, n2⟩ := List.nodup_cons.mp nd
    by_cases z : i = new
    · subst z
      rw [List.filter_cons_of_neg (by simp), List.length_cons]
      have : (r.filter fun j => decide (j ≠ i)) = r := List.filter_eq_self.mpr fun j hj => decide_eq_true fun y => n1 (y ▸ hj)
      rw [this]
    · rw [List.filter_cons_of_pos (by simpa using z), List.length_cons, List.length_cons, flt_ne n2 ((List.mem_cons.mp h).resolve_left fun y => z y.symm)]
/-- each put is paid -/
theorem put_paid {s s' : Lb} {it : Nat} (ok : LbOk s) (hi : it < s.line.length) (hb : s.b < 60) (h : s.put it = some s') :
    stock s'.b s'.ms + s'.tot ≤ stock s.b s.ms + s.tot + 4 * s.b ∧ s.tot ≤ s'.tot ∧ s'.tot ≤ s.tot + s.line.length := by
  obtain ⟨ok', el, eb⟩ := put_ok ok hi h
  obtain ⟨A, C, e, hx, hins, hnx⟩ := ins_split (v := s.line.length) ok.nd ((ok.mem it).mpr hi)
  have hend : s.endOf (s.line.idxOf it) = match C[0]? with | some j => s.at j | none => 2 ^ s.b := by
    unfold Lb.endOf
    rw [hnx]
    first | done | (cases C[0]? <;> rfl)
  obtain ⟨g1, g2, g3⟩ := end_gt ok e hend
  have htop := ok.top it hi
  unfold Lb.put at h
  dsimp only at h
  rw [hins] at h el
  by_cases q : s.endOf (s.line.idxOf it) - s.at it = 1
  · rw [if_pos q] at h
    cases hv : s.levelOf (s.at it) with
    | none => rw [hv] at h; exact nomatch h
    | some l =>
      rw [hv] at h
      have h := Option.some.inj h
      have hl := List.find?_some hv
      have hl := of_decide_eq_true hl
      have hlb : l < s.b + 1 := List.mem_range.mp (List.mem_of_find?_eq_some hv)
      have hmin : ∀ k, k < l → mostBy k ≤ (s.inS k (loS k (s.at it))).length := fun k hk => by
        have q2 := (List.find?_range_eq_some.mp hv).2.2 k hk
        have q3 : ¬ (s.inS k (loS k (s.at it))).length < mostBy k := by simpa using q2
        omega
      have hrl : (A ++ it :: s.line.length :: C).length = s.line.length + 1 := by
        conv => rhs; rw [e]
        simp
        omega
      obtain ⟨mem, nd⟩ := row_mem e ok.mem ok.nd
      have inl : ∀ i ∈ s.line, i < s.line.length := fun i hi => (ok.mem i).mp hi
      have at1 : ∀ i, i < s.line.length → (s.ms ++ [s.at it]).getD i 0 = s.at i := fun i hi => by
        rw [getD_app, if_neg (by rw [ok.len]; omega)]
        rfl
      have atn : (s.ms ++ [s.at it]).getD s.line.length 0 = s.at it := by rw [getD_app, if_pos ok.len.symm]
      have hm1 : (s.ms ++ [s.at it]).length = s.line.length + 1 := by rw [List.length_append, ok.len]; rfl
      -- the stretch, old and new
      have cnt := filter_one (g := s.at) (g' := fun i => (s.ms ++ [s.at it]).getD i 0) (l := l) (f := loS l (s.at it)) (it := it) (n := s.line.length) (A := A) (C := C) (fun i hi => at1 i (inl i (by rw [e]; exact hi))) (inP_st.mpr (by rw [at1 it hi])) (inP_st.mpr (by rw [atn]))
      rw [← e] at cnt
      have hlt : (s.line.filter (inP s.at l (loS l (s.at it)))).length < mostBy l := hl
      have hs : s' = { s with line := A ++ it :: s.line.length :: C, ms := layL (loS l (s.at it)) (2 ^ l) ((A ++ it :: s.line.length :: C).filter (inP (fun i => (s.ms ++ [s.at it]).getD i 0) l (loS l (s.at it)))).length ((A ++ it :: s.line.length :: C).filter (inP (fun i => (s.ms ++ [s.at it]).getD i 0) l (loS l (s.at it)))) 0 (s.ms ++ [s.at it]), tot := s.tot + movL (loS l (s.at it)) (2 ^ l) ((A ++ it :: s.line.length :: C).filter (inP (fun i => (s.ms ++ [s.at it]).getD i 0) l (loS l (s.at it)))).length s.line.length ((A ++ it :: s.line.length :: C).filter (inP (fun i => (s.ms ++ [s.at it]).getD i 0) l (loS l (s.at it)))) 0 (s.ms ++ [s.at it]) } := h.symm
      have memI : ∀ i, i ∈ (A ++ it :: s.line.length :: C).filter (inP (fun i => (s.ms ++ [s.at it]).getD i 0) l (loS l (s.at it))) ↔ i < s.line.length + 1 ∧ (s.ms ++ [s.at it]).getD i 0 / 2 ^ l = s.at it / 2 ^ l := fun i => by
        rw [List.mem_filter, mem, hrl, inP_st]
      have insnd : ((A ++ it :: s.line.length :: C).filter (inP (fun i => (s.ms ++ [s.at it]).getD i 0) l (loS l (s.at it)))).Nodup := nd.filter _
      generalize (A ++ it :: s.line.length :: C).filter (inP (fun i => (s.ms ++ [s.at it]).getD i 0) l (loS l (s.at it))) = ins at cnt hs memI insnd
      have insm : ∀ i ∈ ins, i < (s.ms ++ [s.at it]).length := fun i hi => by rw [hm1]; exact ((memI i).mp hi).1
      have n1 : 1 ≤ ins.length := by omega
      have nM : ins.length ≤ mostBy l := by omega
      have nS : ins.length ≤ 2 ^ l := Nat.le_trans nM (mostBy_le l)
      have newin : s.line.length ∈ ins := (memI _).mpr ⟨by omega, by rw [atn]⟩
      have mv := movL_le (f := loS l (s.at it)) (S := 2 ^ l) (n := ins.length) (new := s.line.length) (ins := ins) (p := 0) (mk := s.ms ++ [s.at it])
      have mv2 := flt_ne insnd newin
      have a2 : ∀ (p : Nat) (i : Nat), ins[p]? = some i → (layL (loS l (s.at it)) (2 ^ l) ins.length ins 0 (s.ms ++ [s.at it])).getD i 0 = loS l (s.at it) + p * 2 ^ l / ins.length := fun p i h => by
        rw [layL_at insm insnd h, Nat.zero_add]
      have a3 : ∀ i, i ∉ ins → (layL (loS l (s.at it)) (2 ^ l) ins.length ins 0 (s.ms ++ [s.at it])).getD i 0 = (s.ms ++ [s.at it]).getD i 0 := fun i h => layL_not insm h
      have hl2 : (layL (loS l (s.at it)) (2 ^ l) ins.length ins 0 (s.ms ++ [s.at it])).length = (s.ms ++ [s.at it]).length := layL_len
      have em : s'.ms = layL (loS l (s.at it)) (2 ^ l) ins.length ins 0 (s.ms ++ [s.at it]) := by rw [hs]
      have etot : s'.tot = s.tot + movL (loS l (s.at it)) (2 ^ l) ins.length s.line.length ins 0 (s.ms ++ [s.at it]) := by rw [hs]
      clear hs h
      generalize layL (loS l (s.at it)) (2 ^ l) ins.length ins 0 (s.ms ++ [s.at it]) = ms2 at a2 a3 hl2 em
      generalize movL (loS l (s.at it)) (2 ^ l) ins.length s.line.length ins 0 (s.ms ++ [s.at it]) = mvd at mv etot
      -- new labels lie in the stretch
      have inS2 : ∀ i ∈ ins, ms2.getD i 0 / 2 ^ l = s.at it / 2 ^ l := fun i hi => by
        obtain ⟨p, hp⟩ := List.mem_iff_getElem?.mp hi
        have hpl := (List.getElem?_eq_some_iff.mp hp).1
        rw [a2 p i hp, loS_eq]
        have := even_top (S := 2 ^ l) (n := ins.length) n1 (Nat.two_pow_pos l) hpl
        generalize p * 2 ^ l / ins.length = z at this ⊢
        exact st_iff.mp ⟨by omega, by omega⟩
      have far : ∀ {k q}, l ≤ k → cntS k q ms2 = cntS k q (s.ms ++ [s.at it]) := fun {k q} hk => by
        refine cnt_same hl2 fun j => ?_
        by_cases hj : j ∈ ins
        · have e1 := inS2 j hj
          have e2 := ((memI j).mp hj).2
          rw [← up_spot hk, ← up_spot (x := (s.ms ++ [s.at it]).getD j 0) hk, e1, e2]
        · rw [a3 j hj]
      have out : ∀ {k q}, k < l → q / 2 ^ (l - k) ≠ s.at it / 2 ^ l → cntS k q ms2 = cntS k q (s.ms ++ [s.at it]) := fun {k q} hk hq => by
        refine cnt_same hl2 fun j => ?_
        by_cases hj : j ∈ ins
        · have e1 := inS2 j hj
          have e2 := ((memI j).mp hj).2
          refine ⟨fun z => absurd ?_ hq, fun z => absurd ?_ hq⟩
          · rw [← z, up_spot (by omega), e1]
          · rw [← z, up_spot (by omega), e2]
        · rw [a3 j hj]
      have inn : ∀ {k q}, k < l → q / 2 ^ (l - k) = s.at it / 2 ^ l → cntS k q ms2 ≤ halfBy k := fun {k q} hk hq => by
        have atS : ∀ i, s'.at i = ms2.getD i 0 := fun i => by unfold Lb.at; rw [em]
        have pS : 2 ^ l = 2 ^ k * 2 ^ (l - k) := by rw [← Nat.pow_add, Nat.add_sub_cancel' (by omega)]
        have pk := Nat.two_pow_pos k
        have pR := Nat.two_pow_pos (l - k)
        have c1 : cntS k q ms2 = ins.countP fun i => decide (ms2.getD i 0 / 2 ^ k = q) := by
          rw [← em, cnt_line ok', List.countP_eq_length_filter, List.countP_eq_length_filter]
          refine ((List.perm_ext_iff_of_nodup (ok'.nd.filter _) (insnd.filter _)).mpr fun i => ?_).length_eq
          rw [List.mem_filter, List.mem_filter, decide_eq_true_iff, decide_eq_true_iff, atS, em, el, mem, hrl]
          refine ⟨fun ⟨h1, h2⟩ => ⟨?_, h2⟩, fun ⟨h1, h2⟩ => ⟨((memI i).mp h1).1, h2⟩⟩
          by_cases hj : i ∈ ins
          · exact hj
          · rw [a3 i hj] at h2
            exact (memI i).mpr ⟨h1, by rw [← up_spot (k := k) (l := l) (by omega), h2, hq]⟩
        have c2 : ins.map (fun i => ms2.getD i 0) = (List.range ins.length).map fun p => loS l (s.at it) + p * 2 ^ l / ins.length := by
          refine List.ext_getElem? fun p => ?_
          rw [List.getElem?_map, List.getElem?_map]
          by_cases hp : p < ins.length
          · rw [List.getElem?_eq_getElem hp, List.getElem?_range hp]
            exact congrArg some (a2 p _ (List.getElem?_eq_getElem hp))
          · rw [List.getElem?_eq_none (by omega), List.getElem?_eq_none (by rw [List.length_range]; omega)]
            rfl
        have c3 : (ins.countP fun i => decide (ms2.getD i 0 / 2 ^ k = q)) = (List.range ins.length).countP fun p => decide (p * 2 ^ (l - k) / ins.length = q % 2 ^ (l - k)) := by
          have e1 : (ins.countP fun i => decide (ms2.getD i 0 / 2 ^ k = q)) = (ins.map fun i => ms2.getD i 0).countP fun x => decide (x / 2 ^ k = q) := by
            rw [List.countP_map]
            rfl
          rw [e1, c2, List.countP_map]
          refine List.countP_congr fun p _ => ?_
          show decide ((loS l (s.at it) + p * 2 ^ l / ins.length) / 2 ^ k = q) = true ↔ _
          rw [decide_eq_true_iff, decide_eq_true_iff, loS_eq, pS, Nat.mul_assoc, Nat.mul_add_div pk, ← pS]
          have e2 : p * 2 ^ l / ins.length / 2 ^ k = p * 2 ^ (l - k) / ins.length := by
            rw [Nat.div_div_eq_div_mul, pS, Nat.mul_comm (2 ^ k) (2 ^ (l - k)), ← Nat.mul_assoc, Nat.mul_div_mul_right _ _ pk]
          rw [e2, ← hq]
          have e3 := Nat.div_add_mod q (2 ^ (l - k))
          generalize p * 2 ^ (l - k) / ins.length = z
          generalize 2 ^ (l - k) * (q / 2 ^ (l - k)) = z2 at e3 ⊢
          omega
        rw [c1, c3]
        exact Nat.le_trans (win pR n1) (half_ok hk n1 nM)
      have old : ∀ {k}, k < l → mostBy k ≤ cntS k (s.at it / 2 ^ k) s.ms := fun {k} hk => by
        rw [cnt_line ok, List.countP_eq_length_filter]
        refine Nat.le_trans (hmin k hk) (Nat.le_of_eq (congrArg List.length (List.filter_congr fun i _ => ?_)))
        by_cases z : s.at i / 2 ^ k = s.at it / 2 ^ k
        · rw [decide_eq_true z]
          exact inP_st.mpr z
        · rw [decide_eq_false z]
          exact Bool.eq_false_iff.mpr fun y => z (inP_st.mp y)
      have q0lt : ∀ k, s.at it / 2 ^ k < 2 ^ s.b := fun k => Nat.lt_of_le_of_lt (Nat.div_le_self _ _) htop
      have two := sumR_two (f := fun k => stL k ms2 (2 ^ s.b)) (g := fun k => stL k s.ms (2 ^ s.b)) (d := fun k => if k < l then 4 * (mostBy k - halfBy k) else 0) (e := fun k => if k < l then 0 else 4) (N := s.b) fun k hkb => by
        by_cases hk : k < l
        · rw [if_pos hk, if_pos hk]
          unfold stL
          refine sumR_at (q0 := s.at it / 2 ^ k) (fun q hq => ?_) ?_ (q0lt k)
          · by_cases z : q / 2 ^ (l - k) = s.at it / 2 ^ l
            · have := inn hk z
              omega
            · rw [out hk z, cntS_app, if_neg (fun y => hq y.symm)]
              exact Nat.le_refl _
          · have h1 := inn (q := s.at it / 2 ^ k) hk (up_spot (by omega))
            have h2 := old hk
            omega
        · rw [if_neg hk, if_neg hk]
          unfold stL
          refine sumR_at (q0 := s.at it / 2 ^ k) (fun q hq => ?_) ?_ (q0lt k)
          · rw [far (by omega), cntS_app, if_neg (fun y => hq y.symm)]
            exact Nat.le_refl _
          · rw [far (by omega), cntS_app, if_pos rfl]
            omega
      rw [sumR_cut (by omega), sumR_cut4 (by omega)] at two
      have enl := enough l (by omega)
      have short : ins.length ≤ s.line.length + 1 := by
        have := List.length_filter_le (inP s.at l (loS l (s.at it))) s.line
        omega
      refine ⟨?_, by omega, by omega⟩
      rw [em, etot, eb]
      unfold stock
      omega
  · rw [if_neg q] at h
    have h := Option.some.inj h
    subst h
    refine ⟨?_, Nat.le_refl _, Nat.le_add_right _ _⟩
    have := stock_app (b := s.b) (v := (s.at it + s.endOf (s.line.idxOf it)) / 2) (ms := s.ms) (by omega)
    show stock s.b (s.ms ++ [(s.at it + s.endOf (s.line.idxOf it)) / 2]) + s.tot ≤ _
    omega
end DL

/-! repr of a list or a tuple of ints; sorted(set(list of ints)) -/
namespace DL
open PySem PySem.Spec L2
open PyProof.Rows (IntsAre)
section
variable {P : Program} {w : World} {A : Around} {E : Value → Shared → Prop} {s : Shared}
/-- a built-in class is called: its maker, then its __init__ -/
theorem type_call {T nid iid : String} {args : List Value} {Q R : Value → Shared → Prop} (ft : TypeCalled T nid iid) (ck : checkTypeCall T ⟨args, []⟩ = pure ())
    (mk : codeAny (model P w) A.in1 (.call (.builtin nid) ⟨.type T :: args, []⟩) (wants R E) s)
    (ini : ∀ v s1, R v s1 → s1.TypeIs v T ∧ codeAny (model P w) A.in1 (.call (.builtin iid) ⟨v :: args, []⟩) (wants (fun r s2 => r = .none ∧ Q v s2) E) s1) : wpAny (model P w) A (call (.type T) args) Q E s := by
  obtain ⟨_, _, m1⟩ := ft.mro
  have m2 := And.intro ft.made (And.intro ft.sub (And.intro ft.notType ft.canCreate))
  obtain ⟨m2, m3, m4, m5⟩ := m2
  apply wpAny_call
  apply codeAny_of_tree
  change wpAny _ _ (callAny (Value.type T) _) _ _ _
  apply wpAny_pure
  refine ⟨Code.quiet_builtin _ (by decide +kernel), ?_⟩
  apply codeAny_builtin F.entry_type_call
  rewrite [Around.under_plain (weight_type_call_type T args []) rfl]
  repeat any_goals first | assumption | wp_step
  apply codeAny_mono mk
  intro o1 s1 h1
  match o1, h1 with
  | .error e, h1 => exact h1
  | .ok (.ret v), h1 =>
    have lk := ft.init.lookup
    have bd := ft.init.bind v
    obtain ⟨tv, go⟩ := ini v s1 h1
    repeat any_goals first | assumption | wp_step
    apply codeAny_mono go
    intro o2 s2 h2
    match o2, h2 with
    | .error e, h2 => exact h2
    | .ok (.ret r), h2 =>
      obtain ⟨er, q⟩ := h2
      subst er
      repeat any_goals first | assumption | wp_step
    | .ok .next, h2 => exact h2.elim
    | .ok .brk, h2 => exact h2.elim
    | .ok .cont, h2 => exact h2.elim
  | .ok .next, h1 => exact h1.elim
  | .ok .brk, h1 => exact h1.elim
  | .ok .cont, h1 => exact h1.elim
/-- a new empty set -/
abbrev set0 (w : World) : Obj := { cls := .type "set", dict := none, data := .set #[] 0 (.fresh 0 0 (!w.params.followText "set-order")) }
/-- set(xs), xs a list of ints: its members, and no more of them than xs has items -/
theorem set_listI {l : Addr} {its : Array Value} (ns : List Int) {Q : Value → Shared → Prop} (hh : A.handled = none) (hl : s.heap.IsList l its) (hit : IntsAre its.toList ns) (hb : ns.length + 1 < scanBound)
    (fin : ∀ (g : Heap) (c t : Nat), c ≤ ns.length → SetR w g s.heap.objs.size (fun j => decide (j ∈ ns)) c → (∀ b o, s.heap.get? b = some o → g.get? b = some o) → Q (.ref s.heap.objs.size) { s with heap := g, toks := t }) : wpAny (model P w) A (call (.type "set") [.ref l]) Q E s := by
  refine type_call (R := fun v s1 => v = .ref s.heap.objs.size ∧ s1 = { s with heap := s.heap.push (set0 w) }) F.called_set (F.typeCall_set_1 _) (code_set_led1 _ ⟨rfl, rfl⟩) ?_
  rintro v s1 ⟨rfl, rfl⟩
  have len : its.size = ns.length := by
    have q := hit.length
    rwa [Array.length_toList] at q
  have got : (s.heap.push (set0 w)).get? s.heap.objs.size = some (set0 w) := Heap.get?_push_size _ rfl
  have ty : Shared.TypeIs { s with heap := s.heap.push (set0 w) } (.ref s.heap.objs.size) "set" := ⟨_, got, rfl⟩
  obtain ⟨⟨c0, d0, o0, sl0⟩, gl, cl, nl, dl⟩ := hl
  simp only at cl dl
  subst cl dl
  have ll := Heap.lt_size gl
  have gl2 : (s.heap.push (set0 w)).get? l = some { cls := .type "list", dict := d0, data := .seq its nl, slots := sl0 } := Heap.get?_push_of_some _ gl
  have lst : (s.heap.push (set0 w)).IsList l its := ⟨_, gl2, rfl, nl, rfl⟩
  have sz : (s.heap.push (set0 w)).objs.size = s.heap.objs.size + 1 := Heap.size_push ..
  have f1 := F.sub_list_set
  have f2 := F.sub_list_frozenset
  have f3 : (Value.type "list" == Value.type "dict") = false := by decide
  refine ⟨ty, ?_⟩
  refine codeAny_call_builtin F.called_set.init.plain F.entry_set_init (check_set_init_1 ty ?_)
  unfold Builtin.«set.__init__» noKeywords Builtin.Frozenset.updateFrom
  generalize hPI : pyIter = PI
  wp_walk
  subst hPI
  apply wpAny_pyIter_list lst
  apply wpAny_bind
  apply wpAny_runValue
  have h3 : A.in1.in1.in1.handled = none := by simp [hh]
  have n1 : l ≠ (s.heap.push (set0 w)).objs.size := by rw [sz]; exact Nat.ne_of_lt (Nat.lt_succ_of_lt ll)
  have n2 : s.heap.objs.size ∉ [(s.heap.push (set0 w)).objs.size, l] := by
    rw [sz]
    intro z
    rcases List.mem_cons.mp z with z | z
    · exact absurd z (Nat.ne_of_lt (Nat.lt_succ_self _))
    · exact absurd (List.mem_singleton.mp z) (Nat.ne_of_gt ll)
  have val : ∀ (i : Nat) (v : Value), its[i]? = some v → ∃ k t, ns[i]? = some k ∧ v = .int k t := fun i v hv => by
    have il : i < ns.length := by rw [← len]; exact (Array.getElem?_eq_some_iff.mp hv).1
    obtain ⟨t, e⟩ := PyProof.Rows.IntsAre.int_at hit i v (by rwa [Array.getElem?_toList])
    refine ⟨ns[i], t, List.getElem?_eq_getElem il, ?_⟩
    rw [e, List.getD_eq_getElem?_getD, List.getElem?_eq_getElem il]
    rfl
  refine set_update_ints (Walks.list h3 _ l n1 its).toS s.heap.objs.size n2 ns len hb val its.size 0 _ rfl (Nat.zero_le _) ⟨⟨_, Heap.get?_push_size _ rfl, rfl, rfl⟩, lst.push _⟩ ⟨0, Nat.le_refl _, ?_⟩ fun s2 c mv hc hS => ?_
  · exact setR_new_at (Heap.get?_push_of_some _ got)
  · obtain ⟨h2, g2, d2, t2, o2⟩ := s2
    have e1 : g2 = s.gens := mv.gens
    have e2 : d2 = s.drawn := mv.drawn
    have e3 : o2 = s.os := mv.os
    subst e1 e2 e3
    change wpAny _ _ _ _ _ _
    apply wpAny_pure
    change wpAny _ _ (ret Value.none) _ _ _
    apply wpAny_pure
    rw [len] at hc
    refine ⟨rfl, fin _ c _ hc hS fun b o e => ?_⟩
    have lb := Heap.lt_size e
    refine mv.heap b o (fun z => ?_) (Heap.get?_push_of_some _ (Heap.get?_push_of_some _ e))
    rw [sz] at z
    rcases List.mem_cons.mp z with z | z
    · exact absurd z (Nat.ne_of_lt lb)
    · exact absurd (List.mem_singleton.mp z) (Nat.ne_of_lt (Nat.lt_succ_of_lt lb))
end
theorem inc_ext : ∀ {as bs : List Int}, as.Pairwise (· < ·) → bs.Pairwise (· < ·) → (∀ k, k ∈ as ↔ k ∈ bs) → as = bs
  | [], [], _, _, _ => rfl
  | [], b :: bs, _, _, h => nomatch (h b).mpr List.mem_cons_self
  | a :: as, [], _, _, h => nomatch (h a).mp List.mem_cons_self
  | a :: as, b :: bs, ha, hb, h => by
    obtain ⟨a1, a2⟩ := List.pairwise_cons.mp ha
    obtain ⟨b1, b2⟩ := List.pairwise_cons.mp hb
    have e : a = b := by
      rcases List.mem_cons.mp ((h a).mp List.mem_cons_self) with q | q
      · exact q
      · rcases List.mem_cons.mp ((h b).mpr List.mem_cons_self) with z | z
        · exact z.symm
        · have := b1 a q
          have := a1 b z
          omega
    subst e
    rw [inc_ext a2 b2 fun k => ?_]
    constructor
    · intro hk
      rcases List.mem_cons.mp ((h k).mp (List.mem_cons_of_mem _ hk)) with q | q
      · have := a1 k hk
        omega
      · exact q
    · intro hk
      rcases List.mem_cons.mp ((h k).mpr (List.mem_cons_of_mem _ hk)) with q | q
      · have := b1 k hk
        omega
      · exact q
/-- what repr shows of ints -/
def shL (ns : List Int) : Str := (PyData.list (ns.map .int)).shown
def shT (ns : List Int) : Str := (PyData.tuple (ns.map .int)).shown
theorem reads_ints {h : Heap} : ∀ {us : List Value} {ns : List Int}, IntsAre us ns → ReadsAll h us (ns.map PyData.int) []
  | _, _, .nil => .nil
  | _, _, .cons n t q => .cons (.int n t) (reads_ints q)
/-- small ints -/
def Small (ns : List Int) : Prop := ns.length ≤ 1000000 ∧ ∀ i ∈ ns, -1000000 < i ∧ i < 1000000
theorem leaves_ints : ∀ {ns : List Int}, (∀ i ∈ ns, -1000000 < i ∧ i < 1000000) → PyData.leavesShortAll 8 (ns.map .int) = true
  | [], _ => rfl
  | n :: ns, h => by
    have h1 := h n List.mem_cons_self
    have z := int_text_length_le10 (a := n) (k := 6) (by decide) (by omega)
    have e : (PyData.int n).leavesShort 8 = true := by
      simp only [PyData.leavesShort, decide_eq_true_eq]
      show (Str.ofString (toString n)).length ≤ 8
      have e2 : (Str.ofString (toString n)).length = (toString n).length := ofString_length _
      omega
    have r := leaves_ints fun i hi => h i (List.mem_cons_of_mem _ hi)
    show (_ && _) = true
    rw [e, r]
    rfl
theorem bulk_ints : ∀ {ns : List Int}, PyData.bulkAll (ns.map .int) = ns.length
  | [] => rfl
  | n :: ns => by
    show 0 + 1 + PyData.bulkAll (ns.map .int) = ns.length + 1
    rw [bulk_ints]
    omega
theorem show_ints : ∀ {ns : List Int}, (∀ i ∈ ns, -1000000 < i ∧ i < 1000000) → PyData.showableAll (ns.map .int) = true
  | [], _ => rfl
  | n :: ns, h => by
    have h1 := h n List.mem_cons_self
    have l1 : n.natAbs.log2 < 1920 := by
      by_cases z : n.natAbs = 0
      · rw [z]; decide
      · exact Nat.lt_of_lt_of_le ((Nat.log2_lt z).mpr (show n.natAbs < 2 ^ 20 by omega)) (by decide)
    show (PyData.showable (.int n) && PyData.showableAll (ns.map .int)) = true
    rw [show_ints fun i hi => h i (List.mem_cons_of_mem _ hi), PyData.showable, decide_eq_true l1]
    rfl
theorem nodict_ints : ∀ {ns : List Int}, PyData.hasDictAll (ns.map .int) = false
  | [] => rfl
  | n :: ns => by
    show (_ || PyData.hasDictAll (ns.map .int)) = false
    rw [nodict_ints]
    rfl
theorem depth_ints : ∀ {ns : List Int}, PyData.depthAll (ns.map .int) = 0
  | [] => rfl
  | n :: ns => by
    show max _ (PyData.depthAll (ns.map .int)) = 0
    rw [depth_ints]
    rfl
variable [LamT]
section
variable {X : Cx}
/-- repr(xs), xs a list or a tuple of ints; no repr is under way -/
def rRepr (K : PySem.W.Frag) : List V → Hp → VK → Prop := fun vs H Q => ∃ (a : Addr) (ns : List Int), vs = [V.ref a] ∧ Small ns ∧ ((SqL K H a (ns.map V.int) ∧ Q (.str (shL ns)) H) ∨ (SqT K H a (ns.map V.int) ∧ Q (.str (shT ns)) H))
theorem cr_repr (hgd : X.A.guards = some []) (hu : X.A.units + 64 < cLine) : CallR X (.builtin "repr") (rRepr X.K) := by
  intro pins s σ H vs us Q I r h
  obtain ⟨a, ns, rfl, sm, h⟩ := h
  rw [Vals.ref1 r]
  have fits : ∀ d : PyData, d.leavesShort 8 = true → d.bulk ≤ 1000000 → d.shown.length ≤ sizeLine := fun d h1 h2 => PyData.shown_fits_bulk (B := 8) (by decide) (by decide) h1 (by omega)
  have lv := leaves_ints sm.2
  have bk : PyData.bulkAll (ns.map .int) ≤ 1000000 := by rw [bulk_ints]; exact sm.1
  rcases h with ⟨hs, q⟩ | ⟨hs, q⟩
  · obtain ⟨its, rv, pl, hz⟩ := I.list hs
    obtain ⟨o, e1, e2, n, e3⟩ := pl.isList
    have rd : Reads s.heap (.ref a) (.list (ns.map .int)) [a] := .list e1 e2 e3 (by simpa using reads_ints rv.ints)
    refine repr_of_reads' rd (show_ints sm.2) (fun z => ?_) hgd (by simp only [PyData.depth, depth_ints]; omega) (fun _ _ e => e) (fun h' u tk k => ⟨.str (shL ns), H, I.kept k, ⟨u, rfl⟩, q⟩) (fits _ lv bk)
    have z : PyData.hasDictAll (ns.map .int) = true := z
    rw [nodict_ints] at z
    cases z
  · obtain ⟨its, rv, pl, hz⟩ := I.tuple hs
    obtain ⟨o, e1, e2, n, e3⟩ := pl
    have rd : Reads s.heap (.ref a) (.tuple (ns.map .int)) [] := .tuple e1 e2 e3 (by simpa using reads_ints rv.ints)
    refine repr_of_reads' rd (show_ints sm.2) (fun z => ?_) hgd (by simp only [PyData.depth, depth_ints]; omega) (fun _ _ e => e) (fun h' u tk k => ⟨.str (shT ns), H, I.kept k, ⟨u, rfl⟩, q⟩) (fits _ lv bk)
    have z : PyData.hasDictAll (ns.map .int) = true := z
    rw [nodict_ints] at z
    cases z
/-- set(xs) of a list of ints -/
def rSetL (w : World) (K : PySem.W.Frag) : List V → Hp → VK → Prop := fun vs H Q => ∃ (a : Addr) (ns : List Int), vs = [V.ref a] ∧ SqL K H a (ns.map V.int) ∧ ns.length + 1 < scanBound ∧ ∀ (p : Addr) (c : Nat), H p = none → c ≤ ns.length → Q (.ref p) (upd H p (SetO w p (fun j => decide (j ∈ ns)) c))
theorem cr_setL (hc : X.calm = true) : CallR X (.type "set") (rSetL X.w X.K) := by
  intro pins s σ H vs us Q I r h
  obtain ⟨a, ns, rfl, hs, hb, q⟩ := h
  obtain ⟨its, rv, pl, hz⟩ := I.list hs
  rw [Vals.ref1 r]
  refine set_listI ns (I.ok.hd hc) pl.isList (by simpa using rv.ints) hb fun g c tk hl hS k => ?_
  exact ⟨.ref s.heap.objs.size, _, I.laid (t' := tk) k (Nat.le_refl _) (setO_new hS), rfl, q _ c (I.hok.fresh (Nat.le_refl _)) hl⟩
end
section
variable {X : Cx} {a : Expr} {E : EnvT} {k : Opd → EnvT → Prop} {pos p p2 pos2 : Pos}
theorem wo_reprL (hgd : X.A.guards = some []) (hu : X.A.units + 64 < cLine) (hg : Gl X "repr") (hm : X.mg "repr" = none) (h : WO X a E fun o E1 => ∃ ns : List Int, Small ns ∧ (((o.get E1).bind D.lseq = some (ns.map D.int) ∧ k (.val (.str (shL ns))) E1) ∨ ((o.get E1).bind D.tseq = some (ns.map D.int) ∧ k (.val (.str (shT ns))) E1)))
    (hs : starEach [a] X.env = (false, eval a X.env) :: starEach [] X.env := by rfl) : WO X (.Call (.Name "repr" p) [a] [] pos) E k :=
  wo_b1 (pe_callB (cr_repr hgd hu) hg hm (by decide +kernel) pa_w (he := hs)) (WO.mono h fun o E1 ⟨ns, sm, q⟩ => by
    cases g : o.get E1 with
    | none =>
      rw [g] at q
      rcases q with ⟨z, _⟩ | ⟨z, _⟩
      · simp at z
      · simp at z
    | some d1 =>
      rw [g] at q
      rcases q with ⟨g1, kk⟩ | ⟨g1, kk⟩
      · refine ⟨d1, rfl, fun d => d = .str (shL ns), fun Z H v G rv Q q => ?_, fun d e => by rw [e]; exact kk⟩
        obtain ⟨x, vs, G', rfl, hs, rs⟩ := rv.lseq (by simpa using g1)
        have ev := rs.ints
        subst ev
        exact ⟨x, ns, rfl, sm, .inl ⟨hs, q _ _ H [] rfl (.str _) Grow.refl⟩⟩
      · refine ⟨d1, rfl, fun d => d = .str (shT ns), fun Z H v G rv Q q => ?_, fun d e => by rw [e]; exact kk⟩
        obtain ⟨x, vs, rfl, hs, rs⟩ := rv.tseq (by simpa using g1)
        have ev := rs.ints
        subst ev
        exact ⟨x, ns, rfl, sm, .inr ⟨hs, q _ _ H [] rfl (.str _) Grow.refl⟩⟩) hs
end
end DL

/-! sorted(set(list of ints)), a long list -/
namespace DL
open PySem PySem.Spec L2
open PyProof.Rows Srt
section
variable {P : Program} {w : World} {A : Around} {E : Value → Shared → Prop} {s : Shared}
theorem sorted_setS {a : Addr} {S : Int → Bool} {n : Nat} {Q : Value → Shared → Prop} (R : SetR w s.heap a S n) (hh : A.handled = none) (few : n ≤ 100000)
    (fin : ∀ (s2 : Shared) (p : Addr) (out : List Value) (c : Nat) (ns : List Int), (∀ b o, s.heap.get? b = some o → s2.heap.get? b = some o) → s2.gens = s.gens → s2.os = s.os → s.heap.objs.size ≤ p → s2.heap.get? p = some (seqObj "list" out.toArray c) →
      IntsAre out ns → ns.Pairwise (· < ·) → (∀ k, k ∈ ns ↔ S k = true) → ns.length = n → Q (.ref p) s2) : wpAny (model P w) A (call (.builtin "sorted") [.ref a]) Q E s := by
  obtain ⟨o, es, ep, t, ho, hex, hd, gd, nd, hm, hb, hf, hn, hr, hl⟩ := R
  refine Calls.call_function_entry kind_sorted plain_sorted entry_sorted (args_sorted1 _) (show wpAny _ _ (Builtin.«sorted» _) _ _ _ from ?_)
  unfold Builtin.«sorted»
  refine wpAny_bind (m := checkCount "sorted" 1 1 _) (wpAny_pure (wpAny_bind (collect_set (A := A.in1) hh ⟨o, ho, hex.1, hd⟩ hf hb hr hl fun s1 vs keep hz eg eo pm => ?_)))
  have hi : IntsAre vs (vs.map Builtin.Re.reRawOf) := ints_of vs fun v hv => by
    obtain ⟨e, he, q⟩ := List.mem_map.mp (pm.mem_iff.mp hv)
    obtain ⟨k, tk, h1, _⟩ := gd e he
    exact ⟨k, tk, q ▸ h1⟩
  have pk : (vs.map Builtin.Re.reRawOf).Perm (es.toList.map keyOf) := by
    have q := pm.map Builtin.Re.reRawOf
    rwa [List.map_map] at q
  have hlen : vs.length = n := by
    rw [← hn, pm.length_eq, List.length_map, Array.length_toList]
  have small : vs.length ≤ sizeLine := by rw [hlen, sizeLine_eq]; omega
  have made : (s1.heap.push (seqObj "list" vs.toArray 0)).get? s1.heap.objs.size = some (seqObj "list" vs.toArray 0) := Heap.get?_push_size _ rfl
  refine wpAny_bind (wpAny_newList (wpAny_bind (wpAny_holding (wpAny_call_entry slot_list_sort ⟨_, made, rfl⟩ entry_list_sort (SrtO.list_sort_ord SrtO.swo_int made small (fun h2 => SrtO.ints_sortable hi h2) fun out r1 r2 => ⟨_, rfl, ?_⟩) (args_list_sort _)))) small)
  obtain ⟨c, told⟩ := sortedHeap_at (vs := vs) (out := out.toArray) made
  obtain ⟨q1, q2, q3⟩ := SrtO.ints_out hi r1 r2
  have pn := q2.trans pk
  refine wpAny_pure ⟨_, rfl, fin _ s1.heap.objs.size out c _ (fun b u e => ?_) eg eo hz told q1 (lt_of_le_nodup _ q3 (pn.nodup_iff.mpr nd)) (fun k => by rw [pn.mem_iff, ← hm k]) ?_⟩
  · have z := keep b u e
    have lt := Heap.lt_size z
    show (sortedHeap (s1.heap.push (seqObj "list" vs.toArray 0)) s1.heap.objs.size vs out.toArray).get? b = some u
    rw [sortedHeap_old (Nat.ne_of_lt lt) (by rw [size_push']; exact Nat.lt_succ_of_lt lt), Heap.get?_push_of_some _ z]
  · rw [pn.length_eq, List.length_map, Array.length_toList]
    exact hn
end
variable [LamT]
section
variable {X : Cx}
def rSortSB (w : World) : List V → Hp → VK → Prop := fun vs H Q => ∃ (a : Addr) (S : Int → Bool) (n : Nat), vs = [V.ref a] ∧ H a = some (SetO w a S n) ∧ n ≤ 100000 ∧ ∀ (ns : List Int) (p : Addr), ns.Pairwise (· < ·) → (∀ k : Int, k ∈ ns ↔ S k = true) → H p = none → Q (.ref p) (upd H p (.lst (ns.map V.int)))
theorem cr_sortSB (hc : X.calm = true) : CallR X (.builtin "sorted") (rSortSB X.w) := by
  intro pins s σ H vs us Q I r h
  obtain ⟨a, S, n, rfl, ha, few, q⟩ := h
  rw [Vals.ref1 r]
  refine sorted_setS (setO_get I ha) (I.ok.hd hc) few fun s2 p out c ns k g o hp told hi inc mem len => ?_
  have lz : (ns.map V.int).length ≤ sizeLine := by rw [List.length_map, len, sizeLine_eq]; omega
  have hn : H p = none := I.hok.fresh hp
  have J : Inv X pins σ (upd H p (.lst (ns.map V.int))) { s with heap := s2.heap, gens := s2.gens, drawn := s2.drawn, toks := s2.toks } :=
    I.call (ch := []) (Un.laid k hp hn) (I.hok.laid k hp ⟨lz, out, c, vals_of_ints hi, told⟩) (by rw [g]; exact I.bare) (fun _ z => (nomatch z))
  have e : s2 = { s with heap := s2.heap, gens := s2.gens, drawn := s2.drawn, toks := s2.toks } := by
    obtain ⟨h1, h2, h3, h4, h5⟩ := s2
    have o : h5 = s.os := o
    subst o
    rfl
  rw [e]
  exact ⟨.ref p, _, J, rfl, q ns p inc mem hn⟩
end
section
variable {X : Cx} {a : Expr} {E : EnvT} {k : Opd → EnvT → Prop} {pos p p2 pos2 : Pos}
/-- sorted(set(xs)) of rising ints, a long list -/
theorem wo_sortedSetB (hc : X.calm = true) (hg : Gl X "sorted") (hm : X.mg "sorted" = none) (hg2 : Gl X "set") (hm2 : X.mg "set" = none)
    (h : WO X a E fun o E1 => ∃ ns : List Int, (o.get E1).bind D.lseq = some (ns.map D.int) ∧ ns.Pairwise (· < ·) ∧ ns.length < 1000 ∧ k (.val (.lst (ns.map D.int))) E1)
    (hs : starEach [a] X.env = (false, eval a X.env) :: starEach [] X.env := by rfl)
    (hs2 : starEach [.Call (.Name "set" p) [a] [] p2] X.env = (false, eval (.Call (.Name "set" p) [a] [] p2) X.env) :: starEach [] X.env := by rfl) :
    WO X (.Call (.Name "sorted" pos2) [.Call (.Name "set" p) [a] [] p2] [] pos) E k := by
  have hp : PE X (.Call (.Name "sorted" pos2) [.Call (.Name "set" p) [a] [] p2] [] pos) (tCB (fun vs H Q => rSetL X.w X.K vs H fun v H1 => rSortSB X.w [v] H1 Q) (wpA X [a])) :=
    show PE X _ (tCB (rSortSB X.w) (tCons (tCB (rSetL X.w X.K) (wpA X [a])) tNil)) from
      pe_callB (cr_sortSB hc) hg hm (by decide +kernel) (pa_cons (pe_callTy (cr_setL hc) hg2 hm2 (by decide +kernel) pa_w (he := hs)) pa_nil hs2) (he := hs2)
  refine wo_b1 hp (WO.mono h fun o E1 ⟨ns, g1, inc, few, kk⟩ => ?_) hs
  cases g : o.get E1 with
  | none => rw [g] at g1; simp at g1
  | some d1 =>
    rw [g] at g1
    refine ⟨d1, rfl, fun d => d = .lst (ns.map D.int), fun Z H v G rv Q q => ?_, fun d e => by rw [e]; exact kk⟩
    obtain ⟨x, vs, G', rfl, hs, rs⟩ := rv.lseq (by simpa using g1)
    have ev := rs.ints
    subst ev
    refine ⟨x, ns, rfl, hs, by unfold scanBound; omega, fun l c hl hc2 => ⟨l, _, c, rfl, upd_same, by omega, fun ns' l2 h1 h2 hl2 => ?_⟩⟩
    have e : ns' = ns := inc_ext h1 inc fun j => (h2 j).trans decide_eq_true_iff
    subst e
    exact q _ _ _ [l2] rfl (.lst upd_same (Reps.ofInts ns')) ((Grow.new0 hl).trans (Grow.new hl2))
end
end DL

/-! dicts of ints that count: d[e] = v, old or new; a dict walked by its keys while an expression runs -/
namespace DL
open PySem PySem.Spec L2
variable [LamT]
/-- a dict of ints with one entry set -/
def putNs (ns : List Int) (m : Int) : List Int := if m ∈ ns then ns else ns ++ [m]
def putCs (ns cs : List Int) (m x : Int) : List Int := if m ∈ ns then cs.set (ns.idxOf m) x else cs ++ [x]
section
variable {X : Cx} {n : List Nat} {e : Expr} {E : EnvT} {pos p : Pos} {i : Nat} {x : Str} {y : Int} {k : EnvT → Prop}
theorem wg_dputI (hu : X.A.units + 1 < cLine) (hN : X.N[i]? = some x) (hE : ∃ k0 d0, E[i]? = some (some (.dic k0 d0)))
    (h : WO X e E fun o E1 => ∃ (ns cs : List Int) (m : Int), o.get E1 = some (.int m) ∧ E1[i]? = some (some (.dic (ns.map Sum.inl) (cs.map D.int))) ∧ ns.Nodup ∧ ns.length ≤ 100000 ∧ k (E1.set i (some (.dic ((putNs ns m).map Sum.inl) ((putCs ns cs m y).map D.int)))))
    (hv : Vis X.env.scope x) (hdb : (x == ("__debug__" : Str)) = false) (hcd : (x == ("__classdict__" : Str)) = false)
    (ha : ∀ v, assign (.Subscript (.Name x p) e pos) X.env v = (do
      let ov ← holding [v] (eval (.Name x p) X.env)
      let iv ← holding [v, ov] (eval e X.env)
      standAt pos
      holding [v, ov, iv] (setItem ov iv v)
      release [v, ov, iv] []) := by intro _; rfl) : WG X n (.Subscript (.Name x p) e pos) (.int y) E k := by
  intro Z H σ F G v Q he r nd nz hk'
  obtain ⟨k0, d0, hE⟩ := hE
  obtain ⟨a, vs0, Fd0, R0, hv1, hH0, _⟩ := he.dic hE
  cases r
  refine wpG_by (pg_sub (pe_slot hN hv hdb hcd) pe_w (set_dict hu) ha) ⟨_, hv1, h Z H σ F _ he fun o E2 Z2 H2 F2 G2 w ⟨ns, cs, m, g, hE2, nnd, hlen, kk⟩ f2 r2 => ?_⟩
  obtain ⟨Gk, rk, _⟩ := r2.use f2.env g
  cases rk
  obtain ⟨a2, vs, Fd, R, hv2, hH, hl, rs, hR, hp⟩ := f2.env.dic hE2
  rw [hv1] at hv2
  cases hv2
  have ev := rs.ints
  subst ev
  have lc : ns.length = cs.length := by rw [List.length_map, List.length_map] at hl; exact hl
  have haF : a ∈ F2 := hp.mem_iff.mpr (List.mem_append_left _ List.mem_cons_self)
  have s1 : Stp Z2 H2 [a] Z2 (upd H2 a (.dK (putK ((ns.map Sum.inl).zip (cs.map V.int)) (Sum.inl m) (V.int y)))) [a] := Stp.upd (by simp) (f2.env.nz a haF) (dic_nt hH)
  have ek : putK ((ns.map (Sum.inl : Int → Key)).zip (cs.map V.int)) (Sum.inl m) (V.int y) = ((putNs ns m).map (Sum.inl : Int → Key)).zip ((putCs ns cs m y).map V.int) := by
    unfold putNs putCs
    by_cases q : m ∈ ns
    · rw [if_pos q, if_pos q]
      have hi : ns.idxOf m < ns.length := List.idxOf_lt_length_of_mem q
      have nk : (ns.map (Sum.inl : Int → Key)).Nodup := List.pairwise_map.mpr (nnd.imp fun h z => h (Sum.inl.inj z))
      rw [putK_zip (j := ns.idxOf m) (v0 := V.int (cs[ns.idxOf m]'(by omega))) nk (by rw [List.getElem?_map, List.getElem?_eq_getElem hi, List.getElem_idxOf]; rfl) (by rw [List.getElem?_map, List.getElem?_eq_getElem (by omega)]; rfl), List.map_set]
    · rw [if_neg q, if_neg q]
      have nk : (Sum.inl m : Key) ∉ ns.map (Sum.inl : Int → Key) := fun z => by
        obtain ⟨y, hy, e⟩ := List.mem_map.mp z
        cases e
        exact q hy
      rw [putK_new hl nk, List.map_append, List.map_append]
      rfl
  have l2 : (putNs ns m).length = (putCs ns cs m y).length := by
    unfold putNs putCs
    split
    · rw [List.length_set, lc]
    · rw [List.length_append, List.length_append, lc]
      rfl
  have rep : Rep X.K Z2 (upd H2 a (.dK (putK ((ns.map Sum.inl).zip (cs.map V.int)) (Sum.inl m) (V.int y)))) (.dic ((putNs ns m).map Sum.inl) ((putCs ns cs m y).map D.int)) (.ref a) [a] := by
    refine .dic (vs := (putCs ns cs m y).map V.int) ?_ (by rw [List.length_map, List.length_map, l2]) (Reps.ofInts _)
    rw [upd_same, ek]
  obtain ⟨F', e2, s2⟩ := f2.env.chgN hE2 hv1 (.dic hH hl rs) hR hp List.mem_cons_self (dic_nt hH) (fun y hy => by rw [List.mem_singleton.mp hy]; exact List.mem_cons_self) (by simp) rep
  refine ⟨a, _, rfl, DPut.k (k := Sum.inl m) hH ?_, ?_⟩
  · rw [List.length_zip, List.length_map]
    exact Nat.lt_of_le_of_lt (Nat.le_trans (Nat.min_le_left _ _) hlen) (by decide)
  · exact hk' _ Z2 _ σ F' kk ⟨e2, e2.nd, (fun y hy => nomatch hy), f2.nil.st.trans s2, Pin.refl⟩
end
/-- a dict of ints, locked -/
def lkD (od : Obj) (ns cs : List Int) : Addr → HO := fun _ => .frz od (.dK ((ns.map Sum.inl).zip (cs.map V.int)))
section
variable {X : Cx} {E E0 : EnvT} {k : Opd → EnvT → Prop} {e : Expr}
theorem ntb_frzD {o : Obj} {u : HO} : NTb (.frz o u) := fun ps z => nomatch z
/-- while an expression runs, the dict in the slot i is locked; the expression gives a number -/
theorem wo_lockD {ns cs : List Int} (i : Nat) (hE : E[i]? = some (some (.dic (ns.map Sum.inl) (cs.map D.int)))) (m : Msk E E0) (hE0 : E0[i]? = some none)
    (h : ∀ od : Obj, WO X e (E0.set i (some (.fw (lkD od ns cs)))) fun o E1 => ∃ j, o = .val (.int j) ∧ k (.val (.int j)) E) : WO X e E k := by
  intro Z H σ F Q he hk
  obtain ⟨a, vs, Fd, R, hv1, hH, hl, rs, hR, hp⟩ := he.dic hE
  have ev := rs.ints
  subst ev
  have aF : a ∈ F := hp.mem_iff.mpr (List.mem_append_left _ List.mem_cons_self)
  have aZ : ¬ Z a := he.nz a aF
  refine wpE_by (pe_lock pe_w) ⟨a, _, hH, trivial, fun od => ?_⟩
  have s0 : Stp Z H F Z (upd H a (.frz od (.dK ((ns.map Sum.inl).zip (cs.map V.int))))) F := Stp.upd aF aZ (dic_nt hH) ntb_frzD
  have sm : ∀ b, b ≠ a → upd H a (.frz od (.dK ((ns.map Sum.inl).zip (cs.map V.int)))) b = H b := fun b hb => upd_ne hb
  have at1 : upd H a (.frz od (.dK ((ns.map Sum.inl).zip (cs.map V.int)))) a = some (lkD od ns cs a) := upd_same
  generalize upd H a (.frz od (.dK ((ns.map Sum.inl).zip (cs.map V.int)))) = H1 at s0 sm at1
  have neT : ∀ {b xs}, Rd H b (.tup xs) → b ≠ a := fun {b xs} r z => by
    subst z
    rcases r with r | ⟨o, r⟩ <;> (rw [hH] at r; cases r)
  have kp : Kp Z H (fun b => Z b ∨ b = a) H1 := ⟨fun _ z => .inl z, fun b xs r => by
      have := sm b (neT r)
      unfold Rd
      rw [this]
      exact r, fun b u z n e => by rw [sm b fun y => aZ (y ▸ z)]; exact e, fun b o xs e => by rw [sm b (neT (.inr ⟨o, e⟩))]; exact e⟩
  obtain ⟨F3, e3, p3⟩ := ((he.r.msk m).kp kp fun _ q => nomatch q).put (i := i) (d := .fw (lkD od ns cs)) (v := .ref a) (G := []) hE0 hv1 (.fw (.inr rfl) at1 ntb_frzD)
  have n3 : F3 = [] := List.Perm.eq_nil (by simpa using p3)
  subst n3
  refine h od (fun b => Z b ∨ b = a) H1 σ [] _ ⟨e3, List.nodup_nil, (fun _ q => nomatch q), ⟨fun b z => ?_, s0.tb he.zt.tb⟩⟩ fun o E1 Z' H' F' G w ⟨j, eo, kk⟩ f1 r => ?_
  · by_cases q : b = a
    · subst q
      exact ⟨_, at1, ntb_frzD⟩
    · rw [sm b q]
      exact he.zt.th b (z.resolve_right q)
  subst eo
  have r : Rep X.K Z' H' (.int j) w G := r
  cases r
  have s' : Stp (fun b => Z b ∨ b = a) H1 [] Z' H' [] := f1.st.sub fun x hx => List.mem_append_left _ hx
  have ha' : H' a = some (.frz od (.dK ((ns.map Sum.inl).zip (cs.map V.int)))) := s'.fr a _ at1 (fun q => nomatch q) ntb_frzD
  refine ⟨ha', ?_⟩
  have nx : NX H' a := ⟨fun xs r => (by rcases r with r | ⟨o, r⟩ <;> (rw [ha'] at r; cases r)), fun ps z => (by rw [ha'] at z; cases z), fun φ z => (by rw [ha'] at z; cases z)⟩
  have s2 : Stp (fun b => Z' b ∧ b ≠ a) H' [a] (fun b => Z' b ∧ b ≠ a) (upd H' a (.dK ((ns.map Sum.inl).zip (cs.map V.int)))) [a] := Stp.upd List.mem_cons_self (fun z => z.2 rfl) nx
  have sm2 : ∀ b, b ≠ a → upd H' a (.dK ((ns.map Sum.inl).zip (cs.map V.int))) b = H' b := fun b hb => upd_ne hb
  have at2 : upd H' a (.dK ((ns.map Sum.inl).zip (cs.map V.int))) a = some (.dK ((ns.map Sum.inl).zip (cs.map V.int))) := upd_same
  generalize upd H' a (.dK ((ns.map Sum.inl).zip (cs.map V.int))) = H2 at s2 sm2 at2
  have stay : ∀ b o, H b = some o → NTb o → H2 b = some o := fun b o e n => by
    by_cases q : b = a
    · subst q
      rw [hH] at e
      rw [at2, e]
    · rw [sm2 b q]
      exact s'.fr b o ((sm b q).trans e) (fun z => nomatch z) n
  have kp2 : Kp Z H (fun b => Z' b ∧ b ≠ a) H2 := ⟨fun b z => ⟨s'.z1 b (.inl z), fun y => aZ (y ▸ z)⟩, fun b xs r => by
      have q := neT r
      have r1 : Rd H1 b (.tup xs) := by unfold Rd; rw [sm b q]; exact r
      have r2 := s'.tu b xs r1
      unfold Rd
      rw [sm2 b q]
      exact r2, fun b u z n e => stay b u e n, fun b o xs e => stay b _ e ntb_frzD⟩
  have tb2 : LamX.Tabs LamT.tk H2 := s2.tb f1.env.zt.tb
  have z2 : ∀ b, Z' b ∧ b ≠ a → Z b ∨ b ∈ F ∨ Nw H b := fun b ⟨z, q⟩ => by
    rcases s'.z2 b z with (y | y) | y | y
    · exact .inl y
    · exact absurd y q
    · exact nomatch y
    · refine .inr (.inr fun o e => y o ?_)
      rw [sm b q]
      exact e
  have env : EnvS X.K (fun b => Z' b ∧ b ≠ a) H2 E σ F := ⟨he.r.kp kp2 fun b _ o n e => stay b o e n, he.nd, fun b hb z => by
      rcases s'.z2 b z.1 with (y | y) | y | y
      · exact he.nz b hb y
      · exact z.2 y
      · exact nomatch y
      · obtain ⟨o, e, n⟩ := he.r.mem b hb
        exact y o ((sm b z.2).trans e) n, ⟨fun b z => by
      obtain ⟨o, e, n⟩ := f1.env.zt.th b z.1
      exact ⟨o, (sm2 b z.2).trans e, n⟩, tb2⟩⟩
  exact hk (.val (.int j)) E _ H2 F [] (.int j) kk ⟨env, he.nd, (fun b q => nomatch q), ⟨kp2.z1, z2, fun b o e _ n => stay b o e n, fun _ => tb2, fun b o e n => ⟨o, stay b o e n, n⟩, fun b hb => .inl hb, kp2.tu, kp2.fl, kp2.ft⟩⟩ (.int j)
end
section
variable {X : Cx} {n : List Nat} {e : Expr} {E : EnvT} {pos p : Pos} {tg : Expr} {i : Nat} {x : Str}
theorem EnvS.fw {K : PySem.W.Frag} {Z : Addr → Prop} {H : Hp} {σ : Sl} {F : List Addr} {fo : Addr → HO} (e : EnvS K Z H E σ F) (hE : E[i]? = some (some (.fw fo))) : ∃ a, σ[i]? = some (some (.ref a)) ∧ H a = some (fo a) ∧ Z a ∧ NTb (fo a) := by
  obtain ⟨v, G, R, h1, h2, h3, h4⟩ := e.r.get hE
  cases h2 with
  | fw z e n => exact ⟨_, h1, e, z, n⟩
/-- for .. in d, d locked -/
theorem wi_keysL {od : Obj} {ns cs : List Int} {k : List (Nat × D) → Nat → (Nat → D) → EnvT → Prop} (hN : X.N[i]? = some x) (hE : E[i]? = some (some (.fw (lkD od ns cs)))) (hl : ns.length = cs.length)
    (h : k [] ns.length (fun j => .int (ns.getD j 0)) E) (hv : Vis X.env.scope x) (hdb : (x == ("__debug__" : Str)) = false) (hcd : (x == ("__classdict__" : Str)) = false) : WI X tg (.Name x p) E k := by
  intro Z H σ F R he hk
  obtain ⟨a, hv1, hH, hz, hn⟩ := he.fw hE
  have zl : ((ns.map (Sum.inl : Int → Key)).zip (cs.map V.int)).length = ns.length := by rw [List.length_zip, List.length_map, List.length_map, hl, Nat.min_self]
  refine wpI_by (pi_keys (pe_slot hN hv hdb hcd)) ⟨_, hv1, a, od, rfl, .inl ⟨_, hH, ?_⟩⟩
  refine hk [] ns.length _ E Z H F _ (fun _ H' => H' a = some (.frz od (.dK ((ns.map Sum.inl).zip (cs.map V.int))))) [] h (Fin.refl he).nil ⟨fun Z' j H' hj q => ⟨q, by rw [zl]; exact hj⟩, fun Z' H' q => ⟨q, by rw [zl]; exact Nat.le_refl _⟩, fun Z' j H' y H'' hj q ⟨e1, kk, v, e2, e3⟩ => ?_⟩ hH fun E' Z' H' σ' F' G fs _ => fs.st.fr a _ hH (fun z => he.nz a z hz) hn
  subst e1 e3
  rw [List.getElem?_zip_eq_some] at e2
  have e4 := e2.1
  rw [List.getElem?_map, List.getElem?_eq_getElem hj] at e4
  cases e4
  rw [List.getD_eq_getElem?_getD, List.getElem?_eq_getElem hj]
  exact ⟨.int _, Grow.refl⟩
/-- d[e], d locked -/
theorem wo_dgetL {od : Obj} {ns cs : List Int} {k : Opd → EnvT → Prop} (hu : X.A.units + 1 < cLine) (hN : X.N[i]? = some x) (hE : E[i]? = some (some (.fw (lkD od ns cs)))) (hs : NoSl e)
    (h : WO X e E fun o E1 => ∃ (m : Int) (j : Nat) (c : Int), o.get E1 = some (.int m) ∧ ns.Nodup ∧ ns[j]? = some m ∧ cs[j]? = some c ∧ k (.val (.int c)) E1)
    (hv : Vis X.env.scope x) (hdb : (x == ("__debug__" : Str)) = false) (hcd : (x == ("__classdict__" : Str)) = false) : WO X (.Subscript (.Name x p) e pos) E k := by
  intro Z H σ F Q he hk'
  obtain ⟨a, hv1, hH, hz, hn⟩ := he.fw hE
  refine wpE_by (pe_dget hu (pe_var hN hv hdb hcd) pe_w hs) ⟨_, hv1, h Z H σ F _ he fun o E1 Z1 H1 F1 G1 w ⟨m, j, c, g, nd, hj, hc, kk⟩ f r1 => ?_⟩
  obtain ⟨Gj, rj, _⟩ := r1.use f.env g
  cases rj
  have h1 : H1 a = some (lkD od ns cs a) := f.st.fr a _ hH (fun z => he.nz a z hz) hn
  have gk : DGet H1 a (.int m) (valV ((ns.map (Sum.inl : Int → Key)).zip (cs.map V.int)) (Sum.inl m)) := .inl ⟨_, Sum.inl m, .inr ⟨od, h1⟩, rfl, rfl⟩
  have nk : (ns.map (Sum.inl : Int → Key)).Nodup := List.pairwise_map.mpr (nd.imp fun h z => h (Sum.inl.inj z))
  rw [valV_zip (j := j) (v := V.int c) nk (by rw [List.getElem?_map, hj]; rfl) (by rw [List.getElem?_map, hc]; rfl)] at gk
  exact ⟨_, _, rfl, gk, hk' _ E1 Z1 H1 F1 [] _ kk f.nil (.int c)⟩
end
end DL

/-! counting labels by spots, in plain Lean -/
namespace DL
open PySem PySem.Spec L2 Ln
variable [LamT]
def nJ (xs : List Nat) : List Int := xs.map fun n : Nat => (n : Int)
theorem nJ_mem {xs : List Nat} {x : Nat} : (x : Int) ∈ nJ xs ↔ x ∈ xs := by
  unfold nJ
  rw [List.mem_map]
  exact ⟨fun ⟨y, h, e⟩ => Int.ofNat.inj e ▸ h, fun h => ⟨x, h, rfl⟩⟩
theorem nJ_idx {x : Nat} : ∀ {xs : List Nat}, (nJ xs).idxOf (x : Int) = xs.idxOf x
  | [] => rfl
  | y :: xs => by
    have ih := nJ_idx (x := x) (xs := xs)
    unfold nJ at ih ⊢
    rw [List.map_cons, List.idxOf_cons, List.idxOf_cons, ih]
    congr 1
    by_cases q : y = x
    · subst q
      rw [beq_self_eq_true, beq_self_eq_true]
    · rw [beq_eq_false_iff_ne.mpr q, beq_eq_false_iff_ne.mpr (fun z => q (Int.ofNat.inj z) : (y : Int) ≠ (x : Int))]
theorem nJ_nd {xs : List Nat} (h : xs.Nodup) : (nJ xs).Nodup := List.pairwise_map.mpr (h.imp fun h z => h (Int.ofNat.inj z))
theorem nJ_len {xs : List Nat} : (nJ xs).length = xs.length := List.length_map ..
/-- the spots met so far, each with how many labels -/
structure Cnt (k : Nat) (ms qs : List Nat) : Prop where
  nd : qs.Nodup
  mem : ∀ q, q ∈ qs ↔ 0 < cntS k q ms
theorem Cnt.start {k : Nat} : Cnt k [] [] := ⟨List.nodup_nil, fun q => ⟨fun h => (nomatch h), fun h => absurd h (Nat.lt_irrefl 0)⟩⟩
def qsN (qs : List Nat) (q : Nat) : List Nat := if q ∈ qs then qs else qs ++ [q]
theorem Cnt.get {k m : Nat} {ms qs : List Nat} (C : Cnt k ms qs) : (if ((m / 2 ^ k : Nat) : Int) ∈ nJ qs then (nJ (qs.map fun q => cntS k q ms)).getD ((nJ qs).idxOf ((m / 2 ^ k : Nat) : Int)) 0 else 0) = ((cntS k (m / 2 ^ k) ms : Nat) : Int) := by
  by_cases h : m / 2 ^ k ∈ qs
  · rw [if_pos (nJ_mem.mpr h), nJ_idx]
    have hi := List.idxOf_lt_length_of_mem h
    unfold nJ
    rw [List.getD_eq_getElem?_getD, List.getElem?_map, List.getElem?_map, List.getElem?_eq_getElem hi, List.getElem_idxOf]
    rfl
  · rw [if_neg fun z => h (nJ_mem.mp z)]
    have : ¬ 0 < cntS k (m / 2 ^ k) ms := fun z => h ((C.mem _).mpr z)
    omega
theorem Cnt.step {k m : Nat} {ms qs : List Nat} (C : Cnt k ms qs) : Cnt k (ms ++ [m]) (qsN qs (m / 2 ^ k)) ∧ putNs (nJ qs) ((m / 2 ^ k : Nat) : Int) = nJ (qsN qs (m / 2 ^ k)) ∧
    putCs (nJ qs) (nJ (qs.map fun q => cntS k q ms)) ((m / 2 ^ k : Nat) : Int) ((cntS k (m / 2 ^ k) ms : Nat) + 1) = nJ ((qsN qs (m / 2 ^ k)).map fun q => cntS k q (ms ++ [m])) := by
  unfold qsN putNs putCs
  by_cases h : m / 2 ^ k ∈ qs
  · rw [if_pos h, if_pos (nJ_mem.mpr h), if_pos (nJ_mem.mpr h), nJ_idx]
    refine ⟨⟨C.nd, fun q => ?_⟩, rfl, ?_⟩
    · rw [cntS_app, C.mem q]
      constructor
      · intro z; omega
      · intro z
        by_cases y : m / 2 ^ k = q
        · rw [← y]; exact (C.mem _).mp h
        · rw [if_neg y] at z; omega
    · have hi := List.idxOf_lt_length_of_mem h
      refine List.ext_getElem? fun j => ?_
      rw [List.getElem?_set]
      unfold nJ
      by_cases z : qs.idxOf (m / 2 ^ k) = j
      · subst z
        rw [if_pos rfl, if_pos (by rw [List.length_map, List.length_map]; exact hi), List.getElem?_map, List.getElem?_map, List.getElem?_eq_getElem hi, List.getElem_idxOf]
        show some _ = some (((cntS k (m / 2 ^ k) (ms ++ [m])) : Nat) : Int)
        rw [cntS_app, if_pos rfl]
        rfl
      · rw [if_neg z, List.getElem?_map, List.getElem?_map, List.getElem?_map, List.getElem?_map]
        by_cases hj : j < qs.length
        · rw [List.getElem?_eq_getElem hj]
          have ne : m / 2 ^ k ≠ qs[j] := fun y => z (by rw [y]; exact List.Nodup.idxOf_getElem C.nd j hj)
          show some _ = some (((cntS k qs[j] (ms ++ [m])) : Nat) : Int)
          rw [cntS_app, if_neg ne]
          rfl
        · rw [List.getElem?_eq_none (by omega)]
          rfl
  · rw [if_neg h, if_neg (fun z => h (nJ_mem.mp z)), if_neg (fun z => h (nJ_mem.mp z))]
    have c0 : cntS k (m / 2 ^ k) ms = 0 := by
      have : ¬ 0 < cntS k (m / 2 ^ k) ms := fun z => h ((C.mem _).mpr z)
      omega
    refine ⟨⟨?_, fun q => ?_⟩, ?_, ?_⟩
    · refine List.nodup_append.mpr ⟨C.nd, List.nodup_cons.mpr ⟨(fun z => nomatch z), List.nodup_nil⟩, fun a ha b hb e => h ?_⟩
      rw [← List.mem_singleton.mp hb, ← e]
      exact ha
    · rw [List.mem_append, List.mem_singleton, cntS_app, C.mem q]
      constructor
      · rintro (z | z)
        · omega
        · rw [if_pos z.symm]; omega
      · intro z
        by_cases y : m / 2 ^ k = q
        · exact .inr y.symm
        · rw [if_neg y] at z; exact .inl (by omega)
    · unfold nJ
      rw [List.map_append]
      rfl
    · unfold nJ
      rw [List.map_append, List.map_append]
      congr 1
      · rw [List.map_map, List.map_map]
        refine List.map_congr_left fun q hq => ?_
        show ((cntS k q ms : Nat) : Int) = ((cntS k q (ms ++ [m]) : Nat) : Int)
        rw [cntS_app, if_neg (fun z : m / 2 ^ k = q => h (by rw [z]; exact hq))]
        rfl
      · show [((cntS k (m / 2 ^ k) ms : Nat) : Int) + 1] = [((cntS k (m / 2 ^ k) (ms ++ [m]) : Nat) : Int)]
        rw [cntS_app, if_pos rfl]
        rfl
theorem sumR_range {f : Nat → Nat} : ∀ N, sumR f N = ((List.range N).map f).sum
  | 0 => rfl
  | N + 1 => by
    rw [List.range_succ, List.map_append, List.sum_append, ← sumR_range N]
    show _ + f N = _ + (f N + 0)
    omega
theorem sum_flt {f : Nat → Nat} {P : Nat → Bool} : ∀ {xs : List Nat}, (∀ x ∈ xs, P x = false → f x = 0) → ((xs.filter P).map f).sum = (xs.map f).sum
  | [], _ => rfl
  | x :: xs, h => by
    have ih := sum_flt (f := f) (P := P) (xs := xs) fun y hy => h y (List.mem_cons_of_mem _ hy)
    rw [List.map_cons, List.sum_cons]
    cases z : P x with
    | true => rw [List.filter_cons_of_pos z, List.map_cons, List.sum_cons, ih]
    | false => rw [List.filter_cons_of_neg (by simp [z]), ih, h x List.mem_cons_self z, Nat.zero_add]
theorem sum_keys {f : Nat → Nat} {qs : List Nat} {N : Nat} (nd : qs.Nodup) (lt : ∀ q ∈ qs, q < N) (z : ∀ q, q ∉ qs → f q = 0) : (qs.map f).sum = sumR f N := by
  have e := sum_flt (f := f) (P := fun q => decide (q ∈ qs)) (xs := List.range N) fun x _ h => z x (of_decide_eq_false h)
  rw [sumR_range, ← e]
  refine List.Perm.sum_nat (List.Perm.map f ((List.perm_ext_iff_of_nodup nd (List.nodup_range.filter _)).mpr fun q => ?_))
  rw [List.mem_filter, List.mem_range, decide_eq_true_iff]
  exact ⟨fun h => ⟨lt q h, h⟩, fun h => h.2⟩
/-- one level's part of the stock, by the spots met -/
theorem Cnt.sum {k N : Nat} {ms qs : List Nat} (C : Cnt k ms qs) (lt : ∀ m ∈ ms, m < N) : (qs.map fun q => 4 * (cntS k q ms - halfBy k)).sum = stL k ms N := by
  unfold stL
  refine sum_keys C.nd (fun q hq => ?_) fun q hq => ?_
  · have h := (C.mem q).mp hq
    unfold cntS at h
    obtain ⟨m, hm, e⟩ := List.countP_pos_iff.mp h
    have e := of_decide_eq_true e
    rw [← e]
    exact Nat.lt_of_le_of_lt (Nat.div_le_self _ _) (lt m hm)
  · have : ¬ 0 < cntS k q ms := fun z => hq ((C.mem q).mpr z)
    omega
end DL

/-! sum of a list of ints -/
namespace DL
open PySem PySem.Spec L2
variable [LamT]
theorem wo_sumL {X : Cx} {a : Expr} {E : EnvT} {k : Opd → EnvT → Prop} {pos p : Pos} (hc : X.calm = true) (hg : Gl X "sum") (hm : X.mg "sum" = none) (h : WO X a E fun o E1 => ∃ ns : List Int, (o.get E1).bind D.lseq = some (ns.map D.int) ∧ k (.val (.int ns.sum)) E1)
    (hs : starEach [a] X.env = (false, eval a X.env) :: starEach [] X.env := by rfl) : WO X (.Call (.Name "sum" p) [a] [] pos) E k :=
  wo_b1 (pe_callB (cr_sum hc) hg hm (by decide +kernel) pa_w (he := hs)) (WO.mono h fun o E1 ⟨ns, q, kk⟩ => by
    cases g : o.get E1 with
    | none =>
      rw [g] at q
      simp at q
    | some d1 =>
      rw [g] at q
      refine ⟨d1, rfl, fun d => d = .int ns.sum, fun Z H v G rv Q qq => ?_, fun d e => by rw [e]; exact kk⟩
      obtain ⟨x, vs, G', rfl, hs, rs⟩ := rv.lseq (by simpa using q)
      have ev := rs.ints
      subst ev
      exact ⟨x, ns, rfl, hs, qq _ _ H [] rfl (.int _) Grow.refl⟩) hs
end DL

/-! a law whose body shows things by repr: its def is called where no repr is under way -/
namespace DL
open PySem PySem.Spec L2 LamX
open PyProof.Rows
/-- a def's promise at the caller of a claim -/
structure FnG (P : Program) (w : World) (K : PySem.W.Frag) (mg : Str → Option Value) (base : Heap) (f : Addr) (fd : FuncData) (ps : List Str) (sp : Sp) : Prop where
  run : ∀ (s : Shared) (H : Hp) (us : List Value) (vs : List V) (Q : VK) (E : XK), Env0 P w K mg base callerA [] s H → BindsTo s fd ⟨us, []⟩ (ps.zip us) → Vals vs us → sp vs H Q E →
    codeAny (model P w) callerA (.call (.ref f) ⟨us, []⟩) (CR CX0 [] P w H s Q E) s
section
variable {P : Program} {w : World} {K : PySem.W.Frag} {mg : Str → Option Value} {base : Heap}
theorem nil9 {E : EnvT} {ds : List D} (h : E.take 0 = ds.map some) : ds = [] := by
  cases ds with
  | nil => rfl
  | cons d ds => exact nomatch h
/-- from the def's body -/
theorem fn_okG [LamT] {x qual : Str} {st : Stmt} {dvs : List V} {kws : List (Str × V)} {f : Addr} {fd : FuncData} {N ps : List Str} {k : Nat} {S : Ct} (F : FunD K x qual (defArgs st) (defBody st) (defScope st) dvs kws f fd) (sc : FnScope N ps (defScope st)) (room : Room (k + 1) callerA)
    (hlen : ∀ a ds, S.pre a ds → ds.length = ps.length)
    (body : ∀ (s : Shared) (H : Hp) (E : XK), Room k (callerA.deeper (envOfC qual (defScope st) s.heap.objs.size f fd.code)) → ∀ (a : S.α) (ds : List D), S.pre a ds →
      (let X : Cx := (cxOf CX0 P w K mg base N qual (defScope st) f fd.code callerA [] s H E).nox
      WSs X [] (defBody st) (ds.map some ++ List.replicate (N.length - ps.length) none)
        { nx := fun E' => ∃ ds', E'.take 0 = ds'.map some ∧ S.post a .non ds', rt := fun d E' => ∃ ds', E'.take 0 = ds'.map some ∧ S.post a d ds' })) : FnG P w K mg base f fd ps (toSp K 0 S) := by
  refine ⟨fun s H us vs Q E e0 hb r hsp => ?_⟩
  obtain ⟨oc, od, dV, kV, doc, pm, an, cdv, ct, osl, rfl, lk, hcd, _, _⟩ := F.ex
  obtain ⟨Z, ds, F0, rr, nd, nz, zt, a, pa, hq⟩ := hsp
  have hl : vs.length = ps.length := by rw [← rr.len]; exact hlen a ds pa
  have old : ∀ b o, base.get? b = some o → s.heap.get? b = some o := fun b o e => (e0.bs b o e).1
  have KI : K.In s.heap := e0.mod.kin.keeps old
  refine codeAny_call_function room.depth (KI _ _ lk) rfl sc.co sc.gen rfl (PySem.W.codeRec_of KI hcd) (hb _ _ _ _ ?_)
  refine wpAny_newFunctionEnv_cells sc.kind (fun y hy => ?kk) fun env he s1 q => ?_
  case kk =>
    obtain ⟨n, v⟩ := y
    rcases sc.par n (List.of_mem_zip hy).1 with z | z
    · exact Or.inl z
    · exact Or.inr ⟨z, PySem.W.cellsFrom_some _ _ _ (Or.inl z)⟩
  subst he
  refine ⟨(e0.mod.nolimit.keeps old).keeps q.toInCall.keep, codeAny_func ?_⟩
  have J := inv_start (CX := CX0) (E := E) (f := f) (cd := cdv) sc room.hd e0 hl r q
  have T : PSs (cxOf CX0 P w K mg base N qual (defScope st) f cdv callerA [] s H E) (defBody st) _ := PSs.nox pss_w
  have start0 : EnvS K Z H (ds.map some ++ List.replicate (N.length - ps.length) none) (start N vs) F0 := ⟨by
    have z := EnvR.start rr (N.length - ps.length)
    unfold L2.start
    rw [hl]
    exact z, nd, nz, zt⟩
  have goal := body s H E (room.deeper _) a ds pa Z H (start N vs) F0 { nx := fun _ H' => Q .non H', rt := Q } start0
    ⟨fun E' Z' H' σ' F' ⟨ds', e9, po⟩ f2 => hq .non [] (nil9 e9 ▸ po) .non Z' H' [] [] .nil .non List.nodup_nil (fun _ z => nomatch z) f2.env.zt (f2.st.sub fun _ z => nomatch z),
     fun d v E' Z' H' σ' F' G ⟨ds', e9, po⟩ f2 rv => hq d [] (nil9 e9 ▸ po) v Z' H' G [] .nil rv (by simpa using (List.nodup_append.mp f2.nd).1) (fun z hz => f2.nz z (by simpa using hz)) f2.env.zt (f2.st.sub fun z hz => List.mem_append_left _ (by simpa using hz)),
     fun _ _ _ _ _ z _ => z.elim, fun _ _ _ _ _ z _ => z.elim⟩
  refine wpAny_mono (T.run [] s1 (start N vs) H _ J goal) (fun fl s2 h2 => ?_) fun _ _ h2 => h2
  have fin : ∀ {σ2 : L2.St} {H2 : Hp} {v : V} {u : Value}, Inv (cxOf CX0 P w K mg base N qual (defScope st) f cdv callerA [] s H E) [] σ2 H2 s2 → RelV v u → Q v H2 → CE [] P w H s Q u s2 :=
    fun I2 r2 q2 => ⟨_, _, I2.os, I2.bare, I2.base, I2.hok, r2, q2⟩
  cases fl with
  | ret u =>
    obtain ⟨v, σ2, H2, I2, r2, q2⟩ := h2
    exact fin I2 r2 q2
  | next =>
    obtain ⟨σ2, H2, I2, q2⟩ := h2
    exact fin (v := .non) (u := .none) I2 rfl q2
  | brk => exact h2.elim fun _ z => z.elim fun _ z => z.2.elim
  | cont => exact h2.elim fun _ z => z.elim fun _ z => z.2.elim
end
/-- an object that holds a code object's table, still empty -/
def tab0 : Obj := { cls := .none, data := .fields #[] }
/-- the script's object -/
def scrO (vs : List Value) : Obj := { cls := .type "list", data := .seq vs.toArray }
open Classical in
/-- what is tracked when the law's def is called -/
noncomputable def lawH (K : PySem.W.Frag) (cs : List (Addr × Addr)) (a : Addr) (vs : List Value) (ns : List Int) : Hp := fun b =>
  if b ∈ cs.map (·.2) then some (.tbl #[]) else if b = a ∧ K.lookup a = none then some (.frz (scrO vs) (.lst (ns.map V.int))) else none
section
variable {P : Program} {w : World} {K : PySem.W.Frag} {mg mb : Str → Option Value} {fa a : Addr} {cs : List (Addr × Addr)} {fd : FuncData} {x : Str} {sp : Sp} {s : Shared} {vs : List Value} {ns : List Int}
theorem lawH_tab {b : Addr} (h : b ∈ cs.map (·.2)) : lawH K cs a vs ns b = some (.tbl #[]) := if_pos h
theorem lawH_cases (b : Addr) : (b ∈ cs.map (·.2) ∧ lawH K cs a vs ns b = some (.tbl #[])) ∨ (b ∉ cs.map (·.2) ∧ b = a ∧ K.lookup a = none ∧ lawH K cs a vs ns b = some (.frz (scrO vs) (.lst (ns.map V.int)))) ∨ (b ∉ cs.map (·.2) ∧ lawH K cs a vs ns b = none) := by
  by_cases h : b ∈ cs.map (·.2)
  · exact .inl ⟨h, if_pos h⟩
  · by_cases h2 : b = a ∧ K.lookup a = none
    · exact .inr (.inl ⟨h, h2.1, h2.2, (if_neg h).trans (if_pos h2)⟩)
    · exact .inr (.inr ⟨h, (if_neg h).trans (if_neg h2)⟩)
theorem law_callG (KX : K.In s.heap) (hns : s.heap.Ns mainGlobals mg) (hbn : s.heap.Ns builtinsNs mb) (hbb : ∀ x : Str, x ≠ "__name__" → mb x = bootBuiltins x) (hlim : s.heap.NoLimit) (hgen : s.gens = #[])
    (hT : ∀ p ∈ cs, s.heap.get? p.2 = some tab0) (nT : ∀ p ∈ cs, K.lookup p.2 = none) (hC : ∀ p ∈ cs, PySem.W.CodeHd s.heap p.1 p.2)
    (hbm : ∃ (bm : Addr) (ob : Obj), mg "__builtins__" = some (.ref bm) ∧ bm ≠ builtinsNs ∧ s.heap.get? bm = some ob ∧ ob.cls = .type "module" ∧ ob.dict = some builtinsNs ∧ ob.data = .plain)
    (ha : s.heap.get? a = some (scrO vs)) (hi : IntsAre vs ns) (hl : ns.length ≤ sizeLine)
    (F : ∀ base : Heap, K.In base → base.Ns mainGlobals mg → (∀ p ∈ cs, TabB base mg p.1 p.2) → FnG P w K mg base fa fd [x] sp) (hbind : ∀ (s : Shared) (u : Value), BindsTo s fd ⟨[u], []⟩ [(x, u)])
    (hsp : ∀ H : Hp, (∀ p ∈ cs, H p.2 = some (.tbl #[])) → SqL K H a (ns.map V.int) → sp [.ref a] H (fun v _ => v = .bl true) fun _ _ _ => False) :
    codeAny (model P w) callerA (.call (.ref fa) ⟨[.ref a], []⟩) (fun r s' => r = .ok (.ret (.bool true)) ∧ OldK s.heap s'.heap ∧ s'.os = s.os ∧ AllBare s'.gens) s := by
  have rv := vals_ints hi
  have tabs : ∀ b ∈ cs.map (·.2), s.heap.get? b = some tab0 ∧ K.lookup b = none := fun b hb => by
    obtain ⟨p, hp, rfl⟩ := List.mem_map.mp hb
    exact ⟨hT p hp, nT p hp⟩
  have na : a ∉ cs.map (·.2) := fun z => by
    have q := (tabs a z).1
    rw [ha] at q
    exact nomatch congrArg Obj.data (Option.some.inj q)
  have mem2 : ∀ p ∈ cs, p.2 ∈ cs.map (·.2) := fun p hp => List.mem_map.mpr ⟨p, hp, rfl⟩
  generalize hH : lawH K cs a vs ns = H
  have cas : ∀ b, (b ∈ cs.map (·.2) ∧ H b = some (.tbl #[])) ∨ (b ∉ cs.map (·.2) ∧ b = a ∧ K.lookup a = none ∧ H b = some (.frz (scrO vs) (.lst (ns.map V.int)))) ∨ (b ∉ cs.map (·.2) ∧ H b = none) := fun b => by
    rw [← hH]
    exact lawH_cases b
  have tb : ∀ p ∈ cs, H p.2 = some (.tbl #[]) := fun p hp => by rw [← hH]; exact lawH_tab (mem2 p hp)
  have ok : HOk P w H s.heap := fun b u e => by
    rcases cas b with ⟨h1, h2⟩ | ⟨h1, h2, h3, h4⟩ | ⟨_, h2⟩
    · rw [h2] at e
      cases e
      exact (tabs b h1).1
    · rw [h4] at e
      cases e
      rw [h2]
      refine ⟨ha, ?_, vs, _, rv, ha⟩
      rwa [List.length_map]
    · rw [h2] at e
      cases e
  have seq : SqL K H a (ns.map V.int) := by
    rcases cas a with ⟨h1, _⟩ | ⟨_, _, _, h4⟩ | ⟨_, h2⟩
    · exact absurd h1 na
    · exact .inl (.inr ⟨_, h4⟩)
    · cases hk : K.lookup a with
      | none =>
        rw [← hH] at h2
        have z := (if_neg na).symm.trans h2
        rw [if_pos ⟨rfl, hk⟩] at z
        cases z
      | some o =>
        have e := KX a o hk
        rw [ha] at e
        cases e
        exact .inr ⟨_, vs.toArray, _, hk, rfl, rfl, rfl, by rw [List.size_toArray, hi.length]; exact hl, by simpa using rv⟩
  -- other things are not tracked
  have off : ∀ {b : Addr} {o : Obj}, s.heap.get? b = some o → o ≠ tab0 → o ≠ scrO vs → H b = none := fun {b o} e n1 n2 => by
    rcases cas b with ⟨h1, _⟩ | ⟨_, h2, _, _⟩ | ⟨_, h2⟩
    · exact absurd (Option.some.inj (e.symm.trans (tabs b h1).1)) n1
    · subst h2
      exact absurd (Option.some.inj (e.symm.trans ha)) n2
    · exact h2
  have up : ∀ {b : Addr} {o : Obj}, s.heap.get? b = some o → o ≠ tab0 → o ≠ scrO vs → (hidT s.heap H).get? b = some o := fun e n1 n2 => hidT_get e (off e n1 n2)
  have dic : ∀ {o : Obj} {es : Array DictEntry} {n : Nat}, o.data = .dict es n → o ≠ tab0 ∧ o ≠ scrO vs := fun {o es n} d => ⟨fun z => by subst z; exact (nomatch d), fun z => by subst z; exact (nomatch d)⟩
  have ups : ∀ {b : Addr} {m : Str → Option Value}, s.heap.Ns b m → (hidT s.heap H).Ns b m := fun {b m} ⟨o, es, ep, e, d, q⟩ => ⟨o, es, ep, up e (dic d).1 (dic d).2, d, q⟩
  have KI : K.In (hidT s.heap H) := fun b o e => by
    refine hidT_get (KX b o e) ?_
    rcases cas b with ⟨h1, _⟩ | ⟨_, h2, h3, _⟩ | ⟨_, h2⟩
    · rw [(tabs b h1).2] at e
      cases e
    · subst h2
      rw [h3] at e
      cases e
    · exact h2
  have M : L2.Mod K mg (hidT s.heap H) := ⟨KI, ups hns, ⟨mb, ups hbn, hbb⟩, hlim.elim fun mc q => ⟨mc, ups q.1, q.2⟩⟩
  have TB : ∀ p ∈ cs, TabB (hidT s.heap H) mg p.1 p.2 := fun p hp => by
    have hTp := hT p hp
    have gne : mainGlobals ≠ p.2 := fun z => by
      obtain ⟨o, es, ep, e, d, _⟩ := hns
      rw [z] at e
      exact (dic d).1 (Option.some.inj (e.symm.trans hTp))
    refine ⟨?_, ?_, gne⟩
    · obtain ⟨o, us, x1, x2, x3, x4, x5, x6, x7, e1, r1, r2, r3, rest⟩ := hC p hp
      refine ⟨o, us, x1, x2, x3, x4, x5, x6, x7, up e1 (fun z => ?_) (fun z => ?_), r1, r2, r3, rest⟩
      · subst z
        have z2 : us = #[] := by
          have q : Data.fields #[] = Data.fields us := r2
          injection q with q
          exact q.symm
        rw [z2] at r3
        simp at r3
      · subst z
        exact nomatch r2
    · obtain ⟨bm, ob, b1, b2, b3, bc, bd, b6⟩ := hbm
      have t0 : ob ≠ tab0 := fun z => by subst z; exact (nomatch b6)
      refine ⟨bm, ob, b1, b2, fun z => ?_, fun z => ?_, up b3 t0 (fun z => by subst z; exact (nomatch b6)), bc, bd, b6⟩
      · obtain ⟨o, es, ep, e, d, _⟩ := hns
        rw [z, e] at b3
        cases b3
        rw [d] at b6
        exact nomatch b6
      · rw [z] at b3
        exact t0 (Option.some.inj (b3.symm.trans hTp))
  have env : Env0 P w K mg (hidT s.heap H) callerA [] s H := ⟨rfl, M, fun b o e => of_hidT e, Nat.le_of_eq (hidT_size _ _), trivial, fun b z => (nomatch (show b ∈ ([] : List Addr) from z)), ok, .of_eq hgen⟩
  refine codeAny_mono ((F _ KI (ups hns) TB).run s H [.ref a] [.ref a] _ _ env (hbind s (.ref a)) (.cons rfl .nil) (hsp H tb seq)) fun r s2 h => ?_
  match r, h with
  | .ok (.ret u), ⟨v, H2, os, bare, un, ok2, rv2, q⟩ =>
    have q : v = .bl true := q
    subst q
    have eu : u = Value.bool true := rv2
    subst eu
    have stay : ∀ b o, b ∉ cs.map (·.2) → s.heap.get? b = some o → s2.heap.get? b = some o := fun b o nb e => by
      rcases cas b with ⟨h1, _⟩ | ⟨_, h2, h3, h4⟩ | ⟨_, h2⟩
      · exact absurd h1 nb
      · have z := (ok2 b _ (un.frzs b _ _ h4)).1
        rw [z, ← e, h2, ha]
      · exact un.keep b o e h2 (fun z => (nomatch (show b ∈ ([] : List Addr) from z))) (fun z => (nomatch z))
    refine ⟨rfl, ⟨?_, ?_⟩, os, bare⟩ <;> intro b o e
    · by_cases hb : b ∈ cs.map (·.2)
      · obtain ⟨p, hp, rfl⟩ := List.mem_map.mp hb
        obtain ⟨more, hm⟩ := un.tbls p.2 #[] (tb p hp)
        have e2 := Option.some.inj (e.symm.trans (hT p hp))
        subst e2
        exact .inr (.inl ⟨((hC p hp).tab (hT p hp)).isCodeTable, rfl, #[], more, rfl, ok2 p.2 _ hm⟩)
      · exact .inl (stay b o hb e)
    · by_cases hb : b ∈ cs.map (·.2)
      · obtain ⟨p, hp, rfl⟩ := List.mem_map.mp hb
        obtain ⟨more, hm⟩ := un.tbls p.2 #[] (tb p hp)
        exact ⟨_, ok2 p.2 _ hm⟩
      · exact ⟨o, stay b o hb e⟩
  | .ok .next, h => exact h.elim
  | .ok .brk, h => exact h.elim
  | .ok .cont, h => exact h.elim
  | .error e, h => exact h.elim
end
/-- what a law's head hands over -/
def LawAtG (l : PySem.W.OpenLaw) (w : World) (K : PySem.W.Frag) (n : Nat) (x : Str) (mg : Str → Option Value) (fa : Addr) (h : Heap) : Prop :=
  ∃ (fd : FuncData) (cs : List (Addr × Addr)) (sp : Sp), (∀ p ∈ cs, h.get? p.2 = some tab0) ∧ (∀ p ∈ cs, K.lookup p.2 = none) ∧ (∀ p ∈ cs, PySem.W.CodeHd h p.1 p.2) ∧ (∀ (s : Shared) (u : Value), BindsTo s fd ⟨[u], []⟩ [(x, u)]) ∧
    (∀ (H : Hp) (a : Addr) (ns : List Int), ns.length ≤ n → (∀ p ∈ cs, H p.2 = some (.tbl #[])) → SqL K H a (ns.map V.int) → sp [.ref a] H (fun v _ => v = .bl true) fun _ _ _ => False) ∧
    ∀ base : Heap, K.In base → base.Ns mainGlobals mg → (∀ p ∈ cs, TabB base mg p.1 p.2) → FnG l.prog w K mg base fa fd [x] sp
theorem walk_G {l : PySem.W.OpenLaw} {n : Nat} {q : Program} {loose : List Str} {XP : (Str → Option Value) → Heap → Prop} {YP : World → Heap → Prop} {d : DefRec} {x : Str}
    (most : l.most = some n) (small : n ≤ sizeLine) (plain : d.params.defaults = [])
    (F : ∀ (w : World) (mg : Str → Option Value) (fa : Addr) (h : Heap), YP w h → h.Ns mainGlobals mg → mg d.name = some (.ref fa) → ∃ K : PySem.W.Frag, K.In h ∧ LawAtG l w K n x mg fa h) :
    PySem.W.WalkO q loose XP YP l.row.toRowW d [] (fun f vs => PySem.call f vs) := by
  refine Att.attach_callB most plain fun w t0 t1 mg mb fa o p1 p2 p3 a vs ns G Y _ _ _ hmg obj nums few _ gens => ?_
  obtain ⟨K, KX, fd, cs, sp, h1, h2, h3, h4, h5, h6⟩ := F w mg fa _ Y G.T.g hmg
  exact law_callG KX G.T.g G.T.b G.T.builtins G.T.nolimit gens h1 h2 h3 G.T.bmain obj nums (Nat.le_trans few small) h6 h4 fun H tH sH => h5 H a ns few tH sH
end DL

/-! a, b, c, d = .., things that own -/
namespace DL
open PySem PySem.Spec L2
variable [LamT]
section
variable {X : Cx} {n : List Nat} {E : EnvT}
theorem wg_quadO {i j l m kk : Nat} {x y z w : Str} {d1 d2 d3 d4 : D} {k : EnvT → Prop} {px py pz pw pt : Pos} (hN : X.N.Nodup) (hi : X.N[i]? = some x) (hj : X.N[j]? = some y) (hl : X.N[l]? = some z) (hm : X.N[m]? = some w) (hx : Loc X.env.scope x) (hy : Loc X.env.scope y) (hz : Loc X.env.scope z) (hw : Loc X.env.scope w)
    (hni : i ∉ n) (hnj : j ∉ n) (hnl : l ∉ n) (hnm : m ∉ n) (hE : i < E.length ∧ j < E.length ∧ l < E.length ∧ m < E.length)
    (h : k ((((E.set i (some d1)).set j (some d2)).set l (some d3)).set m (some d4)))
    (hf : X.fn x = true ∨ X.env.scope.names.lookup x = some .local) (hf2 : X.fn y = true ∨ X.env.scope.names.lookup y = some .local) (hf3 : X.fn z = true ∨ X.env.scope.names.lookup z = some .local) (hf4 : X.fn w = true ∨ X.env.scope.names.lookup w = some .local)
    (hp : ∀ t, PGs X [.Name x px, .Name y py, .Name z pz, .Name w pw] t → PG X (.Tuple [.Name x px, .Name y py, .Name z pz, .Name w pw] kk pt) (gTup X.K 4 t))
    (hp1 : ∀ t u, PG X (.Name x px) t → PGs X [.Name y py, .Name z pz, .Name w pw] u → PGs X [.Name x px, .Name y py, .Name z pz, .Name w pw] (gCons t u))
    (hp2 : ∀ t u, PG X (.Name y py) t → PGs X [.Name z pz, .Name w pw] u → PGs X [.Name y py, .Name z pz, .Name w pw] (gCons t u))
    (hp3 : ∀ t u, PG X (.Name z pz) t → PGs X [.Name w pw] u → PGs X [.Name z pz, .Name w pw] (gCons t u)) (hp4 : ∀ t, PG X (.Name w pw) t → PGs X [.Name w pw] (gCons t gNil)) :
    WG X n (.Tuple [.Name x px, .Name y py, .Name z pz, .Name w pw] kk pt) (.tup [d1, d2, d3, d4]) E k := by
  intro Z H σ F G v Q he r nd nz hk
  refine wpG_by (hp _ (hp1 _ _ (pg_name hN hi hx hf) (hp2 _ _ (pg_name hN hj hy hf2) (hp3 _ _ (pg_name hN hl hz hf3) (hp4 _ (pg_name hN hm hw hf4)))))) ?_
  cases r with
  | tup hs rs =>
    cases rs with
    | cons r1 rs =>
      cases rs with
      | cons r2 rs =>
        cases rs with
        | cons r3 rs =>
          cases rs with
          | cons r4 rs =>
            cases rs
            rename_i v1 G1 v2 G2 v3 G3 v4 G4
            rw [List.append_nil] at nd nz
            have nd0 : (G1 ++ (G2 ++ (G3 ++ (G4 ++ F)))).Nodup := by rw [List.append_assoc, List.append_assoc, List.append_assoc] at nd; exact nd
            have drop : ∀ {A B C : List Addr}, (A ++ (B ++ C)).Nodup → (A ++ C).Nodup := fun {A B C} q => (List.Sublist.append_left (List.sublist_append_right B C) A).nodup q
            have s1 : (G1 ++ F).Nodup := drop (drop (drop nd0))
            obtain ⟨F1, h1, m1⟩ := he.asg r1 s1 (fun a ha => nz a (List.mem_append_left _ ha)) hE.1
            have nd1 : (G2 ++ (G3 ++ (G4 ++ F1))).Nodup := by
              have e : (G1 ++ ((G2 ++ (G3 ++ G4)) ++ F)).Nodup := by rw [List.append_assoc, List.append_assoc]; exact nd0
              have q := nd_step e h1.nd m1
              rw [List.append_assoc, List.append_assoc] at q
              exact q
            obtain ⟨F2, h2, m2⟩ := h1.asg r2 (drop (drop nd1)) (fun a ha => nz a (List.mem_append_right _ (List.mem_append_left _ ha))) (by rw [List.length_set]; exact hE.2.1)
            have nd2 : (G3 ++ (G4 ++ F2)).Nodup := by
              have e : (G2 ++ ((G3 ++ G4) ++ F1)).Nodup := by rw [List.append_assoc]; exact nd1
              have q := nd_step e h2.nd m2
              rw [List.append_assoc] at q
              exact q
            obtain ⟨F3, h3, m3⟩ := h2.asg r3 (drop nd2) (fun a ha => nz a (List.mem_append_right _ (List.mem_append_right _ (List.mem_append_left _ ha)))) (by rw [List.length_set, List.length_set]; exact hE.2.2.1)
            have nd3 : (G4 ++ F3).Nodup := nd_step nd2 h3.nd m3
            obtain ⟨F4, h4, m4⟩ := h3.asg r4 nd3 (fun a ha => nz a (List.mem_append_right _ (List.mem_append_right _ (List.mem_append_right _ ha)))) (by rw [List.length_set, List.length_set, List.length_set]; exact hE.2.2.2)
            have sub : ∀ a ∈ F4, a ∈ (G1 ++ (G2 ++ (G3 ++ G4))) ++ F := fun a ha => by
              simp only [List.mem_append]
              rcases m4 a ha with q | q
              · simp [q]
              · rcases m3 a q with q | q
                · simp [q]
                · rcases m2 a q with q | q
                  · simp [q]
                  · rcases m1 a q with q | q <;> simp [q]
            refine ⟨_, _, rfl, hs, rfl, v1, [v2, v3, v4], rfl, v2, [v3, v4], rfl, v3, [v4], rfl, v4, [], rfl, rfl, ?_⟩
            rw [List.append_nil] at hk
            exact hk _ Z H _ F4 h ⟨h4, h4.nd, (fun a q => nomatch q), Stp.refl.sub fun a ha => sub a (by simpa using ha), (((Pin.set hni).trans (Pin.set hnj)).trans (Pin.set hnl)).trans (Pin.set hnm)⟩
end
end DL

namespace K21
open PySem PySem.Spec L2 DL Ln
open PyProof.Rows (envOfC)
variable [LamT]
local macro_rules | `(tactic| walk_at "imm") => `(tactic| first | assumption | trivial | exact imms_ints | exact imms_pairs | (simp only [Imm, Imms]; done) | exact ⟨trivial, trivial⟩ | exact ⟨trivial, imms_ints⟩ | exact imms_cut imms_ints | exact imms_app imms_ints ⟨trivial, trivial⟩ | exact imms_app (imms_cut imms_ints) ⟨trivial, trivial⟩ | exact imms_app (imms_app (imms_cut imms_ints) ⟨trivial, trivial⟩) (imms_cut imms_ints))
local macro_rules | `(tactic| walk_at "add") => `(tactic| first | exact AddD.int | exact AddD.lst (by walk_at "imm") (by walk_at "imm") (by first | assumption | (simp; omega)) | ((refine AddD.tup ?at1 ?at2 ?at3 ?at4 ?at5); (case at1 => rfl); (case at2 => rfl); (case at3 => walk_at "imm"); (case at4 => walk_at "imm"); (case at5 => first | with_reducible assumption | (simp; omega))))
local macro_rules | `(tactic| walk_at "cost") => `(tactic| first | with_reducible assumption | (with_reducible exact cpow (by omega) (by omega) (by omega) (by omega)) | (with_reducible exact cdivw (by omega) (by omega)) | (with_reducible exact cmul1 (by omega) (by omega)) | (with_reducible exact cmul2 (by omega) (by omega)) | with_reducible exact imms_ints | omega)
local macro_rules | `(tactic| walk_at "mul") => `(tactic| ((refine MulD.int ?_); walk_at "cost"))
local macro_rules | `(tactic| walk_at "cmp") => `(tactic| first | with_reducible exact cmp_lt | with_reducible exact cmp_le | with_reducible exact cmp_gt | with_reducible exact cmp_ge | with_reducible exact cmp_eqI | with_reducible exact cmp_neI | with_reducible exact cmp_isN | with_reducible exact cmp_notN | ((with_reducible refine cmp_neLL ?_); with_reducible assumption) | ((with_reducible refine cmp_neTT ?_); with_reducible assumption) | ((with_reducible refine cmp_nePT ?_); with_reducible assumption) | ((with_reducible refine cmp_eqLL ?_); with_reducible assumption) | ((with_reducible refine cmp_eqLN ?_); with_reducible assumption) | ((with_reducible refine cmp_neLN ?_); with_reducible assumption) | ((with_reducible refine cmp_neP ?_); with_reducible assumption) | ((with_reducible refine cmp_eqN ?_); with_reducible assumption) | with_reducible exact cmp_notB | with_reducible exact cmp_neB | with_reducible exact cmp_eqB | with_reducible exact cmp_inL | with_reducible exact cmp_inF | with_reducible exact cmp_inT | with_reducible exact cmp_inP | with_reducible exact cmp_niL | with_reducible exact cmp_niF | with_reducible exact cmp_niT | with_reducible exact cmp_niP | ((with_reducible refine cmp_niD ?_); with_reducible assumption) | ((with_reducible refine cmp_inD ?_); with_reducible assumption) | ((with_reducible refine cmp_niFd ?_); with_reducible assumption) | ((with_reducible refine cmp_inFd ?_); with_reducible assumption))
local macro_rules | `(tactic| walk_at "ci") => `(tactic| first | exact cmpi_lt | exact cmpi_le | exact cmpi_gt | exact cmpi_ge)
local macro_rules | `(tactic| walk_at "sl") => `(tactic| first | ((refine sl_t ?_); walk_at "imm") | ((refine sl_p ?_); walk_at "imm") | ((refine sl_l ?_); walk_at "imm") | ((refine sl_f ?_); walk_at "imm"))
local macro_rules | `(tactic| walk_at "mark") => `(tactic| first | exact nomark _ | with_unfolding_all rfl)
local macro_rules | `(tactic| walk_at "boot") => `(tactic| first | with_reducible exact PyProof.Rows.boot_int | with_reducible exact PyProof.Rows.boot_bool | with_reducible exact PyProof.Rows.boot_tuple | with_reducible exact PyProof.Rows.boot_list | with_reducible exact PyProof.Rows.boot_str | with_reducible exact PyProof.Rows.boot_dict)
local macro_rules | `(tactic| walk_at "kit") => `(tactic| first | with_reducible exact kit_ii | with_reducible exact kit_ib | with_reducible exact kit_it | with_reducible exact kit_tt | with_reducible exact kit_ti | with_reducible exact kit_bb | with_reducible exact kit_bi | with_reducible exact kit_ll | with_reducible exact kit_dd | with_reducible exact kit_ss | with_reducible exact kit_si | with_reducible exact kit_li | with_reducible exact kit_di | with_reducible exact kit_ni | with_reducible exact kit_bt | with_reducible exact kit_st | with_reducible exact kit_lt | with_reducible exact kit_dt | with_reducible exact kit_nt | with_reducible exact kit_is | with_reducible exact kit_bs | with_reducible exact kit_ts | with_reducible exact kit_ls | with_reducible exact kit_ds | with_reducible exact kit_ns | with_reducible exact kit_il | with_reducible exact kit_bl | with_reducible exact kit_tl | with_reducible exact kit_sl | with_reducible exact kit_dl | with_reducible exact kit_nl | with_reducible exact kit_id | with_reducible exact kit_bd | with_reducible exact kit_td | with_reducible exact kit_sd | with_reducible exact kit_ld | with_reducible exact kit_nd | decide +kernel)
local macro_rules | `(tactic| walk_at "vis") => `(tactic| first | exact Or.inl rfl | exact Or.inr (Or.inl rfl) | exact Or.inr (Or.inr rfl))
local macro_rules | `(tactic| walk_at "pin") => `(tactic| first | decide | (simp only [watch, List.map_nil, List.map_cons, List.nil_append, List.append_nil, List.cons_append]; decide))
local macro_rules | `(tactic| walk_at "loc") => `(tactic| first | exact Or.inl rfl | exact Or.inr rfl)
local macro_rules | `(tactic| walk_at "key") => `(tactic| first | with_reducible exact key0 | with_reducible exact key1 | with_reducible exact key2 | with_reducible exact key3)
local macro_rules | `(tactic| walk_at "dg") => `(tactic| (
  (with_reducible refine' wo_dget ?h1 ?h2 ?h3 ?h4 ?h5 ?h6 ?h7 ?_ ?h9 ?h10 ?h11); (case h1 => with_reducible assumption); (case h2 => with_reducible assumption); (case h5 => walk_at "key"); (case h3 => rfl); (case h4 => exact kN); (case h6 => rfl); (case h7 => trivial); (case h9 => walk_at "vis"); (case h10 => decide); (case h11 => decide)))
local macro_rules | `(tactic| walk_at "ob") => `(tactic| first
  | (refine ⟨Nat.le_of_ble_eq_true rfl, ?_⟩; try dsimp only [List.set])
  | (refine ⟨_, rfl, Nat.le_of_ble_eq_true rfl, ?_⟩; try dsimp only [List.set])
  | (refine ⟨_, rfl, trivial, Nat.le_of_ble_eq_true rfl, Nat.le_of_ble_eq_true rfl, ?_⟩; try dsimp only [List.set])
  | (refine ⟨_, _, rfl, Nat.le_of_ble_eq_true rfl, Nat.le_of_ble_eq_true rfl, ?_⟩; try dsimp only [List.set])
  | (refine ⟨_, _, _, rfl, Nat.le_of_ble_eq_true rfl, Nat.le_of_ble_eq_true rfl, Nat.le_of_ble_eq_true rfl, ?_⟩; try dsimp only [List.set])
  | refine ⟨fun _ => ?_, fun h => Bool.noConfusion h⟩
  | refine ⟨fun h => Bool.noConfusion h, fun _ => ?_⟩
  | refine ⟨_, rfl, ?_⟩
  | refine ⟨_, _, rfl, rfl, ?_⟩
  | refine ⟨_, _, _, _, rfl, rfl, rfl, ?_⟩
  | (refine ⟨_, _, _, ?dd, rfl, rfl, rfl, ?hh, ?_⟩; (case hh => walk_at "kit"))
  | (refine ⟨_, _, ?dd, rfl, rfl, ?hh, ?_⟩; (case hh => first | walk_at "add" | walk_at "mul" | walk_at "cmp"))
  | (refine ⟨_, ?dd, rfl, ?hh, ?_⟩; (case hh => walk_at "sl"))
  | (refine ⟨_, _, ?dd, rfl, rfl, ?hh, ?ii, ?_⟩; (case hh => first | with_reducible assumption | with_reducible exact at2_0 | with_reducible exact at2_1 | with_reducible exact at3_0 | with_reducible exact at3_1 | with_reducible exact at3_2); (case ii => trivial))
  | (refine ⟨fun _ => ?_, ?hx⟩; (case hx => (intro h; exfalso; (first | ((simp only [decide_eq_false_iff_not, decide_eq_true_eq, Bool.not_eq_true', Bool.not_eq_false'] at h); omega) | ((simp at h); done)))))
  | (refine ⟨?hx, fun _ => ?_⟩; (case hx => (intro h; exfalso; (first | ((simp only [decide_eq_false_iff_not, decide_eq_true_eq, Bool.not_eq_true', Bool.not_eq_false'] at h); omega) | ((simp at h); done)))))
  | ((with_reducible refine And.intro ?hh ?_); (case hh => walk_at "cost")))
local macro_rules | `(tactic| walk_at "gWSs") => `(tactic| first
  | with_reducible refine wss_nil ?_
  | with_reducible refine wss_one ?_
  | with_reducible refine wss_cons ?_)
local macro_rules | `(tactic| walk_at "gWS") => `(tactic| first
  | with_reducible refine ws_if ?_
  | with_reducible refine ws_ret ?_
  | ((with_reducible refine' ws_set ?h1 ?h2 ?h3 ?h4 ?_ ?h6 ?h7); (case h1 => with_reducible assumption); (case h2 => with_reducible assumption); (case h3 => walk_at "loc"); (case h4 => walk_at "pin"); (case h6 => rfl); (case h7 => exact .inl rfl))
  | ((with_reducible refine' ws_augI ?h1 ?h2 ?h3 ?h4 ?h5 ?_ ?h7); (case h1 => with_reducible assumption); (case h2 => with_reducible assumption); (case h3 => rfl); (case h4 => walk_at "loc"); (case h5 => walk_at "pin"); (case h7 => exact .inl rfl))
  | ((with_reducible refine' ws_asg2 ?h1 ?h2 ?h3 ?h4 ?h5 ?h6 ?h7 ?_ ?h9 ?h10 ?h11 ?h12); (case h1 => with_reducible assumption); (case h2 => with_reducible assumption); (case h3 => with_reducible assumption); (case h4 => walk_at "loc"); (case h5 => walk_at "loc"); (case h6 => walk_at "pin"); (case h7 => walk_at "pin"); (case h9 => exact .inl rfl); (case h10 => exact .inl rfl); (case h11 => rfl); (case h12 => rfl))
  | ((with_reducible refine' ws_dput ?h1 ?h2 ?_ ?h4 ?h5 ?h6 ?h7); (case h1 => with_reducible assumption); (case h2 => with_reducible assumption); (case h4 => rfl); (case h5 => walk_at "vis"); (case h6 => decide); (case h7 => decide))
  | ((with_reducible refine' ws_asg ?_ ?h2 ?h3 ?h4); (case h2 => rfl); (case h3 => rfl); (case h4 => rfl))
  | ((with_reducible refine' ws_par ?a1 ?a2 ?a3 ?a4 ?a5 ?a6 ?a7 ?a8 ?a9 ?_ ?hw ?hs); (case a1 => rfl); (case a2 => with_reducible assumption); (case a3 => with_reducible assumption); (case a4 => with_reducible assumption); (case a5 => decide); (case a6 => walk_at "pin"); (case a7 => walk_at "pin"); (case a8 => rfl); (case a9 => rfl); (case hw => rfl); (case hs => rfl))
  | ((with_reducible refine ws_expr ?_ ?h2); (case h2 => rfl))
  | with_reducible refine ws_pass ?_)
local macro_rules | `(tactic| walk_at "gWG") => `(tactic| first
  | ((with_reducible refine' wg_name ?h1 ?h2 ?h3 ?h4 ?h5 ?_ ?h7); (case h1 => with_reducible assumption); (case h2 => with_reducible assumption); (case h3 => walk_at "loc"); (case h4 => walk_at "pin"); (case h5 => exact Nat.le_of_ble_eq_true rfl); (case h7 => exact .inl rfl); (try dsimp only [List.set]))
  | ((with_reducible refine' wg_pair ?a1 ?a2 ?a3 ?a4 ?a5 ?a6 ?a7 ?a8 ?a9 ?b1 ?_ ?b3 ?b4 ?b5 ?b6 ?b7); (case a1 => rfl); (case a2 => with_reducible assumption); (case a3 => with_reducible assumption); (case a4 => with_reducible assumption); (case a5 => walk_at "loc"); (case a6 => walk_at "loc"); (case a7 => walk_at "pin"); (case a8 => walk_at "pin"); (case a9 => exact Nat.le_of_ble_eq_true rfl); (case b1 => exact Nat.le_of_ble_eq_true rfl); (case b3 => exact .inl rfl); (case b4 => exact .inl rfl); (case b5 => exact fun t h => pg_tup rfl h); (case b6 => exact fun t u h1 h2 => pgs_cons h1 h2); (case b7 => exact fun t h => pgs_cons h pgs_nil); (try dsimp only [List.set]))
  | ((with_reducible refine' wg_tri ?a1 ?a2 ?a3 ?a4 ?a5 ?a6 ?a7 ?a8 ?b1 ?b2 ?b3 ?b4 ?b5 ?_ ?c1 ?c2 ?c3 ?c4 ?c5 ?c6 ?c7); (case a1 => rfl); (case a2 => with_reducible assumption); (case a3 => with_reducible assumption); (case a4 => with_reducible assumption); (case a5 => with_reducible assumption); (case a6 => walk_at "loc"); (case a7 => walk_at "loc"); (case a8 => walk_at "loc"); (case b1 => walk_at "pin"); (case b2 => walk_at "pin"); (case b3 => walk_at "pin"); (case b4 => exact ⟨Nat.le_of_ble_eq_true rfl, Nat.le_of_ble_eq_true rfl, Nat.le_of_ble_eq_true rfl⟩); (case b5 => first | exact ⟨trivial, trivial, trivial⟩ | exact ⟨trivial, imms_ints, trivial⟩); (case c1 => exact .inl rfl); (case c2 => exact .inl rfl); (case c3 => exact .inl rfl); (case c4 => exact fun t h => pg_tup rfl h); (case c5 => exact fun t u h1 h2 => pgs_cons h1 h2); (case c6 => exact fun t u h1 h2 => pgs_cons h1 h2); (case c7 => exact fun t h => pgs_cons h pgs_nil); (try dsimp only [List.set])))
local macro_rules | `(tactic| walk_at "gENm") => `(tactic| first
  | ((with_reducible refine' we_name ?h1 ?h2 ?h3 ?_ ?h5 ?h6 ?h7); (case h1 => with_reducible assumption); (case h2 => rfl); (case h3 => walk_at "imm"); (case h5 => walk_at "vis"); (case h6 => decide); (case h7 => decide))
  | ((with_reducible refine' we_move ?h1 ?h2 ?_ ?h5 ?h6 ?h7); (case h1 => with_reducible assumption); (case h2 => rfl); (case h5 => walk_at "vis"); (case h6 => decide); (case h7 => decide); (try dsimp only [List.set])))
local macro_rules | `(tactic| walk_at "gWE") => `(tactic| first
  | with_reducible refine we_of ?_)
local macro_rules | `(tactic| walk_at "gName") => `(tactic| first
  | ((with_reducible refine' wo_nameI ?h1 ?h2 ?h3 ?_ ?h5 ?h6 ?h7); (case h1 => with_reducible assumption); (case h2 => rfl); (case h3 => walk_at "imm"); (case h5 => walk_at "vis"); (case h6 => decide); (case h7 => decide))
  | ((with_reducible refine' wo_name ?h1 ?h2 ?_ ?h5 ?h6 ?h7); (case h1 => with_reducible assumption); (case h2 => rfl); (case h5 => walk_at "vis"); (case h6 => decide); (case h7 => decide))
  | ((with_reducible refine' wo_gint ?h1 ?h2 ?_ ?h4); (case h1 => rfl); (case h2 => with_reducible assumption); (case h4 => decide))
  | ((with_reducible refine' wo_tyn ?h1 ?h2 ?h3 ?_ ?h5 ?h6); (case h1 => rfl); (case h2 => with_reducible assumption); (case h3 => walk_at "boot"); (case h5 => decide); (case h6 => decide)))
local macro_rules | `(tactic| walk_at "gCon") => `(tactic| first
  | with_reducible refine wo_int ?_
  | with_reducible refine wo_non ?_
  | with_reducible refine wo_bl ?_
  | with_reducible refine wo_str ?_)
local macro_rules | `(tactic| walk_at "gBin") => `(tactic| first
  | with_reducible refine wo_addD ?_
  | with_reducible refine wo_sub ?_
  | with_reducible refine wo_mulD ?_
  | with_reducible refine wo_mod ?_
  | with_reducible refine wo_fdiv ?_
  | with_reducible refine wo_pow ?_
  | with_reducible refine wo_shl ?_)
local macro_rules | `(tactic| walk_at "gBool") => `(tactic| first
  | with_reducible refine wo_and ?_
  | with_reducible refine wo_or ?_
  | with_reducible refine wo_bone ?_)
local macro_rules | `(tactic| walk_at "gCmp") => `(tactic| first
  | ((with_reducible refine wo_chain ?_ ?h2); (case h2 => with_unfolding_all rfl))
  | ((with_reducible refine wo_cmpD ?h1 ?_); (case h1 => walk_at "mark")))
local macro_rules | `(tactic| walk_at "gSub") => `(tactic| first
  | walk_at "dg"
  | with_reducible refine wo_slD ?_
  | with_reducible refine wo_revL ?_
  | ((with_reducible refine' wo_fdget ?h1 ?h2 ?h3 ?h4 ?_ ?h6 ?h7 ?h8); (case h1 => with_reducible assumption); (case h2 => with_reducible assumption); (case h3 => rfl); (case h4 => exact fun _ _ => rfl); (case h6 => walk_at "vis"); (case h7 => decide); (case h8 => decide))
  | ((with_reducible refine' wo_dgetI ?h1 ?h2 ?h3 ?h4 ?_ ?h6 ?h7 ?h8); (case h1 => with_reducible assumption); (case h2 => with_reducible assumption); (case h3 => exact ⟨_, _, rfl⟩); (case h4 => exact fun _ _ => rfl); (case h6 => walk_at "vis"); (case h7 => decide); (case h8 => decide))
  | ((with_reducible refine wo_ix ?h1 ?_); (case h1 => exact fun _ _ => rfl)))
local macro_rules | `(tactic| walk_at "gCalN") => `(tactic| first
  | ((with_reducible refine wo_sortedS ?h1 ?h2 ?_ ?h4); (case h1 => rfl); (case h2 => with_reducible assumption); (case h4 => rfl))
  | ((with_reducible refine' wo_c0 ?h1 ?h2 ?h3 ?h4 ?_ ?h6 ?h7 ?h8); (case h1 => with_reducible assumption); (case h2 => with_reducible assumption); (case h3 => first | decide | exact Nat.le_refl _ | omega); (case h4 => rfl); (case h6 => decide); (case h7 => rfl); (case h8 => rfl))
  | ((with_reducible refine' wo_c1 ?h1 ?h2 ?h3 ?h4 ?_ ?h6 ?h7 ?h8); (case h1 => with_reducible assumption); (case h2 => with_reducible assumption); (case h3 => first | decide | exact Nat.le_refl _ | omega); (case h4 => rfl); (case h6 => decide); (case h7 => rfl); (case h8 => rfl))
  | ((with_reducible refine wo_len ?h1 ?h2 ?_ ?h4); (case h1 => rfl); (case h2 => with_reducible assumption); (case h4 => rfl))
  | ((with_reducible refine wo_min2 rfl ?h1 ?h2 ?_ ?h4 ?h5); (case h1 => rfl); (case h2 => with_reducible assumption); (case h4 => rfl); (case h5 => rfl))
  | ((with_reducible refine wo_max2 rfl ?h1 ?h2 ?_ ?h4 ?h5); (case h1 => rfl); (case h2 => with_reducible assumption); (case h4 => rfl); (case h5 => rfl))
  | ((with_reducible refine wo_abs ?h1 ?h2 ?_ ?h4); (case h1 => rfl); (case h2 => with_reducible assumption); (case h4 => rfl))
  | ((with_reducible refine wo_intI ?h1 ?h2 ?_ ?h4); (case h1 => rfl); (case h2 => with_reducible assumption); (case h4 => rfl))
  | ((have hmode : PtMode := by with_reducible assumption); (with_reducible refine wo_tupleF ?h1 ?h2 ?_ ?h4); (case h1 => rfl); (case h2 => with_reducible assumption); (case h4 => rfl))
  | ((with_reducible refine wo_tuple ?h1 ?h2 ?_ ?h4); (case h1 => rfl); (case h2 => with_reducible assumption); (case h4 => rfl))
  | ((with_reducible refine wo_listR1 rfl ?h1 ?h2 ?h3 ?h5 ?_ ?h4 ?h6); (case h1 => rfl); (case h2 => with_reducible assumption); (case h3 => rfl); (case h5 => with_reducible assumption); (case h4 => rfl); (case h6 => rfl))
  | ((with_reducible refine wo_dictP ?h0 ?h1 ?h2 ?_ ?h4); (case h0 => rfl); (case h1 => rfl); (case h2 => with_reducible assumption); (case h4 => rfl))
  | ((with_reducible refine wo_list ?h1 ?h2 ?_ ?h4); (case h1 => rfl); (case h2 => with_reducible assumption); (case h4 => rfl))
  | ((with_reducible refine wo_all ?h0 ?h1 ?h2 ?_ ?h4); (case h0 => rfl); (case h1 => rfl); (case h2 => with_reducible assumption); (case h4 => rfl))
  | ((with_reducible refine wo_isi2 ?h1 ?h2 ?_ ?h4 ?h5); (case h1 => rfl); (case h2 => with_reducible assumption); (case h4 => rfl); (case h5 => rfl)))
local macro_rules | `(tactic| walk_at "gCalA") => `(tactic| first
  | ((with_reducible refine' wo_dpop ?h1 ?h2 ?h3 ?h4 ?h5 ?h6 ?_ ?h8 ?h9 ?h10 ?h11); (case h1 => with_reducible assumption); (case h2 => with_reducible assumption); (case h5 => walk_at "key"); (case h3 => rfl); (case h4 => exact kN); (case h6 => rfl); (case h8 => exact fun t ht => pe_bm PySem.F.plainAttrs_list PySem.F.slot_list_pop PySem.F.type_list_pop mt_popAt ht (pa_cons pe_int pa_nil)); (case h9 => walk_at "vis"); (case h10 => decide); (case h11 => decide))
  | ((with_reducible refine' wo_append ?h1 ?h2 ?_ ?h4 ?h5 ?h6); (case h1 => with_reducible assumption); (case h2 => exact ⟨_, rfl⟩); (case h4 => exact pe_slot (by with_reducible assumption)); (case h5 => exact pe_bm PySem.F.plainAttrs_list PySem.F.slot_list_append PySem.F.type_list_append mt_append (pe_slot (by with_reducible assumption)) pa_w); (case h6 => rfl))
  | ((with_reducible refine' wo_insert ?h2 ?_ ?h4 ?h5 ?h6 ?h7); (case h4 => rfl); (case h5 => exact pe_bm PySem.F.plainAttrs_list PySem.F.slot_list_insert PySem.F.type_list_insert mt_insert (pe_slot (by with_reducible assumption)) pa_w); (case h2 => exact ⟨_, rfl⟩); (case h6 => rfl); (case h7 => rfl))
  | ((with_reducible refine' wo_popAt ?h1 ?_ ?h3 ?h4); (case h3 => exact pe_bm PySem.F.plainAttrs_list PySem.F.slot_list_pop PySem.F.type_list_pop mt_popAt (pe_slot (by with_reducible assumption)) pa_w); (case h1 => exact ⟨_, rfl⟩); (case h4 => rfl))
  | ((have hmode : PtMode := by with_reducible assumption); (with_reducible refine wo_tix ?_ ?h2 ?h3 ?h4 ?h5); (case h2 => rfl); (case h3 => rfl); (case h4 => rfl); (case h5 => rfl))
  | ((with_reducible refine' wo_indexI ?_ ?h5 ?h6); (case h5 => exact pe_bm PySem.F.plainAttrs_list PySem.F.slot_list_index PySem.F.type_list_index mt_index pe_w pa_w); (case h6 => rfl))
  | ((with_reducible refine' wo_pop ?h1 ?h2 ?h3 ?_ ?h5); (case h1 => rfl); (case h5 => exact pe_bm0 PySem.F.plainAttrs_list PySem.F.slot_list_pop PySem.F.type_list_pop mt_pop (pe_slot (by with_reducible assumption)))))
local macro_rules | `(tactic| walk_at "gWO") => `(tactic| first
  | with_reducible refine wo_not ?_
  | with_reducible refine wo_neg ?_
  | with_reducible refine wo_if ?_
  | with_reducible refine wo_dic1 ?_
  | with_reducible refine wo_dic0 ?_
  | with_reducible refine wo_dic3 ?_
  | with_reducible refine wo_lst ?_
  | with_reducible refine wo_tup ?_)
local macro_rules | `(tactic| walk_at "gWT") => `(tactic| first
  | ((with_reducible refine' wt_dne ?h1 ?h2 ?h3 ?h4 ?h5 ?h6 ?_ ?h9 ?h10 ?h11); (case h1 => with_reducible assumption); (case h2 => with_reducible assumption); (case h5 => walk_at "key"); (case h3 => rfl); (case h4 => exact kN); (case h6 => rfl); (case h9 => walk_at "vis"); (case h10 => decide); (case h11 => decide))
  | with_reducible refine wt_not ?_
  | with_reducible refine wt_bool ?_
  | ((with_reducible refine wt_chain ?_ ?h2); (case h2 => with_unfolding_all rfl))
  | ((with_reducible refine wt_cmpD ?h1 ?_); (case h1 => walk_at "mark"))
  | ((with_reducible refine wt_val ?_ ?h2); (case h2 => exact fun _ => rfl)))
local macro_rules | `(tactic| walk_at "gWW") => `(tactic| first
  | with_reducible refine ww_and ?_
  | with_reducible refine ww_and1 ?_
  | with_reducible refine ww_or ?_
  | with_reducible refine ww_or1 ?_)
local macro_rules | `(tactic| walk_at "gWA") => `(tactic| first
  | ((with_reducible refine wa_star ?_ ?h2); (case h2 => rfl))
  | ((with_reducible refine wa_cons ?_ ?h2); (case h2 => rfl))
  | with_reducible refine wa_nil ?_)
local macro_rules | `(tactic| walk_at "rest") => `(tactic| first
  | with_reducible refine wvs_cons ?_
  | with_reducible refine wvs_nil ?_
  | with_reducible refine wk_cons ?_
  | with_reducible refine wk_nil ?_
  | with_reducible refine wp_none ?_
  | with_reducible refine wp_some ?_
  | ((with_reducible refine' wtc_link ?h1 ?_); (case h1 => walk_at "ci"))
  | ((with_reducible refine' wtc_last ?h1 ?_); (case h1 => walk_at "ci")))
local macro_rules | `(tactic| walk_at "fj") => `(tactic| first | (refine DL.fj 0 ?_; rfl) | (refine DL.fj 1 ?_; rfl) | (refine DL.fj 2 ?_; rfl) | (refine DL.fj 3 ?_; rfl) | (refine DL.fj 4 ?_; rfl) | (refine DL.fj 5 ?_; rfl) | (refine DL.fj 6 ?_; rfl) | (refine DL.fj 7 ?_; rfl) | (refine DL.fj 8 ?_; rfl) | (refine DL.fj 9 ?_; rfl) | (refine DL.fj 10 ?_; rfl) | (refine DL.fj 11 ?_; rfl) | (refine DL.fj 12 ?_; rfl) | (refine DL.fj 13 ?_; rfl) | (refine DL.fj 14 ?_; rfl) | (refine DL.fj 15 ?_; rfl))
local macro_rules | `(tactic| walk_at "fa") => `(tactic| ((with_reducible refine' DL.wo_fldA _ ?ob ?hN ?hE ?hj ?hd ?hg ?_ ?hb ?hv ?h1 ?h2); (case ob => with_reducible assumption); (case hN => with_reducible assumption); (case hE => rfl); (case hj => walk_at "fj"); (case hd => rfl); (case hg => walk_at "fj"); (case hb => rfl); (case hv => walk_at "vis"); (case h1 => decide); (case h2 => decide)))
local macro_rules | `(tactic| walk_at "fi") => `(tactic| ((with_reducible refine' DL.wo_fldI ?ob ?hN ?hE ?hj ?hd ?hi ?_ ?hb ?hv ?h1 ?h2); (case ob => with_reducible assumption); (case hN => with_reducible assumption); (case hE => rfl); (case hj => walk_at "fj"); (case hd => rfl); (case hi => walk_at "imm"); (case hb => rfl); (case hv => walk_at "vis"); (case h1 => decide); (case h2 => decide)))
local macro_rules | `(tactic| walk_at "fi") => `(tactic| ((with_reducible refine' DL.wo_fldF ?ob ?hN ?hE ?hj ?hd ?_ ?hb ?hv ?h1 ?h2); (case ob => with_reducible assumption); (case hN => with_reducible assumption); (case hE => rfl); (case hj => walk_at "fj"); (case hd => rfl); (case hb => rfl); (case hv => walk_at "vis"); (case h1 => decide); (case h2 => decide)))
local macro_rules | `(tactic| walk_at "fn") => `(tactic| ((with_reducible refine' DL.wo_nameA _ ?hN ?hE ?hg ?_ ?hv ?h1 ?h2); (case hN => with_reducible assumption); (case hE => rfl); (case hg => walk_at "fj"); (case hv => walk_at "vis"); (case h1 => decide); (case h2 => decide)))
local macro_rules | `(tactic| walk_at "fc") => `(tactic| first
  | ((with_reducible refine' DL.wo_appF _ ?ob ?hN ?hE ?hj ?hd ?hg ?_ ?hb ?hs ?hb2 ?hv ?h1 ?h2); (case ob => with_reducible assumption); (case hN => with_reducible assumption); (case hE => rfl); (case hj => walk_at "fj"); (case hd => rfl); (case hg => walk_at "fj"); (case hb => exact pe_bm PySem.F.plainAttrs_list PySem.F.slot_list_append PySem.F.type_list_append mt_append pe_w pa_w); (case hs => rfl); (case hb2 => rfl); (case hv => walk_at "vis"); (case h1 => decide); (case h2 => decide))
  | ((with_reducible refine' DL.wo_m1 ?c ?hr ?hk ?hN ?hE ?hm ?_ ?h1 ?h2 ?h3 ?hv ?h4 ?h5); (case c => with_reducible assumption); (case hr => with_reducible assumption); (case hk => first | decide | exact Nat.le_refl _ | omega); (case hN => with_reducible assumption); (case hE => rfl); (case hm => decide); (case h1 => rfl); (case h2 => rfl); (case h3 => rfl); (case hv => walk_at "vis"); (case h4 => decide); (case h5 => decide))
  | ((with_reducible refine' DL.wo_mF ?c ?hr ?hk ?hN ?hE ?hm ?_ ?h1 ?h2 ?h3 ?hv ?h4 ?h5); (case c => with_reducible assumption); (case hr => with_reducible assumption); (case hk => first | decide | exact Nat.le_refl _ | omega); (case hN => with_reducible assumption); (case hE => rfl); (case hm => decide); (case h1 => rfl); (case h2 => rfl); (case h3 => rfl); (case hv => walk_at "vis"); (case h4 => decide); (case h5 => decide))
  | ((with_reducible refine' DL.wo_mF0 ?c ?hr ?hk ?hN ?hE ?hm ?_ ?h3 ?hv ?h4 ?h5); (case c => with_reducible assumption); (case hr => with_reducible assumption); (case hk => first | decide | exact Nat.le_refl _ | omega); (case hN => with_reducible assumption); (case hE => rfl); (case hm => decide); (case h3 => rfl); (case hv => walk_at "vis"); (case h4 => decide); (case h5 => decide))
  | ((with_reducible refine' DL.wo_m10 ?c ?hr ?hk ?hN ?hE ?hm ?_ ?h3 ?hv ?h4 ?h5); (case c => with_reducible assumption); (case hr => with_reducible assumption); (case hk => first | decide | exact Nat.le_refl _ | omega); (case hN => with_reducible assumption); (case hE => rfl); (case hm => decide); (case h3 => rfl); (case hv => walk_at "vis"); (case h4 => decide); (case h5 => decide)))
local macro_rules | `(tactic| walk_at "d") => `(tactic| first
  | ((with_reducible refine DL.gName ?_); walk_at "fn")
  | ((with_reducible refine DL.gCalA ?_); walk_at "fc")
  | ((with_reducible refine DL.gWSs ?_); walk_at "gWSs")
  | ((with_reducible refine DL.gWS ?_); walk_at "gWS")
  | ((with_reducible refine DL.gWG ?_); walk_at "gWG")
  | ((with_reducible refine DL.gENm ?_); walk_at "gENm")
  | ((with_reducible refine DL.gWE ?_); walk_at "gWE")
  | ((with_reducible refine DL.gName ?_); walk_at "gName")
  | ((with_reducible refine DL.gCon ?_); walk_at "gCon")
  | ((with_reducible refine DL.gBin ?_); walk_at "gBin")
  | ((with_reducible refine DL.gBool ?_); walk_at "gBool")
  | ((with_reducible refine DL.gCmp ?_); walk_at "gCmp")
  | ((with_reducible refine DL.gSub ?_); walk_at "gSub")
  | ((with_reducible refine DL.gCalN ?_); walk_at "gCalN")
  | ((with_reducible refine DL.gCalA ?_); walk_at "gCalA")
  | ((with_reducible refine DL.gWO ?_); walk_at "gWO")
  | ((with_reducible refine DL.gWT ?_); walk_at "gWT")
  | ((with_reducible refine DL.gWW ?_); walk_at "gWW")
  | ((with_reducible refine DL.gWA ?_); walk_at "gWA")
  | walk_at "fa"
  | walk_at "fi"
  | walk_at "rest"
  | walk_at "ob")
local macro_rules | `(tactic| walk_at "go") => `(tactic| repeat walk_at "d")
section
def fileL : Str := PySem.Challenge.pw_asifcopied_k21_whole_long_rows.main.file
def top (i : Nat) : Stmt := PySem.Challenge.pw_asifcopied_k21_whole_long_rows.main.body.getD i (.Pass ⟨0, 0, 0, 0⟩)
abbrev s_is_whole : Stmt := top 9
theorem sc_is_whole : FnScope ["value"] ["value"] (defScope s_is_whole) := ⟨rfl, rfl, rfl, by decide +kernel, rfl, by decide +kernel, by decide +kernel⟩
abbrev s_is_number : Stmt := top 10
theorem sc_is_number : FnScope ["value", "low"] ["value", "low"] (defScope s_is_number) := ⟨rfl, rfl, rfl, by decide +kernel, rfl, by decide +kernel, by decide +kernel⟩
abbrev s_need_bits : Stmt := top 13
theorem sc_need_bits : FnScope ["bits"] ["bits"] (defScope s_need_bits) := ⟨rfl, rfl, rfl, by decide +kernel, rfl, by decide +kernel, by decide +kernel⟩
abbrev s_most_by : Stmt := top 14
theorem sc_most_by : FnScope ["level", "over", "under", "turn"] ["level"] (defScope s_most_by) := ⟨rfl, rfl, rfl, by decide +kernel, rfl, by decide +kernel, by decide +kernel⟩
abbrev s_half_by : Stmt := top 15
theorem sc_half_by : FnScope ["level"] ["level"] (defScope s_half_by) := ⟨rfl, rfl, rfl, by decide +kernel, rfl, by decide +kernel, by decide +kernel⟩
abbrev s_stock_of : Stmt := top 17
theorem sc_stock_of : FnScope ["labels", "found", "level", "counts", "mark", "spot"] ["labels"] (defScope s_stock_of) := ⟨rfl, rfl, rfl, by decide +kernel, rfl, by decide +kernel, by decide +kernel⟩
abbrev s_potential : Stmt := top 18
theorem sc_potential : FnScope ["labels"] ["labels"] (defScope s_potential) := ⟨rfl, rfl, rfl, by decide +kernel, rfl, by decide +kernel, by decide +kernel⟩
abbrev s_law_begun : Stmt := top 20
theorem sc_law_begun : FnScope ["script", "great", "cell"] ["script"] (defScope s_law_begun) := ⟨rfl, rfl, rfl, by decide +kernel, rfl, by decide +kernel, by decide +kernel⟩
abbrev s_law_blended : Stmt := top 21
theorem sc_law_blended : FnScope ["state", "turn", "found", "prime", "blend", "cell"] ["state"] (defScope s_law_blended) := ⟨rfl, rfl, rfl, by decide +kernel, rfl, by decide +kernel, by decide +kernel⟩
abbrev s_law_draw : Stmt := top 22
theorem sc_law_draw : FnScope ["state", "size_here", "found"] ["state", "size_here"] (defScope s_law_draw) := ⟨rfl, rfl, rfl, by decide +kernel, rfl, by decide +kernel, by decide +kernel⟩
abbrev s_law_pick : Stmt := top 23
theorem sc_law_pick : FnScope ["state", "several"] ["state", "several"] (defScope s_law_pick) := ⟨rfl, rfl, rfl, by decide +kernel, rfl, by decide +kernel, by decide +kernel⟩
abbrev s_law_is_whole : Stmt := top 24
theorem sc_law_is_whole : FnScope ["item"] ["item"] (defScope s_law_is_whole) := ⟨rfl, rfl, rfl, by decide +kernel, rfl, by decide +kernel, by decide +kernel⟩
abbrev s_law_lb_next : Stmt := top 25
theorem sc_law_lb_next : FnScope ["state", "kind", "pairs", "last"] ["state", "kind", "pairs", "last"] (defScope s_law_lb_next) := ⟨rfl, rfl, rfl, by decide +kernel, rfl, by decide +kernel, by decide +kernel⟩
abbrev s_law : Stmt := top 26
theorem sc_law : FnScope ["script", "state", "many", "bits", "labels", "row", "last", "kind", "total", "turn", "told_here", "item", "moved", "here"] ["script"] (defScope s_law) := ⟨rfl, rfl, rfl, by decide +kernel, rfl, by decide +kernel, by decide +kernel⟩
abbrev s_Labels___init__ : Stmt := methS (top 16) 0
theorem sc_Labels___init__ : FnScope ["self", "bits", "self.bits", "self.line", "self.marks", "self.total"] ["self", "bits"] (defScope s_Labels___init__) := ⟨rfl, rfl, rfl, by decide +kernel, rfl, by decide +kernel, by decide +kernel⟩
abbrev s_Labels___len__ : Stmt := methS (top 16) 1
abbrev s_Labels___eq__ : Stmt := methS (top 16) 2
abbrev s_Labels__need : Stmt := methS (top 16) 3
theorem sc_Labels__need : FnScope ["self", "item", "self.bits", "self.line", "self.marks", "self.total"] ["self", "item"] (defScope s_Labels__need) := ⟨rfl, rfl, rfl, by decide +kernel, rfl, by decide +kernel, by decide +kernel⟩
abbrev s_Labels__end : Stmt := methS (top 16) 4
theorem sc_Labels__end : FnScope ["self", "place", "self.bits", "self.line", "self.marks", "self.total"] ["self", "place"] (defScope s_Labels__end) := ⟨rfl, rfl, rfl, by decide +kernel, rfl, by decide +kernel, by decide +kernel⟩
abbrev s_Labels__within : Stmt := methS (top 16) 5
theorem sc_Labels__within : FnScope ["self", "level", "first", "last", "item", "self.bits", "self.line", "self.marks", "self.total"] ["self", "level", "first"] (defScope s_Labels__within) := ⟨rfl, rfl, rfl, by decide +kernel, rfl, by decide +kernel, by decide +kernel⟩
abbrev s_Labels__level : Stmt := methS (top 16) 6
theorem sc_Labels__level : FnScope ["self", "mark", "level", "self.bits", "self.line", "self.marks", "self.total"] ["self", "mark"] (defScope s_Labels__level) := ⟨rfl, rfl, rfl, by decide +kernel, rfl, by decide +kernel, by decide +kernel⟩
abbrev s_Labels__lay : Stmt := methS (top 16) 7
theorem sc_Labels__lay : FnScope ["self", "level", "first", "new", "inside", "moved", "place", "item", "mark", "self.bits", "self.line", "self.marks", "self.total"] ["self", "level", "first", "new"] (defScope s_Labels__lay) := ⟨rfl, rfl, rfl, by decide +kernel, rfl, by decide +kernel, by decide +kernel⟩
abbrev s_Labels_put : Stmt := methS (top 16) 8
theorem sc_Labels_put : FnScope ["self", "item", "place", "mark", "new", "end", "level", "moved", "self.bits", "self.line", "self.marks", "self.total"] ["self", "item"] (defScope s_Labels_put) := ⟨rfl, rfl, rfl, by decide +kernel, rfl, by decide +kernel, by decide +kernel⟩
abbrev s_Labels_label : Stmt := methS (top 16) 9
theorem sc_Labels_label : FnScope ["self", "item", "self.bits", "self.line", "self.marks", "self.total"] ["self", "item"] (defScope s_Labels_label) := ⟨rfl, rfl, rfl, by decide +kernel, rfl, by decide +kernel, by decide +kernel⟩
abbrev s_Labels_behind : Stmt := methS (top 16) 11
abbrev s_Labels_row : Stmt := methS (top 16) 12
theorem sc_Labels_row : FnScope ["self", "self.bits", "self.line", "self.marks", "self.total"] ["self"] (defScope s_Labels_row) := ⟨rfl, rfl, rfl, by decide +kernel, rfl, by decide +kernel, by decide +kernel⟩
abbrev s_Labels_moved : Stmt := methS (top 16) 13
theorem sc_Labels_moved : FnScope ["self", "self.bits", "self.line", "self.marks", "self.total"] ["self"] (defScope s_Labels_moved) := ⟨rfl, rfl, rfl, by decide +kernel, rfl, by decide +kernel, by decide +kernel⟩
def G_MOST_NUMBER : Int := 1000000000000000000
def G_MOST_BITS : Int := 59
structure Fz (K : PySem.W.Frag) (mg : Str → Option Value) : Prop where
  d_is_whole : Has K mg "is_whole" s_is_whole ["value"]
  d_is_number : Has K mg "is_number" s_is_number ["value", "low"]
  d_need_bits : Has K mg "need_bits" s_need_bits ["bits"]
  d_most_by : Has K mg "most_by" s_most_by ["level"]
  d_half_by : Has K mg "half_by" s_half_by ["level"]
  d_stock_of : Has K mg "stock_of" s_stock_of ["labels"]
  d_potential : Has K mg "potential" s_potential ["labels"]
  d_law_begun : Has K mg "_law_begun" s_law_begun ["script"]
  d_law_blended : Has K mg "_law_blended" s_law_blended ["state"]
  d_law_draw : Has K mg "_law_draw" s_law_draw ["state", "size_here"]
  d_law_pick : Has K mg "_law_pick" s_law_pick ["state", "several"]
  d_law_is_whole : Has K mg "_law_is_whole" s_law_is_whole ["item"]
  d_law_lb_next : Has K mg "_law_lb_next" s_law_lb_next ["state", "kind", "pairs", "last"]
  d_law : Has K mg "law" s_law ["script"]
  d_Labels___init__ : HasM K (LamT.ob "Labels") "__init__" "Labels.__init__" s_Labels___init__ ["self", "bits"]
  d_Labels___len__ : HasM K (LamT.ob "Labels") "__len__" "Labels.__len__" s_Labels___len__ ["self"]
  d_Labels___eq__ : HasM K (LamT.ob "Labels") "__eq__" "Labels.__eq__" s_Labels___eq__ ["self", "other"]
  d_Labels__need : HasM K (LamT.ob "Labels") "_need" "Labels._need" s_Labels__need ["self", "item"]
  d_Labels__end : HasM K (LamT.ob "Labels") "_end" "Labels._end" s_Labels__end ["self", "place"]
  d_Labels__within : HasM K (LamT.ob "Labels") "_within" "Labels._within" s_Labels__within ["self", "level", "first"]
  d_Labels__level : HasM K (LamT.ob "Labels") "_level" "Labels._level" s_Labels__level ["self", "mark"]
  d_Labels__lay : HasM K (LamT.ob "Labels") "_lay" "Labels._lay" s_Labels__lay ["self", "level", "first", "new"]
  d_Labels_put : HasM K (LamT.ob "Labels") "put" "Labels.put" s_Labels_put ["self", "item"]
  d_Labels_label : HasM K (LamT.ob "Labels") "label" "Labels.label" s_Labels_label ["self", "item"]
  d_Labels_behind : HasM K (LamT.ob "Labels") "behind" "Labels.behind" s_Labels_behind ["self", "item"]
  d_Labels_row : HasM K (LamT.ob "Labels") "row" "Labels.row" s_Labels_row ["self"]
  d_Labels_moved : HasM K (LamT.ob "Labels") "moved" "Labels.moved" s_Labels_moved ["self"]
  o_Labels : mg "Labels" = some (.ref (LamT.ob "Labels"))
  k_Labels : Ob K (LamT.ob "Labels") ["bits", "line", "marks", "total"]
  n_Labels : ∃ f, Mk K (LamT.ob "Labels") f
  i_Labels : C8.InsC K (LamT.ob "Labels")
  b_abs : mg "abs" = none
  b_bool : mg "bool" = none
  b_enumerate : mg "enumerate" = none
  b_int : mg "int" = none
  b_isinstance : mg "isinstance" = none
  b_len : mg "len" = none
  b_list : mg "list" = none
  b_max : mg "max" = none
  b_min : mg "min" = none
  b_range : mg "range" = none
  b_repr : mg "repr" = none
  b_set : mg "set" = none
  b_sorted : mg "sorted" = none
  b_sum : mg "sum" = none
  g_MOST_BITS : ∃ t, mg "MOST_BITS" = some (.int G_MOST_BITS t)
  g_MOST_NUMBER : ∃ t, mg "MOST_NUMBER" = some (.int G_MOST_NUMBER t)
  c_CopyError : ∃ C : Addr, mg "CopyError" = some (.ref C)
  c_BadBits : ∃ C : Addr, mg "BadBits" = some (.ref C)
  x_BadBits : ExF K mg "BadBits"
  y_BadBits : ∀ C : Addr, mg "BadBits" = some (.ref C) → L2.ExcC K C
  c_BadItem : ∃ C : Addr, mg "BadItem" = some (.ref C)
  x_BadItem : ExF K mg "BadItem"
  y_BadItem : ∀ C : Addr, mg "BadItem" = some (.ref C) → L2.ExcC K C
  c_BadLabels : ∃ C : Addr, mg "BadLabels" = some (.ref C)
  x_BadLabels : ExF K mg "BadLabels"
  y_BadLabels : ∀ C : Addr, mg "BadLabels" = some (.ref C) → L2.ExcC K C
  c_Full : ∃ C : Addr, mg "Full" = some (.ref C)
  s_Full : ExS fileL K mg "Full" "many"
  z_Full : ∀ C : Addr, mg "Full" = some (.ref C) → L2.ExcC K C ∧ L2.XfC K C ∧ PySem.W.findIn K (.ref C) "many" = some none
end
section
section
variable {P : Program} {w : World} {K : PySem.W.Frag} {mg : Str → Option Value} {base : Heap} [PrF P fileL]
theorem ten18 : (10 : Int) ^ (Int.toNat 18) = 1000000000000000000 := by decide
theorem absI {i : Int} : 0 ≤ (if i < 0 then -i else i) := by split <;> omega
theorem src_ints {xs : List Int} {j : Nat} (h : j < xs.length) : (xs.map D.int).getD j .non = .int xs[j] := by rw [getD_ints h, List.getD_eq_getElem?_getD, List.getElem?_eq_getElem h]; rfl
theorem fm_ints {G : Int → Option Int} {xs : List Int} : xs.filterMap (fun c => (G c).map D.int) = (xs.filterMap G).map D.int := by rw [List.map_filterMap]
theorem cal_law_begun (Z : Fz K mg) : Cal P w K mg base 1 "_law_begun" (toSp K 0 ct_law_begun) := by
  refine cal_of Z.d_law_begun sc_law_begun (fun a ds h => by rw [h.1]; rfl) (by decide) ?_
  intro f cdv A outer s H E hr (a : List Int ) ds hp X
  have hNd : X.N.Nodup := sc_law_begun.nd
  haveI iPrF : PrF X.prog fileL := (inferInstance : PrF P fileL)
  have hN0 : X.N[0]? = some ("script" : Str) := rfl
  have hN1 : X.N[1]? = some ("great" : Str) := rfl
  have hN2 : X.N[2]? = some ("cell" : Str) := rfl
  have hR : Room 0 X.A := hr
  have hu64 : X.A.units + 64 < cLine := by have := hR.un; omega
  have hu1 : X.A.units + 1 < cLine := by have := hR.un; omega
  have m_abs : X.mg "abs" = none := Z.b_abs
  obtain ⟨hds, hp⟩ := hp
  subst hds
  show WSs X [] (_ :: _) [ some (D.fz (a.map D.int)), none, none] _
  walk_at "go"
  refine' ws_setLcX (own := [("cell", 2)]) rfl hNd hN1 rfl (by decide) ?ok ?hg ?_ ?sw ?hs
  case ok => exact (show BlkOk ["script", "great", "cell"] (defScope s_law_begun) _ [("cell", 2)] from ⟨rfl, by decide +kernel, by decide +kernel, by decide +kernel, by decide +kernel⟩)
  case hs => exact fun _ => rfl
  case sw => exact sw_true rfl rfl rfl rfl
  case hg => exact blk_name hNd hN2 rfl
  refine wi_lst ?_
  walk_at "go"
  rw [List.length_map]
  refine ⟨Int, a, D.int, fun c => (if (if c < 0 then -c else c) ≥ 1000000000000000000 then some ((if c < 0 then -c else c) - 1000000000000000000) else none).map D.int, rfl, by omega, fun j h => src_ints h, (fun p h => nomatch h), ?_, ?_⟩
  · intro c hc
    refine ⟨_, tgb_name (by decide) (Nat.le_of_ble_eq_true rfl), fun s H C cl fp => ?_⟩
    try dsimp only [List.set]
    refine wif_one ?_
    walk_at "go"
    rw [ten18]
    refine ⟨fun ht s H C cl fp => ?_, fun hf => ⟨by rw [if_neg (of_decide_eq_false hf)]; rfl, rfl⟩⟩
    walk_at "go"
    rw [ten18]
    exact ⟨by rw [if_pos (of_decide_eq_true ht)]; rfl, rfl⟩
  · rw [fm_ints]
    refine ⟨Nat.le_of_ble_eq_true rfl, ?_⟩
    dsimp only [List.set, wipeE, List.map]
    show WSs _ _ _ _ _
    walk_at "go"
    refine wo_disp (zs := ["great", "cells", "left", "turn"]) (pe_disp (pps_cons pe_str pe_w (pps_cons pe_str pe_w (pps_cons pe_str pe_w (pps_cons pe_str pe_w pps_nil)))) rfl rfl (by decide) (by decide)) rfl (by decide) (by decide) ?_
    walk_at "go"
    refine wo_freeze ?_
    refine' wo_lcX (own := [("cell", 2)]) rfl hNd ?ok ?hg ?_ ?hs
    case ok => exact (show BlkOk ["script", "great", "cell"] (defScope s_law_begun) _ [("cell", 2)] from ⟨rfl, by decide +kernel, by decide +kernel, by decide +kernel, by decide +kernel⟩)
    case hs => exact fun _ => rfl
    case hg => exact blk_name hNd hN2 rfl
    refine wi_lst ?_
    walk_at "go"
    rw [List.length_map]
    refine ⟨Int, a, D.int, fun c => (some (if c < 0 then -c else c)).map D.int, rfl, by omega, fun j h => src_ints h, (fun p h => nomatch h), ?_, ?_⟩
    · intro c hc
      refine ⟨_, tgb_name (by decide) (Nat.le_of_ble_eq_true rfl), fun s H C cl fp => ?_⟩
      try dsimp only [List.set]
      refine wif_nil ⟨fun _ s H C cl fp => ?_, fun h => Bool.noConfusion h⟩
      walk_at "go"
      exact ⟨rfl, rfl⟩
    · rw [fm_ints]
      refine ⟨_, rfl, imms_ints, ?_⟩
      walk_at "go"
      refine ⟨[], rfl, ⟨_, _, 0, 0⟩, rfl, fun x hx => ?_, fun x hx => ?_, Int.le_refl _, Int.le_refl _, Int.le_refl _⟩
      · obtain ⟨c, _, h⟩ := List.mem_filterMap.mp hx
        revert h
        generalize (if c < 0 then -c else c) = y
        intro h
        split at h
        · cases h
          omega
        · cases h
      · obtain ⟨c, _, h⟩ := List.mem_filterMap.mp hx
        cases h
        exact absI
theorem prime3 {j : Nat} (h : j < 3) : ∃ p, ([D.int 2147483353, D.int 2147483323, D.int 2147483269] : List D).getD j .non = .int p ∧ 2147483000 < p ∧ p < 2147483648 := by
  rcases j with _ | _ | _ | j
  · exact ⟨_, rfl, by decide, by decide⟩
  · exact ⟨_, rfl, by decide, by decide⟩
  · exact ⟨_, rfl, by decide, by decide⟩
  · omega
theorem cal_law_blended (Z : Fz K mg) : Cal P w K mg base 1 "_law_blended" (toSp K 1 ct_law_blended) := by
  refine cal_of Z.d_law_blended sc_law_blended (fun a ds h => by rw [h.1]; rfl) (by decide) ?_
  intro f cdv A outer s H E hr (a : Sta × Int ) ds hp X
  have hNd : X.N.Nodup := sc_law_blended.nd
  haveI iPrF : PrF X.prog fileL := (inferInstance : PrF P fileL)
  have hN0 : X.N[0]? = some ("state" : Str) := rfl
  have hN1 : X.N[1]? = some ("turn" : Str) := rfl
  have hN2 : X.N[2]? = some ("found" : Str) := rfl
  have hN3 : X.N[3]? = some ("prime" : Str) := rfl
  have hN4 : X.N[4]? = some ("blend" : Str) := rfl
  have hN5 : X.N[5]? = some ("cell" : Str) := rfl
  have hR : Room 0 X.A := hr
  have hu64 : X.A.units + 64 < cLine := by have := hR.un; omega
  have hu1 : X.A.units + 1 < cLine := by have := hR.un; omega
  have m_int : X.mg "int" = none := Z.b_int
  obtain ⟨hds, hp⟩ := hp
  subst hds
  show WSs X [0] (_ :: _) [ some (sD a.1), none, none, none, none, none] _
  obtain ⟨⟨g, c, l, t⟩, n⟩ := a
  obtain ⟨ok, hn⟩ := hp
  have ht0 := ok.t0
  have ht1 := ok.t1
  dsimp only at ht0 ht1 hn
  refine wss_cons ?_
  refine' ws_par rfl hNd hN1 hN2 (by decide) (by decide) (by decide) rfl rfl ?_ ?hw ?hs
  case hw => rfl
  case hs => rfl
  walk_at "go"
  refine ⟨kS, _, 3, _, rfl, kN, rfl, rfl, trivial, trivial, by decide, ?_⟩
  dsimp only [List.set]
  show WSs _ _ _ (some (stD g c l (t + 1)) :: _) _
  refine wss_cons ?_
  refine ws_for PassesOwn.never rfl ?_
  refine wi_lst ?_
  walk_at "go"
  refine ⟨⟨trivial, trivial, trivial, trivial⟩, ?_⟩
  refine ⟨fun n E' => ∃ f o1 o2 o3, 0 ≤ f ∧ E' = [some (stD g c l (t + 1)), some (.int (t + 1)), some (.int f), o1, o2, o3], ⟨0, none, none, none, Int.le_refl _, rfl⟩, (fun _ _ _ _ p h => nomatch h), ?_, ?_⟩
  · rintro j E' hj ⟨f, o1, o2, o3, hf, rfl⟩
    obtain ⟨p, ep, p0, p1⟩ := prime3 hj
    rw [ep]
    walk_at "go"
    refine ws_for PassesOwn.never rfl ?_
    refine wi_lst ?_
    walk_at "go"
    refine ⟨fun n E' => ∃ b o3, (0 ≤ b ∧ b < 18446744073709551616) ∧ E' = [some (stD g c l (t + 1)), some (.int (t + 1)), some (.int f), some (.int p), some (.int b), o3], ?_, (fun _ _ _ _ p h => nomatch h), ?_, ?_⟩
    · exact ⟨_, _, ⟨by omega, by omega⟩, rfl⟩
    · rintro k E' hk ⟨b, o3, hb, rfl⟩
      rw [List.length_map] at hk
      show WG _ _ _ ((c.map D.int).getD k .non) _ _
      rw [getD_ints hk]
      generalize c.getD k 0 = x
      walk_at "go"
      exact ⟨_, _, ⟨Int.emod_nonneg _ (by omega), Int.lt_trans (Int.emod_lt_of_pos _ (by omega)) (by omega)⟩, rfl⟩
    · rintro E' ⟨b, o3, hb, rfl⟩
      walk_at "go"
      refine ⟨_, _, _, _, ?_, rfl⟩
      have h1 : 0 ≤ f * 2147483647 := Int.mul_nonneg hf (by decide)
      have h2 : 0 ≤ (b ^ (Int.toNat 5)) % p := Int.emod_nonneg _ (by omega)
      omega
  · rintro E' ⟨f, o1, o2, o3, hf, rfl⟩
    walk_at "go"
    exact ⟨[stD g c l (t + 1)], rfl, f, rfl, hf, rfl⟩
theorem cal_law_draw (Z : Fz K mg) : Cal P w K mg base 2 "_law_draw" (toSp K 1 ct_law_draw) := by
  refine cal_of Z.d_law_draw sc_law_draw (fun a ds h => by rw [h.1]; rfl) (by decide) ?_
  intro f cdv A outer s H E hr (a : Sta × Int × Int ) ds hp X
  have hNd : X.N.Nodup := sc_law_draw.nd
  haveI iPrF : PrF X.prog fileL := (inferInstance : PrF P fileL)
  have hN0 : X.N[0]? = some ("state" : Str) := rfl
  have hN1 : X.N[1]? = some ("size_here" : Str) := rfl
  have hN2 : X.N[2]? = some ("found" : Str) := rfl
  have hR : Room 1 X.A := hr
  have hu64 : X.A.units + 64 < cLine := by have := hR.un; omega
  have hu1 : X.A.units + 1 < cLine := by have := hR.un; omega
  have m_int : X.mg "int" = none := Z.b_int
  have c_law_blended : Cal X.prog X.w X.K X.mg X.base 1 "_law_blended" (toSp X.K 1 ct_law_blended) := cal_law_blended Z
  obtain ⟨hds, hp⟩ := hp
  subst hds
  show WSs X [0] (_ :: _) [ some (sD a.1), some (D.int a.2.1), none] _
  obtain ⟨⟨g, c, l, t⟩, sz, n⟩ := a
  obtain ⟨ok, ⟨hs0, hs1⟩, hn⟩ := hp
  have ht0 := ok.t0
  have ht1 := ok.t1
  have l0 := ok.l0
  dsimp only at ok ht0 ht1 l0 hs0 hs1 hn ⊢
  refine wss_cut (fun E' => ∃ g' l' t', SOk (n + 1) ⟨g', c, l', t'⟩ ∧ E' = [some (stD g' c l' t'), some (.int sz), none]) ?_ ?_
  · walk_at "go"
    refine ⟨fun h => ?_, fun h => wss_nil ⟨g, l, t, ok.mono (by omega), rfl⟩⟩
    walk_at "go"
    refine ⟨fun h2 => ?_, fun h2 => ?_⟩
    · cases g with
      | nil => cases h2
      | cons g0 gs =>
        walk_at "go"
        refine ⟨kS, _, 2, _, rfl, kN, rfl, rfl, trivial, trivial, by decide, ?_⟩
        exact ⟨gs, g0, t, ⟨fun x hx => ok.g0 x (List.mem_cons_of_mem _ hx), ok.c0, ok.g0 g0 List.mem_cons_self, ht0, (by dsimp only; omega)⟩, rfl⟩
    · walk_at "go"
      refine ⟨(⟨g, c, l, t⟩, n), ⟨rfl, ok, hn⟩, ?_⟩
      rintro d d0 ⟨r, rfl, hr0, hd⟩
      cases hd
      dsimp only [List.set]
      refine ⟨_, rfl, kS, _, 2, _, rfl, kN, rfl, rfl, trivial, trivial, by decide, ?_⟩
      exact ⟨g, r, t + 1, ⟨ok.g0, ok.c0, hr0, by dsimp only; omega, by dsimp only; omega⟩, rfl⟩
  · rintro E' ⟨g', l', t', ok', rfl⟩
    have l0' := ok'.l0
    dsimp only at l0'
    walk_at "go"
    refine ⟨kS, _, 2, _, rfl, kN, rfl, rfl, trivial, trivial, by decide, ?_⟩
    dsimp only [List.set]
    show WSs _ _ _ (some (stD g' c (l' / sz) t') :: _) _
    walk_at "go"
    exact ⟨[stD g' c (l' / sz) t'], rfl, _, ⟨g', c, l' / sz, t'⟩, rfl, ⟨Int.emod_nonneg _ (by omega), Int.emod_lt_of_pos _ hs0⟩, rfl, ⟨ok'.g0, ok'.c0, Int.ediv_nonneg l0' (by omega), ok'.t0, ok'.t1⟩⟩
theorem cal_law_pick (Z : Fz K mg) : Cal P w K mg base 3 "_law_pick" (toSp K 1 ct_law_pick) := by
  refine cal_of Z.d_law_pick sc_law_pick (fun a ds h => by rw [h.1]; rfl) (by decide) ?_
  intro f cdv A outer s H E hr (a : Sta × Int × D × List D ) ds hp X
  have hNd : X.N.Nodup := sc_law_pick.nd
  haveI iPrF : PrF X.prog fileL := (inferInstance : PrF P fileL)
  have hN0 : X.N[0]? = some ("state" : Str) := rfl
  have hN1 : X.N[1]? = some ("several" : Str) := rfl
  have hR : Room 2 X.A := hr
  have hu64 : X.A.units + 64 < cLine := by have := hR.un; omega
  have hu1 : X.A.units + 1 < cLine := by have := hR.un; omega
  have c_law_draw : Cal X.prog X.w X.K X.mg X.base 2 "_law_draw" (toSp X.K 1 ct_law_draw) := cal_law_draw Z
  have m_len : X.mg "len" = none := Z.b_len
  obtain ⟨hds, hp⟩ := hp
  subst hds
  show WSs X [0] (_ :: _) [ some (sD a.1), some a.2.2.1] _
  obtain ⟨s, n, d, ds⟩ := a
  obtain ⟨ok, hseq, im, ⟨l0, l1⟩, hn⟩ := hp
  dsimp only at ok hseq im l0 l1 hn ⊢
  walk_at "go"
  refine ⟨ds, hseq, ?_⟩
  walk_at "go"
  refine ⟨(_, _, _), ⟨rfl, by with_reducible assumption, by dsimp only; (try simp only [ncast]); omega, by dsimp only; omega⟩, ?_⟩
  rintro _ _ ⟨r, s1, rfl, hr, hd, oks1⟩
  cases hd
  dsimp only at hr oks1
  try simp only [ncast] at hr
  dsimp only [List.set]
  obtain ⟨x, hx⟩ : ∃ x, ds[r.toNat]? = some x := ⟨_, List.getElem?_eq_getElem (by omega)⟩
  refine ⟨ds, r, x, hseq, rfl, by rw [ix_nat hr.1]; exact hx, imms_get im hx, ?_⟩
  walk_at "go"
  exact ⟨[sD s1], rfl, s1, List.mem_of_getElem? hx, rfl, oks1⟩
end
end
section
abbrev ct_is_whole : Ct := ctv_is_whole
abbrev ct_is_number : Ct := ctv_is_number
theorem isN_in {i l : Int} (h0 : l ≤ i) (h1 : i < 1000000000000000000) (hl : -1000000000000000000 < i := by omega) : isN (.int i) l = true := by
  simp [isN, isW]
  omega
/-! ### Labels -/
def iN (xs : List Nat) : List D := (xs.map fun n : Nat => (n : Int)).map D.int
def labD (s : Lb) : D := .obj (LamT.ob "Labels") ["bits", "line", "marks", "total"] [.int s.b, .lst (iN s.line), .lst (iN s.ms), .int s.tot]
def labF (s : Lb) : D := .fo (LamT.ob "Labels") ["bits", "line", "marks", "total"] [.int s.b, .fz (iN s.line), .fz (iN s.ms), .int s.tot]
theorem imms_iN {xs : List Nat} : Imms (iN xs) := imms_ints
theorem iN_len {xs : List Nat} : (iN xs).length = xs.length := by unfold iN; rw [List.length_map, List.length_map]
theorem iN_at {xs : List Nat} {p i : Nat} (h : xs[p]? = some i) : atI (iN xs) (p : Int) = some (.int i) := by
  rw [ix_nat (by omega), Int.toNat_natCast]
  unfold iN
  rw [List.getElem?_map, List.getElem?_map, h]
  rfl
theorem iN_src {xs : List Nat} {j : Nat} (h : j < xs.length) : (iN xs).getD j .non = .int (xs[j] : Nat) := by
  unfold iN
  rw [List.getD_eq_getElem?_getD, List.getElem?_map, List.getElem?_map, List.getElem?_eq_getElem h]
  rfl
theorem canF_lab {s : Lb} : canF (labD s) = true := by
  show (true && (canFs (iN s.line) && (canFs (iN s.ms) && (true && true)))) = true
  unfold iN
  rw [frzs_ints.2, frzs_ints.2]
  rfl
theorem frz_lab {s : Lb} : frz (labD s) = labF s := by
  show D.fo _ _ [.int s.b, .fz (frzs (iN s.line)), .fz (frzs (iN s.ms)), .int s.tot] = _
  unfold iN
  rw [frzs_ints.1, frzs_ints.1]
  rfl
/-- labels of a row that is not long -/
structure LbB (s : Lb) : Prop extends LbOk s where
  b1 : 1 ≤ s.b
  b2 : s.b ≤ 59
  ll : s.line.length < 1000
theorem LbB.line_at {s : Lb} (g : LbB s) {p : Nat} (h : p < s.line.length) : ∃ i, s.line[p]? = some i ∧ i < s.line.length ∧ atI (iN s.line) (p : Int) = some (.int i) :=
  ⟨s.line[p], List.getElem?_eq_getElem h, (g.mem _).mp (List.getElem_mem h), iN_at (List.getElem?_eq_getElem h)⟩
theorem LbB.mk_at {s : Lb} (g : LbB s) {i : Nat} (h : i < s.line.length) : atI (iN s.ms) (i : Int) = some (.int (s.at i)) := by
  have hl := g.len
  refine iN_at ?_
  unfold Lb.at
  rw [List.getD_eq_getElem?_getD, List.getElem?_eq_getElem (by omega)]
  rfl
section
variable {P : Program} {w : World} {K : PySem.W.Frag} {mg : Str → Option Value} {base : Heap} [PrF P fileL]
theorem cal_is_whole (Z : Fz K mg) : Cal P w K mg base 1 "is_whole" (toSp K 0 ct_is_whole) := by
  refine cal_of Z.d_is_whole sc_is_whole (fun a ds h => by rw [h.1]; rfl) (by decide) ?_
  intro f cdv A outer s H E hr (a : D ) ds hp X
  have hNd : X.N.Nodup := sc_is_whole.nd
  haveI iPrF : PrF X.prog fileL := (inferInstance : PrF P fileL)
  have hN0 : X.N[0]? = some ("value" : Str) := rfl
  have hR : Room 0 X.A := hr
  have hu64 : X.A.units + 64 < cLine := by have := hR.un; omega
  have hu1 : X.A.units + 1 < cLine := by have := hR.un; omega
  have m_isinstance : X.mg "isinstance" = none := Z.b_isinstance
  have m_int : X.mg "int" = none := Z.b_int
  obtain ⟨t_MOST_NUMBER, g_MOST_NUMBER⟩ : ∃ t, X.mg "MOST_NUMBER" = some (.int G_MOST_NUMBER t) := Z.g_MOST_NUMBER
  have m_bool : X.mg "bool" = none := Z.b_bool
  have m_abs : X.mg "abs" = none := Z.b_abs
  obtain ⟨hds, hp⟩ := hp
  subst hds
  show WSs X [] (_ :: _) [ some a] _
  obtain ⟨nn, pl⟩ := hp
  cases a with
  | op v => exact pl.elim
  | obj C fs ds => exact pl.elim
  | exc C => exact pl.elim
  | exd C fs => exact pl.elim
  | ow o => exact pl.elim
  | fw o => exact pl.elim
  | fo C fs ds => exact pl.elim
  | lst ds => exact pl.elim
  | dic ks ds => exact pl.elim
  | pt ds => exact pl.elim
  | int i =>
    walk_at "go"
    refine ⟨[], rfl, congrArg D.bl ?_⟩
    unfold G_MOST_NUMBER
    by_cases q : -1000000000000000000 < i ∧ i < 1000000000000000000
    · rw [show isW (.int i) = true from decide_eq_true q]
      refine decide_eq_true ?_
      split <;> omega
    · rw [show isW (.int i) = false from decide_eq_false q]
      refine decide_eq_false ?_
      split <;> omega
  | non =>
    walk_at "go"
    exact ⟨[], rfl, rfl⟩
  | bl b =>
    walk_at "go"
    exact ⟨[], rfl, rfl⟩
  | str x =>
    walk_at "go"
    exact ⟨[], rfl, rfl⟩
  | tup ds =>
    have im : Imm (.tup ds) := pl.imm
    walk_at "go"
    exact ⟨[], rfl, rfl⟩
  | fz ds =>
    walk_at "go"
    exact ⟨[], rfl, rfl⟩
  | fd ks ds =>
    walk_at "go"
    exact ⟨[], rfl, rfl⟩
theorem cal_is_number (Z : Fz K mg) : Cal P w K mg base 2 "is_number" (toSp K 0 ct_is_number) := by
  refine cal_of Z.d_is_number sc_is_number (fun a ds h => by rw [h.1]; rfl) (by decide) ?_
  intro f cdv A outer s H E hr (a : D × Int ) ds hp X
  have hNd : X.N.Nodup := sc_is_number.nd
  haveI iPrF : PrF X.prog fileL := (inferInstance : PrF P fileL)
  have hN0 : X.N[0]? = some ("value" : Str) := rfl
  have hN1 : X.N[1]? = some ("low" : Str) := rfl
  have hR : Room 1 X.A := hr
  have hu64 : X.A.units + 64 < cLine := by have := hR.un; omega
  have hu1 : X.A.units + 1 < cLine := by have := hR.un; omega
  have c_is_whole : Cal X.prog X.w X.K X.mg X.base 1 "is_whole" (toSp X.K 0 ct_is_whole) := cal_is_whole Z
  obtain ⟨hds, hp⟩ := hp
  subst hds
  show WSs X [] (_ :: _) [ some a.1, some (D.int a.2)] _
  obtain ⟨d, l⟩ := a
  obtain ⟨nn, pl⟩ := hp
  dsimp only at pl ⊢
  have im : Imm d := pl.imm
  walk_at "go"
  refine ⟨d, ⟨rfl, nn, pl⟩, fun r hr => ?_⟩
  have hr : r = .bl (isW d) := hr
  subst hr
  cases d with
  | int i =>
    cases q : isW (.int i) with
    | true =>
      walk_at "go"
      exact ⟨[], rfl, congrArg D.bl (by show _ = (isW (.int i) && decide (l ≤ i)); rw [q]; rfl)⟩
    | false =>
      walk_at "go"
      exact ⟨[], rfl, congrArg D.bl (by show _ = (isW (.int i) && decide (l ≤ i)); rw [q]; rfl)⟩
  | _ =>
    walk_at "go"
    exact ⟨[], rfl, rfl⟩
end
end
section
def cta_Labels__need : Ct := ⟨Lb × Nat, fun a ds => ds = [labF a.1, .int a.2] ∧ LbB a.1 ∧ a.2 < a.1.line.length, fun a d _ => d = .non⟩
def cta_Labels_label : Ct := ⟨Lb × Nat, fun a ds => ds = [labF a.1, .int a.2] ∧ LbB a.1 ∧ a.2 < a.1.line.length, fun a d _ => d = .int (a.1.at a.2 : Nat)⟩
def cta_Labels_row : Ct := ⟨Lb, fun s ds => ds = [labF s] ∧ LbB s, fun s d _ => d = .lst (iN s.line)⟩
def cta_Labels_moved : Ct := ⟨Lb, fun s ds => ds = [labF s] ∧ LbB s, fun s d _ => d = .int s.tot⟩
def cta_Labels__end : Ct := ⟨Lb × Nat, fun a ds => ds = [labF a.1, .int a.2] ∧ LbB a.1 ∧ a.2 < a.1.line.length, fun a d _ => d = .int (a.1.endOf a.2 : Nat)⟩
section
variable {P : Program} {w : World} {K : PySem.W.Frag} {mg : Str → Option Value} {base : Heap} [PrF P fileL]
theorem cala_Labels__need (Z : Fz K mg) : CalM P w K mg base 3 (LamT.ob "Labels") "_need" (toSp K 0 cta_Labels__need) := by
  refine calm_of Z.d_Labels__need Z.k_Labels.cls sc_Labels__need (fun a ds h => by rw [h.1]; rfl) (by decide) ?_
  intro f cdv A outer s H E hr (a : Lb × Nat ) ds hp X
  have ob_Labels : Ob X.K (LamT.ob "Labels") ["bits", "line", "marks", "total"] := Z.k_Labels
  have hv2 : ¬ Vis X.env.scope ("self.bits" : Str) := (notvis (by decide +kernel) : ¬ Vis (defScope s_Labels__need) ("self.bits" : Str))
  have hv3 : ¬ Vis X.env.scope ("self.line" : Str) := (notvis (by decide +kernel) : ¬ Vis (defScope s_Labels__need) ("self.line" : Str))
  have hv4 : ¬ Vis X.env.scope ("self.marks" : Str) := (notvis (by decide +kernel) : ¬ Vis (defScope s_Labels__need) ("self.marks" : Str))
  have hv5 : ¬ Vis X.env.scope ("self.total" : Str) := (notvis (by decide +kernel) : ¬ Vis (defScope s_Labels__need) ("self.total" : Str))
  have hNd : X.N.Nodup := sc_Labels__need.nd
  haveI iPrF : PrF X.prog fileL := (inferInstance : PrF P fileL)
  have hN0 : X.N[0]? = some ("self" : Str) := rfl
  have hN1 : X.N[1]? = some ("item" : Str) := rfl
  have hN2 : X.N[2]? = some ("self.bits" : Str) := rfl
  have hN3 : X.N[3]? = some ("self.line" : Str) := rfl
  have hN4 : X.N[4]? = some ("self.marks" : Str) := rfl
  have hN5 : X.N[5]? = some ("self.total" : Str) := rfl
  have hR : Room 2 X.A := hr
  have hu64 : X.A.units + 64 < cLine := by have := hR.un; omega
  have hu1 : X.A.units + 1 < cLine := by have := hR.un; omega
  have c_is_number : Cal X.prog X.w X.K X.mg X.base 2 "is_number" (toSp X.K 0 ct_is_number) := cal_is_number Z
  have m_len : X.mg "len" = none := Z.b_len
  obtain ⟨hds, hp⟩ := hp
  subst hds
  show WSs X [] (_ :: _) [ some (labF a.1), some (D.int a.2), none, none, none, none] _
  obtain ⟨s, v⟩ := a
  obtain ⟨g, hv⟩ := hp
  dsimp only at g hv ⊢
  have gl := g.ll
  have imp : Imms (iN s.line) := imms_iN
  walk_at "go"
  refine ⟨(.int (v : Int), 0), ⟨rfl, ⟨1, trivial⟩⟩, fun r hr => ?_⟩
  have hr : r = .bl (isN (.int (v : Int)) 0) := hr
  rw [isN_in (by omega) (by omega)] at hr
  subst hr
  walk_at "go"
  refine ⟨fun ht => ?_, fun _ => ?_⟩
  · rw [iN_len] at ht
    have := of_decide_eq_true ht
    omega
  walk_at "go"
  exact ⟨[], rfl, rfl⟩
theorem cala_Labels_label (Z : Fz K mg) : CalM P w K mg base 4 (LamT.ob "Labels") "label" (toSp K 0 cta_Labels_label) := by
  refine calm_of Z.d_Labels_label Z.k_Labels.cls sc_Labels_label (fun a ds h => by rw [h.1]; rfl) (by decide) ?_
  intro f cdv A outer s H E hr (a : Lb × Nat ) ds hp X
  have ob_Labels : Ob X.K (LamT.ob "Labels") ["bits", "line", "marks", "total"] := Z.k_Labels
  have hv2 : ¬ Vis X.env.scope ("self.bits" : Str) := (notvis (by decide +kernel) : ¬ Vis (defScope s_Labels_label) ("self.bits" : Str))
  have hv3 : ¬ Vis X.env.scope ("self.line" : Str) := (notvis (by decide +kernel) : ¬ Vis (defScope s_Labels_label) ("self.line" : Str))
  have hv4 : ¬ Vis X.env.scope ("self.marks" : Str) := (notvis (by decide +kernel) : ¬ Vis (defScope s_Labels_label) ("self.marks" : Str))
  have hv5 : ¬ Vis X.env.scope ("self.total" : Str) := (notvis (by decide +kernel) : ¬ Vis (defScope s_Labels_label) ("self.total" : Str))
  have hNd : X.N.Nodup := sc_Labels_label.nd
  haveI iPrF : PrF X.prog fileL := (inferInstance : PrF P fileL)
  have hN0 : X.N[0]? = some ("self" : Str) := rfl
  have hN1 : X.N[1]? = some ("item" : Str) := rfl
  have hN2 : X.N[2]? = some ("self.bits" : Str) := rfl
  have hN3 : X.N[3]? = some ("self.line" : Str) := rfl
  have hN4 : X.N[4]? = some ("self.marks" : Str) := rfl
  have hN5 : X.N[5]? = some ("self.total" : Str) := rfl
  have hR : Room 3 X.A := hr
  have hu64 : X.A.units + 64 < cLine := by have := hR.un; omega
  have hu1 : X.A.units + 1 < cLine := by have := hR.un; omega
  have c_Labels__need : CalM X.prog X.w X.K X.mg X.base 3 (LamT.ob "Labels") "_need" (toSp X.K 0 cta_Labels__need) := cala_Labels__need Z
  obtain ⟨hds, hp⟩ := hp
  subst hds
  show WSs X [] (_ :: _) [ some (labF a.1), some (D.int a.2), none, none, none, none] _
  obtain ⟨s, v⟩ := a
  obtain ⟨g, hv⟩ := hp
  dsimp only at g hv ⊢
  have gl := g.ll
  have imm : Imms (iN s.ms) := imms_iN
  have em := g.mk_at hv
  walk_at "go"
  refine ⟨(s, v), ⟨rfl, g, hv⟩, fun r hr => ?_⟩
  have hr : r = .non := hr
  subst hr
  walk_at "go"
  exact ⟨[], rfl, rfl⟩
theorem cala_Labels_row (Z : Fz K mg) : CalM P w K mg base 1 (LamT.ob "Labels") "row" (toSp K 0 cta_Labels_row) := by
  refine calm_of Z.d_Labels_row Z.k_Labels.cls sc_Labels_row (fun a ds h => by rw [h.1]; rfl) (by decide) ?_
  intro f cdv A outer s H E hr (a : Lb ) ds hp X
  have ob_Labels : Ob X.K (LamT.ob "Labels") ["bits", "line", "marks", "total"] := Z.k_Labels
  have hv1 : ¬ Vis X.env.scope ("self.bits" : Str) := (notvis (by decide +kernel) : ¬ Vis (defScope s_Labels_row) ("self.bits" : Str))
  have hv2 : ¬ Vis X.env.scope ("self.line" : Str) := (notvis (by decide +kernel) : ¬ Vis (defScope s_Labels_row) ("self.line" : Str))
  have hv3 : ¬ Vis X.env.scope ("self.marks" : Str) := (notvis (by decide +kernel) : ¬ Vis (defScope s_Labels_row) ("self.marks" : Str))
  have hv4 : ¬ Vis X.env.scope ("self.total" : Str) := (notvis (by decide +kernel) : ¬ Vis (defScope s_Labels_row) ("self.total" : Str))
  have hNd : X.N.Nodup := sc_Labels_row.nd
  haveI iPrF : PrF X.prog fileL := (inferInstance : PrF P fileL)
  have hN0 : X.N[0]? = some ("self" : Str) := rfl
  have hN1 : X.N[1]? = some ("self.bits" : Str) := rfl
  have hN2 : X.N[2]? = some ("self.line" : Str) := rfl
  have hN3 : X.N[3]? = some ("self.marks" : Str) := rfl
  have hN4 : X.N[4]? = some ("self.total" : Str) := rfl
  have hR : Room 0 X.A := hr
  have hu64 : X.A.units + 64 < cLine := by have := hR.un; omega
  have hu1 : X.A.units + 1 < cLine := by have := hR.un; omega
  have m_list : X.mg "list" = none := Z.b_list
  obtain ⟨hds, hp⟩ := hp
  subst hds
  show WSs X [] (_ :: _) [ some (labF a), none, none, none, none] _
  have imp : Imms (iN a.line) := imms_iN
  walk_at "go"
  exact ⟨[], rfl, rfl⟩
theorem cala_Labels_moved (Z : Fz K mg) : CalM P w K mg base 1 (LamT.ob "Labels") "moved" (toSp K 0 cta_Labels_moved) := by
  refine calm_of Z.d_Labels_moved Z.k_Labels.cls sc_Labels_moved (fun a ds h => by rw [h.1]; rfl) (by decide) ?_
  intro f cdv A outer s H E hr (a : Lb ) ds hp X
  have ob_Labels : Ob X.K (LamT.ob "Labels") ["bits", "line", "marks", "total"] := Z.k_Labels
  have hv1 : ¬ Vis X.env.scope ("self.bits" : Str) := (notvis (by decide +kernel) : ¬ Vis (defScope s_Labels_moved) ("self.bits" : Str))
  have hv2 : ¬ Vis X.env.scope ("self.line" : Str) := (notvis (by decide +kernel) : ¬ Vis (defScope s_Labels_moved) ("self.line" : Str))
  have hv3 : ¬ Vis X.env.scope ("self.marks" : Str) := (notvis (by decide +kernel) : ¬ Vis (defScope s_Labels_moved) ("self.marks" : Str))
  have hv4 : ¬ Vis X.env.scope ("self.total" : Str) := (notvis (by decide +kernel) : ¬ Vis (defScope s_Labels_moved) ("self.total" : Str))
  have hNd : X.N.Nodup := sc_Labels_moved.nd
  haveI iPrF : PrF X.prog fileL := (inferInstance : PrF P fileL)
  have hN0 : X.N[0]? = some ("self" : Str) := rfl
  have hN1 : X.N[1]? = some ("self.bits" : Str) := rfl
  have hN2 : X.N[2]? = some ("self.line" : Str) := rfl
  have hN3 : X.N[3]? = some ("self.marks" : Str) := rfl
  have hN4 : X.N[4]? = some ("self.total" : Str) := rfl
  have hR : Room 0 X.A := hr
  have hu64 : X.A.units + 64 < cLine := by have := hR.un; omega
  have hu1 : X.A.units + 1 < cLine := by have := hR.un; omega
  obtain ⟨hds, hp⟩ := hp
  subst hds
  show WSs X [] (_ :: _) [ some (labF a), none, none, none, none] _
  walk_at "go"
  exact ⟨[], rfl, rfl⟩
theorem cala_Labels__end (Z : Fz K mg) : CalM P w K mg base 1 (LamT.ob "Labels") "_end" (toSp K 0 cta_Labels__end) := by
  refine calm_of Z.d_Labels__end Z.k_Labels.cls sc_Labels__end (fun a ds h => by rw [h.1]; rfl) (by decide) ?_
  intro f cdv A outer s H E hr (a : Lb × Nat ) ds hp X
  have ob_Labels : Ob X.K (LamT.ob "Labels") ["bits", "line", "marks", "total"] := Z.k_Labels
  have hv2 : ¬ Vis X.env.scope ("self.bits" : Str) := (notvis (by decide +kernel) : ¬ Vis (defScope s_Labels__end) ("self.bits" : Str))
  have hv3 : ¬ Vis X.env.scope ("self.line" : Str) := (notvis (by decide +kernel) : ¬ Vis (defScope s_Labels__end) ("self.line" : Str))
  have hv4 : ¬ Vis X.env.scope ("self.marks" : Str) := (notvis (by decide +kernel) : ¬ Vis (defScope s_Labels__end) ("self.marks" : Str))
  have hv5 : ¬ Vis X.env.scope ("self.total" : Str) := (notvis (by decide +kernel) : ¬ Vis (defScope s_Labels__end) ("self.total" : Str))
  have hNd : X.N.Nodup := sc_Labels__end.nd
  haveI iPrF : PrF X.prog fileL := (inferInstance : PrF P fileL)
  have hN0 : X.N[0]? = some ("self" : Str) := rfl
  have hN1 : X.N[1]? = some ("place" : Str) := rfl
  have hN2 : X.N[2]? = some ("self.bits" : Str) := rfl
  have hN3 : X.N[3]? = some ("self.line" : Str) := rfl
  have hN4 : X.N[4]? = some ("self.marks" : Str) := rfl
  have hN5 : X.N[5]? = some ("self.total" : Str) := rfl
  have hR : Room 0 X.A := hr
  have hu64 : X.A.units + 64 < cLine := by have := hR.un; omega
  have hu1 : X.A.units + 1 < cLine := by have := hR.un; omega
  have m_len : X.mg "len" = none := Z.b_len
  obtain ⟨hds, hp⟩ := hp
  subst hds
  show WSs X [] (_ :: _) [ some (labF a.1), some (D.int a.2), none, none, none, none] _
  obtain ⟨s, p⟩ := a
  obtain ⟨g, hp⟩ := hp
  dsimp only at g hp ⊢
  have gl := g.ll
  have imp : Imms (iN s.line) := imms_iN
  have imm : Imms (iN s.ms) := imms_iN
  walk_at "go"
  refine ⟨fun ht => ?_, fun hf => ?_⟩
  · rw [iN_len] at ht
    have ht := of_decide_eq_true ht
    obtain ⟨j, ej, hj, aj⟩ := g.line_at (p := p + 1) (by omega)
    have aj : atI (iN s.line) ((p : Int) + 1) = _ := aj
    have em := g.mk_at hj
    walk_at "go"
    refine ⟨[], rfl, congrArg D.int ?_⟩
    show ((s.at j : Nat) : Int) = ((s.endOf p : Nat) : Int)
    unfold Lb.endOf
    rw [ej]
  · rw [iN_len] at hf
    have hf := of_decide_eq_false hf
    walk_at "go"
    refine ⟨⟨by omega, by have := g.b2; omega, by decide⟩, ?_⟩
    walk_at "go"
    refine ⟨[], rfl, congrArg D.int ?_⟩
    show _ = ((s.endOf p : Nat) : Int)
    unfold Lb.endOf
    rw [List.getElem?_eq_none (by omega)]
    simp
end
end
section
/-- a row whose items all have marks -/
structure LbW (s : Lb) : Prop where
  mem : ∀ i ∈ s.line, i < s.ms.length
  ll : s.line.length < 1001
theorem LbB.w {s : Lb} (g : LbB s) : LbW s := ⟨fun i hi => by have := (g.mem i).mp hi; have := g.len; omega, by have := g.ll; omega⟩
theorem LbW.mk_at {s : Lb} {i : Nat} (h : i < s.ms.length) : atI (iN s.ms) (i : Int) = some (.int (s.at i)) := by
  refine iN_at ?_
  unfold Lb.at
  rw [List.getD_eq_getElem?_getD, List.getElem?_eq_getElem h]
  rfl
def cta_Labels__within : Ct := ⟨Lb × Nat × Nat, fun a ds => ds = [labF a.1, .int a.2.1, .int a.2.2] ∧ LbW a.1 ∧ a.2.1 ≤ 60, fun a d _ => d = .lst (iN (a.1.inS a.2.1 a.2.2))⟩
section
variable {P : Program} {w : World} {K : PySem.W.Frag} {mg : Str → Option Value} {base : Heap} [PrF P fileL]
theorem iN_fm {G : Nat → Bool} : ∀ {xs : List Nat}, xs.filterMap (fun c => if G c then some (D.int ((c : Nat) : Int)) else none) = iN (xs.filter G)
  | [] => rfl
  | x :: xs => by
    rw [List.filterMap_cons, iN_fm (xs := xs)]
    by_cases q : G x = true
    · rw [List.filter_cons_of_pos q, if_pos q]
      rfl
    · rw [List.filter_cons_of_neg q, if_neg q]
theorem cala_Labels__within (Z : Fz K mg) : CalM P w K mg base 1 (LamT.ob "Labels") "_within" (toSp K 0 cta_Labels__within) := by
  refine calm_of Z.d_Labels__within Z.k_Labels.cls sc_Labels__within (fun a ds h => by rw [h.1]; rfl) (by decide) ?_
  intro f cdv A outer s H E hr (a : Lb × Nat × Nat ) ds hp X
  have ob_Labels : Ob X.K (LamT.ob "Labels") ["bits", "line", "marks", "total"] := Z.k_Labels
  have hv5 : ¬ Vis X.env.scope ("self.bits" : Str) := (notvis (by decide +kernel) : ¬ Vis (defScope s_Labels__within) ("self.bits" : Str))
  have hv6 : ¬ Vis X.env.scope ("self.line" : Str) := (notvis (by decide +kernel) : ¬ Vis (defScope s_Labels__within) ("self.line" : Str))
  have hv7 : ¬ Vis X.env.scope ("self.marks" : Str) := (notvis (by decide +kernel) : ¬ Vis (defScope s_Labels__within) ("self.marks" : Str))
  have hv8 : ¬ Vis X.env.scope ("self.total" : Str) := (notvis (by decide +kernel) : ¬ Vis (defScope s_Labels__within) ("self.total" : Str))
  have hNd : X.N.Nodup := sc_Labels__within.nd
  haveI iPrF : PrF X.prog fileL := (inferInstance : PrF P fileL)
  have hN0 : X.N[0]? = some ("self" : Str) := rfl
  have hN1 : X.N[1]? = some ("level" : Str) := rfl
  have hN2 : X.N[2]? = some ("first" : Str) := rfl
  have hN3 : X.N[3]? = some ("last" : Str) := rfl
  have hN4 : X.N[4]? = some ("item" : Str) := rfl
  have hN5 : X.N[5]? = some ("self.bits" : Str) := rfl
  have hN6 : X.N[6]? = some ("self.line" : Str) := rfl
  have hN7 : X.N[7]? = some ("self.marks" : Str) := rfl
  have hN8 : X.N[8]? = some ("self.total" : Str) := rfl
  have hR : Room 0 X.A := hr
  have hu64 : X.A.units + 64 < cLine := by have := hR.un; omega
  have hu1 : X.A.units + 1 < cLine := by have := hR.un; omega
  obtain ⟨hds, hp⟩ := hp
  subst hds
  show WSs X [] (_ :: _) [ some (labF a.1), some (D.int a.2.1), some (D.int a.2.2), none, none, none, none, none, none] _
  obtain ⟨lb, l, f⟩ := a
  obtain ⟨g, hl⟩ := hp
  dsimp only at g hl ⊢
  have gl := g.ll
  have imp : Imms (iN lb.line) := imms_iN
  have imm : Imms (iN lb.ms) := imms_iN
  have cp : CPow 1 (l : Int) := ⟨by omega, by omega, by decide⟩
  have e2 : ((1 : Int) * 2 ^ (l : Int).toNat) = ((2 ^ l : Nat) : Int) := by simp
  walk_at "go"
  refine' wo_lcX (own := [("item", 4)]) rfl hNd ?ok ?hg ?_ ?hs
  case ok => exact (show BlkOk ["self", "level", "first", "last", "item", "self.bits", "self.line", "self.marks", "self.total"] (defScope s_Labels__within) _ [("item", 4)] from ⟨rfl, by decide +kernel, by decide +kernel, by decide +kernel, by decide +kernel⟩)
  case hs => exact fun _ => rfl
  case hg => exact blk_name hNd hN4 rfl
  refine wi_lst ?_
  walk_at "go"
  rw [iN_len]
  refine ⟨Nat, lb.line, fun n : Nat => D.int (n : Int), fun c => if inP lb.at l f c then some (D.int (c : Int)) else none, rfl, by omega, fun j h => iN_src h, (fun p h => nomatch h), ?_, ?_⟩
  · intro c hc
    have em := LbW.mk_at (g.mem c hc)
    refine ⟨_, tgb_name (by decide) (Nat.le_of_ble_eq_true rfl), fun s H C cl fp => ?_⟩
    try dsimp only [List.set]
    refine wif_one ?_
    walk_at "go"
    refine ⟨fun h1 => ?_, fun h1 => ?_⟩
    · have h1 := of_decide_eq_true h1
      walk_at "go"
      refine ⟨fun ht s H C cl fp => ?_, fun hf => ⟨?_, rfl⟩⟩
      · rw [e2] at ht
        have ht := of_decide_eq_true ht
        walk_at "go"
        refine ⟨if_pos ?_, rfl⟩
        unfold inP
        rw [decide_eq_true (by omega), decide_eq_true (by omega)]
        rfl
      · rw [e2] at hf
        have hf := of_decide_eq_false hf
        refine if_neg ?_
        unfold inP
        rw [decide_eq_true (by omega), decide_eq_false (by omega)]
        decide
    · have h1 := of_decide_eq_false h1
      walk_at "go"
      refine ⟨if_neg ?_, rfl⟩
      unfold inP
      rw [decide_eq_false (by omega)]
      exact fun z => nomatch z
  · rw [iN_fm]
    exact ⟨_, rfl, [], rfl, rfl⟩
end
end
section
def ct_most_by : Ct := ⟨Nat, fun l ds => ds = [.int l] ∧ l ≤ 60, fun l d _ => d = .int (mostBy l : Nat)⟩
def cta_Labels__level : Ct := ⟨Lb × Nat, fun a ds => ds = [labF a.1, .int a.2] ∧ LbB a.1 ∧ a.2 < 2 ^ a.1.b, fun a d _ => d = match a.1.levelOf a.2 with | some l => .int l | none => .non⟩
section
variable {P : Program} {w : World} {K : PySem.W.Frag} {mg : Str → Option Value} {base : Heap} [PrF P fileL]
theorem pow_le60 {a l : Nat} (h : l ≤ 60) (ha : 0 < a) : a ^ l ≤ a ^ 60 := Nat.pow_le_pow_right ha h
theorem cal_most_by (Z : Fz K mg) : Cal P w K mg base 1 "most_by" (toSp K 0 ct_most_by) := by
  refine cal_of Z.d_most_by sc_most_by (fun a ds h => by rw [h.1]; rfl) (by decide) ?_
  intro f cdv A outer s H E hr (a : Nat ) ds hp X
  have hNd : X.N.Nodup := sc_most_by.nd
  haveI iPrF : PrF X.prog fileL := (inferInstance : PrF P fileL)
  have hN0 : X.N[0]? = some ("level" : Str) := rfl
  have hN1 : X.N[1]? = some ("over" : Str) := rfl
  have hN2 : X.N[2]? = some ("under" : Str) := rfl
  have hN3 : X.N[3]? = some ("turn" : Str) := rfl
  have hR : Room 0 X.A := hr
  have hu64 : X.A.units + 64 < cLine := by have := hR.un; omega
  have hu1 : X.A.units + 1 < cLine := by have := hR.un; omega
  have m_range : X.mg "range" = none := Z.b_range
  obtain ⟨hds, hp⟩ := hp
  subst hds
  show WSs X [] (_ :: _) [ some (D.int a), none, none, none] _
  walk_at "go"
  refine ws_for PassesOwn.never rfl ?_
  refine wi_range1 (by exact rfl) m_range ?_ (by rfl) (by rfl)
  walk_at "go"
  rw [Int.toNat_natCast]
  refine ⟨fun n E' => ∃ o, E' = [some (.int (a : Int)), some (.int ((4 ^ n : Nat) : Int)), some (.int ((3 ^ n : Nat) : Int)), o], ⟨none, rfl⟩, (fun _ _ _ _ p h => nomatch h), ?_, ?_⟩
  · rintro j E' hj ⟨o, rfl⟩
    walk_at "go"
    refine ⟨some (.int (0 + (j : Int))), ?_⟩
    rw [Nat.pow_succ, Nat.pow_succ]
    push_cast
    rw [Int.mul_comm 4, Int.mul_comm 3]
  · rintro E' ⟨o, rfl⟩
    have h4 := pow_le60 (a := 4) hp (by decide)
    have h3 := pow_le60 (a := 3) hp (by decide)
    have h3' : 0 < 3 ^ a := Nat.pow_pos (by decide)
    walk_at "go"
    show CDivW _ _ ∧ _
    refine ⟨?_, ?_⟩
    · refine ⟨by omega, ?_⟩
      rw [Int.natAbs_natCast]
      have := (Nat.log2_lt (n := 3 ^ a) (k := 96) (by omega)).mpr (Nat.lt_of_le_of_lt h3 (by decide))
      omega
    · refine ⟨_, rfl, [], rfl, congrArg D.int ?_⟩
      show _ = ((mostBy a : Nat) : Int)
      unfold mostBy
      exact (Int.natCast_ediv _ _).symm
theorem cala_Labels__level (Z : Fz K mg) : CalM P w K mg base 2 (LamT.ob "Labels") "_level" (toSp K 0 cta_Labels__level) := by
  refine calm_of Z.d_Labels__level Z.k_Labels.cls sc_Labels__level (fun a ds h => by rw [h.1]; rfl) (by decide) ?_
  intro f cdv A outer s H E hr (a : Lb × Nat ) ds hp X
  have ob_Labels : Ob X.K (LamT.ob "Labels") ["bits", "line", "marks", "total"] := Z.k_Labels
  have hv3 : ¬ Vis X.env.scope ("self.bits" : Str) := (notvis (by decide +kernel) : ¬ Vis (defScope s_Labels__level) ("self.bits" : Str))
  have hv4 : ¬ Vis X.env.scope ("self.line" : Str) := (notvis (by decide +kernel) : ¬ Vis (defScope s_Labels__level) ("self.line" : Str))
  have hv5 : ¬ Vis X.env.scope ("self.marks" : Str) := (notvis (by decide +kernel) : ¬ Vis (defScope s_Labels__level) ("self.marks" : Str))
  have hv6 : ¬ Vis X.env.scope ("self.total" : Str) := (notvis (by decide +kernel) : ¬ Vis (defScope s_Labels__level) ("self.total" : Str))
  have hNd : X.N.Nodup := sc_Labels__level.nd
  haveI iPrF : PrF X.prog fileL := (inferInstance : PrF P fileL)
  have hN0 : X.N[0]? = some ("self" : Str) := rfl
  have hN1 : X.N[1]? = some ("mark" : Str) := rfl
  have hN2 : X.N[2]? = some ("level" : Str) := rfl
  have hN3 : X.N[3]? = some ("self.bits" : Str) := rfl
  have hN4 : X.N[4]? = some ("self.line" : Str) := rfl
  have hN5 : X.N[5]? = some ("self.marks" : Str) := rfl
  have hN6 : X.N[6]? = some ("self.total" : Str) := rfl
  have hR : Room 1 X.A := hr
  have hu64 : X.A.units + 64 < cLine := by have := hR.un; omega
  have hu1 : X.A.units + 1 < cLine := by have := hR.un; omega
  have m_range : X.mg "range" = none := Z.b_range
  have m_len : X.mg "len" = none := Z.b_len
  have c_most_by : Cal X.prog X.w X.K X.mg X.base 1 "most_by" (toSp X.K 0 ct_most_by) := cal_most_by Z
  have c_Labels__within : CalM X.prog X.w X.K X.mg X.base 1 (LamT.ob "Labels") "_within" (toSp X.K 0 cta_Labels__within) := cala_Labels__within Z
  obtain ⟨hds, hp⟩ := hp
  subst hds
  show WSs X [] (_ :: _) [ some (labF a.1), some (D.int a.2), none, none, none, none, none] _
  obtain ⟨s, m⟩ := a
  obtain ⟨g, hm⟩ := hp
  dsimp only at g hm ⊢
  have gl := g.ll
  have g2 := g.b2
  have imp : Imms (iN s.line) := imms_iN
  have imm : Imms (iN s.ms) := imms_iN
  walk_at "go"
  refine ws_for PassesOwn.never rfl ?_
  refine wi_range1 (by exact rfl) m_range ?_ (by rfl) (by rfl)
  walk_at "go"
  have hb1 : ((s.b : Int) + 1).toNat = s.b + 1 := by omega
  rw [hb1]
  refine ⟨fun n E' => (∀ l, l < n → ¬ (s.inS l (loS l m)).length < mostBy l) ∧ ∃ o, E' = [some (labF s), some (.int (m : Int)), o, none, none, none, none], ⟨fun l h => absurd h (Nat.not_lt_zero l), none, rfl⟩, (fun _ _ _ _ p h => nomatch h), ?_, ?_⟩
  · rintro j E' hj ⟨hn, o, rfl⟩
    have e0 : 0 + (j : Int) = (j : Int) := by omega
    dsimp only
    rw [e0]
    have cp : CPow 1 (j : Int) := ⟨by omega, by omega, by decide⟩
    have e2 : ((1 : Int) * 2 ^ (j : Int).toNat) = ((2 ^ j : Nat) : Int) := by simp
    have p2 := Nat.two_pow_pos j
    have j60 : j ≤ 60 := by omega
    have el : (m : Int) - (m : Int) % ((2 ^ j : Nat) : Int) = ((loS j m : Nat) : Int) := by
      unfold loS
      have := Nat.mod_le m (2 ^ j)
      omega
    walk_at "go"
    rw [e2, el]
    refine ⟨(s, j, loS j m), ⟨rfl, g.w, j60⟩, fun r hr => ?_⟩
    have hr : r = .lst (iN (s.inS j (loS j m))) := hr
    subst hr
    refine ⟨_, rfl, ?_⟩
    rw [iN_len]
    walk_at "go"
    refine ⟨j, ⟨rfl, j60⟩, fun r hr => ?_⟩
    have hr : r = .int (mostBy j : Nat) := hr
    subst hr
    walk_at "go"
    refine ⟨fun ht => ?_, fun hf => ?_⟩
    · have ht := of_decide_eq_true ht
      walk_at "go"
      refine ⟨[], rfl, ?_⟩
      show D.int (j : Int) = match s.levelOf m with | some l => D.int l | none => D.non
      rw [show s.levelOf m = some j from List.find?_range_eq_some.mpr ⟨decide_eq_true (by omega), List.mem_range.mpr (by omega), fun i hi => by have := hn i hi; simpa using this⟩]
    · have hf := of_decide_eq_false hf
      walk_at "go"
      refine ⟨fun l hl => ?_, some (.int j), rfl⟩
      by_cases q : l = j
      · subst q
        omega
      · exact hn l (by omega)
  · rintro E' ⟨hn, o, rfl⟩
    walk_at "go"
    refine ⟨[], rfl, ?_⟩
    show D.non = match s.levelOf m with | some l => D.int l | none => D.non
    rw [show s.levelOf m = none from List.find?_eq_none.mpr fun l hl => by have := hn l (by have := List.mem_range.mp hl; omega); simpa using this]
end
end
section
def ct_need_bits : Ct := ⟨Nat, fun b ds => ds = [.int b] ∧ 1 ≤ b ∧ b ≤ 59, fun _ d _ => d = .non⟩
def lb0 (b : Nat) : Lb := ⟨b, [0], [0], 0⟩
def ct_Labels___init__ : Ct := ⟨Nat, fun b ds => ds = [.obj (LamT.ob "Labels") [] [], .int b] ∧ 1 ≤ b ∧ b ≤ 59, fun b d ds' => d = .non ∧ ds' = [labD (lb0 b)]⟩
section
variable {P : Program} {w : World} {K : PySem.W.Frag} {mg : Str → Option Value} {base : Heap} [PrF P fileL]
theorem cal_need_bits (Z : Fz K mg) : Cal P w K mg base 3 "need_bits" (toSp K 0 ct_need_bits) := by
  refine cal_of Z.d_need_bits sc_need_bits (fun a ds h => by rw [h.1]; rfl) (by decide) ?_
  intro f cdv A outer s H E hr (a : Nat ) ds hp X
  have hNd : X.N.Nodup := sc_need_bits.nd
  haveI iPrF : PrF X.prog fileL := (inferInstance : PrF P fileL)
  have hN0 : X.N[0]? = some ("bits" : Str) := rfl
  have hR : Room 2 X.A := hr
  have hu64 : X.A.units + 64 < cLine := by have := hR.un; omega
  have hu1 : X.A.units + 1 < cLine := by have := hR.un; omega
  obtain ⟨t_MOST_BITS, g_MOST_BITS⟩ : ∃ t, X.mg "MOST_BITS" = some (.int G_MOST_BITS t) := Z.g_MOST_BITS
  have c_is_number : Cal X.prog X.w X.K X.mg X.base 2 "is_number" (toSp X.K 0 ct_is_number) := cal_is_number Z
  obtain ⟨hds, hp⟩ := hp
  subst hds
  show WSs X [] (_ :: _) [ some (D.int a)] _
  obtain ⟨b1, b2⟩ := hp
  walk_at "go"
  refine ⟨(.int (a : Int), 1), ⟨rfl, ⟨1, trivial⟩⟩, fun r hr => ?_⟩
  have hr : r = .bl (isN (.int (a : Int)) 1) := hr
  rw [isN_in (by omega) (by omega)] at hr
  subst hr
  walk_at "go"
  refine ⟨fun ht => ?_, fun _ => ?_⟩
  · have := of_decide_eq_true ht
    unfold G_MOST_BITS at this
    omega
  walk_at "go"
  exact ⟨[], rfl, rfl⟩
theorem cal_Labels___init__ (Z : Fz K mg) : CalM P w K mg base 4 (LamT.ob "Labels") "__init__" (toSp K 1 ct_Labels___init__) := by
  refine calm_of Z.d_Labels___init__ Z.k_Labels.cls sc_Labels___init__ (fun a ds h => by rw [h.1]; rfl) (by decide) ?_
  intro f cdv A outer s H E hr (a : Nat ) ds hp X
  have ob_Labels : Ob X.K (LamT.ob "Labels") ["bits", "line", "marks", "total"] := Z.k_Labels
  have hv2 : ¬ Vis X.env.scope ("self.bits" : Str) := (notvis (by decide +kernel) : ¬ Vis (defScope s_Labels___init__) ("self.bits" : Str))
  have hv3 : ¬ Vis X.env.scope ("self.line" : Str) := (notvis (by decide +kernel) : ¬ Vis (defScope s_Labels___init__) ("self.line" : Str))
  have hv4 : ¬ Vis X.env.scope ("self.marks" : Str) := (notvis (by decide +kernel) : ¬ Vis (defScope s_Labels___init__) ("self.marks" : Str))
  have hv5 : ¬ Vis X.env.scope ("self.total" : Str) := (notvis (by decide +kernel) : ¬ Vis (defScope s_Labels___init__) ("self.total" : Str))
  have hNd : X.N.Nodup := sc_Labels___init__.nd
  haveI iPrF : PrF X.prog fileL := (inferInstance : PrF P fileL)
  have hN0 : X.N[0]? = some ("self" : Str) := rfl
  have hN1 : X.N[1]? = some ("bits" : Str) := rfl
  have hN2 : X.N[2]? = some ("self.bits" : Str) := rfl
  have hN3 : X.N[3]? = some ("self.line" : Str) := rfl
  have hN4 : X.N[4]? = some ("self.marks" : Str) := rfl
  have hN5 : X.N[5]? = some ("self.total" : Str) := rfl
  have hR : Room 3 X.A := hr
  have hu64 : X.A.units + 64 < cLine := by have := hR.un; omega
  have hu1 : X.A.units + 1 < cLine := by have := hR.un; omega
  have c_need_bits : Cal X.prog X.w X.K X.mg X.base 3 "need_bits" (toSp X.K 0 ct_need_bits) := cal_need_bits Z
  obtain ⟨hds, hp⟩ := hp
  subst hds
  show WSs X [0] (_ :: _) [ some (D.obj (LamT.ob "Labels") [] []), some (D.int a), none, none, none, none] _
  walk_at "go"
  refine ⟨a, ⟨rfl, hp⟩, fun r hr => ?_⟩
  have hr : r = .non := hr
  subst hr
  show WSs X _ (_ :: _) _ _
  refine wss_cons (ws_fnew ob_Labels hN0 ?_)
  walk_at "go"
  refine ⟨_, _, rfl, by decide, by decide, by decide, ?_⟩
  dsimp only [List.set, List.nil_append, List.cons_append]
  refine wss_cons (ws_fnew ob_Labels hN0 ?_)
  walk_at "go"
  refine ⟨_, _, rfl, by decide, by decide, by decide, ?_⟩
  dsimp only [List.set, List.nil_append, List.cons_append]
  refine wss_cons (ws_fnew ob_Labels hN0 ?_)
  walk_at "go"
  refine ⟨_, _, rfl, by decide, by decide, by decide, ?_⟩
  dsimp only [List.set, List.nil_append, List.cons_append]
  refine wss_cons (ws_fnew ob_Labels hN0 ?_)
  walk_at "go"
  refine ⟨_, _, rfl, by decide, by decide, by decide, ?_⟩
  dsimp only [List.set, List.nil_append, List.cons_append]
  walk_at "go"
  exact ⟨[labD (lb0 a)], rfl, rfl, rfl⟩
end
end
section
def layS (s : Lb) (l f : Nat) : Lb := { s with ms := layL f (2 ^ l) (s.inS l f).length (s.inS l f) 0 s.ms }
def mvS (s : Lb) (l f n : Nat) : Nat := movL f (2 ^ l) (s.inS l f).length n (s.inS l f) 0 s.ms
def ct_Labels__lay : Ct := ⟨Lb × Nat × Nat × Nat, fun a ds => ds = [labD a.1, .int a.2.1, .int a.2.2.1, .int a.2.2.2] ∧ LbW a.1 ∧ a.2.1 ≤ 60, fun a d ds' => d = .int (mvS a.1 a.2.1 a.2.2.1 a.2.2.2 : Nat) ∧ ds' = [labD (layS a.1 a.2.1 a.2.2.1)]⟩
section
variable {P : Program} {w : World} {K : PySem.W.Frag} {mg : Str → Option Value} {base : Heap} [PrF P fileL]
theorem noF_iN {xs : List Nat} : noF (.lst (iN xs)) = true := by
  show noFs _ = true
  exact noFs_map fun _ _ => rfl
theorem layL_app {f S n i : Nat} : ∀ {xs : List Nat} {p : Nat} {mk : List Nat}, layL f S n (xs ++ [i]) p mk = (layL f S n xs p mk).set i (f + (p + xs.length) * S / n)
  | [], _, _ => rfl
  | x :: xs, p, mk => by
    show layL f S n (xs ++ [i]) (p + 1) (mk.set x _) = (layL f S n xs (p + 1) (mk.set x _)).set i _
    rw [layL_app, List.length_cons, show p + 1 + xs.length = p + (xs.length + 1) by omega]
theorem movL_app {f S n new i : Nat} : ∀ {xs : List Nat} {p : Nat} {mk : List Nat}, movL f S n new (xs ++ [i]) p mk = movL f S n new xs p mk + (if i ≠ new ∧ (layL f S n xs p mk).getD i 0 ≠ f + (p + xs.length) * S / n then 1 else 0)
  | [], _, _ => Nat.add_comm _ _
  | x :: xs, p, mk => by
    show _ + movL f S n new (xs ++ [i]) (p + 1) (mk.set x _) = _ + movL f S n new xs (p + 1) (mk.set x _) + _
    rw [movL_app, List.length_cons, show p + 1 + xs.length = p + (xs.length + 1) by omega, Nat.add_assoc]
    rfl
theorem cal_Labels__lay (Z : Fz K mg) : CalM P w K mg base 2 (LamT.ob "Labels") "_lay" (toSp K 1 ct_Labels__lay) := by
  refine calm_of Z.d_Labels__lay Z.k_Labels.cls sc_Labels__lay (fun a ds h => by rw [h.1]; rfl) (by decide) ?_
  intro f cdv A outer s H E hr (a : Lb × Nat × Nat × Nat ) ds hp X
  have ob_Labels : Ob X.K (LamT.ob "Labels") ["bits", "line", "marks", "total"] := Z.k_Labels
  have hv9 : ¬ Vis X.env.scope ("self.bits" : Str) := (notvis (by decide +kernel) : ¬ Vis (defScope s_Labels__lay) ("self.bits" : Str))
  have hv10 : ¬ Vis X.env.scope ("self.line" : Str) := (notvis (by decide +kernel) : ¬ Vis (defScope s_Labels__lay) ("self.line" : Str))
  have hv11 : ¬ Vis X.env.scope ("self.marks" : Str) := (notvis (by decide +kernel) : ¬ Vis (defScope s_Labels__lay) ("self.marks" : Str))
  have hv12 : ¬ Vis X.env.scope ("self.total" : Str) := (notvis (by decide +kernel) : ¬ Vis (defScope s_Labels__lay) ("self.total" : Str))
  have hNd : X.N.Nodup := sc_Labels__lay.nd
  haveI iPrF : PrF X.prog fileL := (inferInstance : PrF P fileL)
  have hN0 : X.N[0]? = some ("self" : Str) := rfl
  have hN1 : X.N[1]? = some ("level" : Str) := rfl
  have hN2 : X.N[2]? = some ("first" : Str) := rfl
  have hN3 : X.N[3]? = some ("new" : Str) := rfl
  have hN4 : X.N[4]? = some ("inside" : Str) := rfl
  have hN5 : X.N[5]? = some ("moved" : Str) := rfl
  have hN6 : X.N[6]? = some ("place" : Str) := rfl
  have hN7 : X.N[7]? = some ("item" : Str) := rfl
  have hN8 : X.N[8]? = some ("mark" : Str) := rfl
  have hN9 : X.N[9]? = some ("self.bits" : Str) := rfl
  have hN10 : X.N[10]? = some ("self.line" : Str) := rfl
  have hN11 : X.N[11]? = some ("self.marks" : Str) := rfl
  have hN12 : X.N[12]? = some ("self.total" : Str) := rfl
  have hR : Room 1 X.A := hr
  have hu64 : X.A.units + 64 < cLine := by have := hR.un; omega
  have hu1 : X.A.units + 1 < cLine := by have := hR.un; omega
  have m_enumerate : X.mg "enumerate" = none := Z.b_enumerate
  have m_len : X.mg "len" = none := Z.b_len
  have c_Labels__within : CalM X.prog X.w X.K X.mg X.base 1 (LamT.ob "Labels") "_within" (toSp X.K 0 cta_Labels__within) := cala_Labels__within Z
  obtain ⟨hds, hp⟩ := hp
  subst hds
  show WSs X [0] (_ :: _) [ some (labD a.1), some (D.int a.2.1), some (D.int a.2.2.1), some (D.int a.2.2.2), none, none, none, none, none, none, none, none, none] _
  obtain ⟨s, l, f, new⟩ := a
  obtain ⟨g, hl⟩ := hp
  dsimp only at g hl ⊢
  have gl := g.ll
  have imp : Imms (iN s.line) := imms_iN
  have imm : Imms (iN s.ms) := imms_iN
  walk_at "go"
  refine wo_peek 0 rfl (by with_reducible exact canF_lab) (.no (.so (by first | exact trivial | assumption) (.so (by first | exact trivial | assumption) (.so (by first | exact trivial | assumption) (.no (.no (.no (.no (.no (.no (.no (.no (.no (.nil)))))))))))))) rfl ?_
  dsimp only [List.set]
  rw [frz_lab]
  walk_at "go"
  refine ⟨(s, l, f), ⟨rfl, g, hl⟩, fun r hr => ?_⟩
  have hr : r = .lst (iN (s.inS l f)) := hr
  subst hr
  refine ⟨_, rfl, noF_iN, ?_⟩
  walk_at "d"
  walk_at "d"
  walk_at "d"
  refine ⟨_, _, rfl, (by decide : 4 < 13), (by decide : 5 < 13), ?_⟩
  dsimp only [List.set]
  refine wss_opn 0 2 11 rfl rfl rfl hN11 hv11 (by decide) (by decide) fun a_2 => ?_
  dsimp only [List.set]
  refine wss_cons ?_
  refine ws_for PassesOwn.never rfl ?_
  refine' wi_enumL ?h1 ?h2 ?_ ?h4 ?h5
  case h1 => rfl
  case h2 => exact m_enumerate
  case h4 => rfl
  case h5 => rfl
  walk_at "go"
  rw [iN_len]
  generalize hins : s.inS l f = ins
  have hin : ∀ i ∈ ins, i < s.ms.length := fun i hi => g.mem i (List.mem_filter.mp (hins ▸ hi : i ∈ s.inS l f)).1
  refine ⟨imms_iN, ?_⟩
  refine ⟨fun j E' => ∃ o6 o7 o8, E' = [some (.obj (LamT.ob "Labels") ["bits", "line", "marks", "total"] [.int s.b, .lst (iN s.line), .op (.ref a_2), .int s.tot]), some (.int l), some (.int f), some (.int new), some (.lst (iN ins)), some (.int (movL f (2 ^ l) ins.length new (ins.take j) 0 s.ms : Nat)), o6, o7, o8, none, none, some (.ow a_2 (iN (layL f (2 ^ l) ins.length (ins.take j) 0 s.ms))), none], ⟨_, _, _, rfl⟩, ?_, ?_, ?_⟩
  · rintro j E' hj ⟨o6, o7, o8, rfl⟩ p hpw
    rw [List.mem_singleton.mp hpw]
    rfl
  · rintro j E' hj ⟨o6, o7, o8, rfl⟩
    obtain ⟨i, ei⟩ : ∃ i, ins[j]? = some i := ⟨_, List.getElem?_eq_getElem hj⟩
    have hi := hin i (List.mem_of_getElem? ei)
    have et : ins.take (j + 1) = ins.take j ++ [i] := take_next ei
    have lt : (ins.take j).length = j := by rw [List.length_take]; omega
    have e1 := layL_app (f := f) (S := 2 ^ l) (n := ins.length) (i := i) (xs := ins.take j) (p := 0) (mk := s.ms)
    have e2 := movL_app (f := f) (S := 2 ^ l) (n := ins.length) (new := new) (i := i) (xs := ins.take j) (p := 0) (mk := s.ms)
    rw [← et, lt, Nat.zero_add] at e1 e2
    have em := LbW.mk_at (s := { s with ms := layL f (2 ^ l) ins.length (ins.take j) 0 s.ms }) (i := i) (by show i < (layL _ _ _ _ _ _).length; rw [layL_len]; exact hi)
    have hlm : (layL f (2 ^ l) ins.length (ins.take j) 0 s.ms).length = s.ms.length := layL_len
    have cp : CPow 1 (l : Int) := ⟨by omega, by omega, by decide⟩
    generalize layL f (2 ^ l) ins.length (ins.take j) 0 s.ms = M at e1 e2 em hlm ⊢
    generalize movL f (2 ^ l) ins.length new (ins.take j) 0 s.ms = V at e2 ⊢
    show WG _ _ _ (.tup [.int (j : Int), (iN ins).getD j .non]) _ _
    rw [iN_src hj, show ins[j] = i from by rw [List.getElem?_eq_getElem hj] at ei; exact Option.some.inj ei]
    have imM : Imms (iN M) := imms_iN
    have j1000 : j < 1001 := by
      have := g.ll
      have h2 : ins.length ≤ s.line.length := by rw [← hins]; exact List.length_filter_le ..
      omega
    have n1 : ins.length < 1001 := by
      have := g.ll
      have h2 : ins.length ≤ s.line.length := by rw [← hins]; exact List.length_filter_le ..
      omega
    have ev : (f : Int) + (j : Int) * (1 * 2 ^ (l : Int).toNat) / (ins.length : Int) = ((f + j * 2 ^ l / ins.length : Nat) : Int) := by
      simp
    walk_at "go"
    show CDivW _ _ ∧ _
    rw [iN_len]
    refine ⟨⟨by omega, ?_⟩, ?_⟩
    · rw [Int.natAbs_natCast]
      have := (Nat.log2_lt (n := ins.length) (k := 10) (by omega)).mpr (by omega)
      omega
    refine ⟨_, _, _, rfl, rfl, .int, _, rfl, (by decide : 8 < 13), ?_⟩
    show WSs X _ (_ :: _) _ _
    dsimp only [List.set]
    rw [ev]
    generalize f + j * 2 ^ l / ins.length = mk at e1 e2 ⊢
    walk_at "go"
    have put : ∀ V' : Nat, V' = movL f (2 ^ l) ins.length new (ins.take (j + 1)) 0 s.ms → (some (D.int (V' : Int))) = some (.int ((movL f (2 ^ l) ins.length new (ins.take (j + 1)) 0 s.ms : Nat) : Int)) := fun V' h => by rw [h]
    have eset : (iN M).set i (.int (mk : Int)) = iN (layL f (2 ^ l) ins.length (ins.take (j + 1)) 0 s.ms) := by
      rw [e1]
      unfold iN
      rw [List.map_set, List.map_set]
    have hiM : i < (iN M).length := by rw [iN_len, hlm]; exact hi
    refine ⟨fun c1 => ?_, fun c1 => ?_⟩
    · have c1' : i ≠ new := by
        intro q
        subst q
        simp at c1
      walk_at "go"
      refine ⟨fun c2 => ?_, fun c2 => ?_⟩
      · have c2' : M.getD i 0 ≠ mk := by
          intro q
          have q : (((M.getD i 0 : Nat) : Int)) = (mk : Int) := by rw [q]
          have q2 : ((Lb.at { s with ms := M } i : Nat) : Int) = (mk : Int) := q
          rw [decide_eq_true q2] at c2
          exact nomatch c2
        rw [if_pos ⟨c1', c2'⟩] at e2
        walk_at "go"
        refine wg_lputF 11 rfl (wo_fldA (j := 2) 11 ob_Labels hN0 rfl rfl rfl rfl ⟨rfl, rfl⟩) trivial ?_
        walk_at "go"
        dsimp only [List.set]
        rw [eset]
        refine ⟨some (.int (j : Int)), some (.int (i : Int)), some (.int (mk : Int)), ?_⟩
        rw [e2]
        rfl
      · have c2' : ¬ (i ≠ new ∧ M.getD i 0 ≠ mk) := by
          intro q
          have q1 := q.2
          have q2 : ¬ ((Lb.at { s with ms := M } i : Nat) : Int) = (mk : Int) := fun z => q1 (Int.ofNat.inj z)
          rw [decide_eq_false q2] at c2
          exact nomatch c2
        rw [if_neg c2'] at e2
        walk_at "go"
        refine wg_lputF 11 rfl (wo_fldA (j := 2) 11 ob_Labels hN0 rfl rfl rfl rfl ⟨rfl, rfl⟩) trivial ?_
        walk_at "go"
        dsimp only [List.set]
        rw [eset]
        refine ⟨some (.int (j : Int)), some (.int (i : Int)), some (.int (mk : Int)), ?_⟩
        rw [e2]
        rfl
    · have c1' : ¬ (i ≠ new ∧ M.getD i 0 ≠ mk) := by
        intro q
        have := q.1
        simp at c1
        omega
      rw [if_neg c1'] at e2
      walk_at "go"
      refine wg_lputF 11 rfl (wo_fldA (j := 2) 11 ob_Labels hN0 rfl rfl rfl rfl ⟨rfl, rfl⟩) trivial ?_
      walk_at "go"
      dsimp only [List.set]
      rw [eset]
      refine ⟨some (.int (j : Int)), some (.int (i : Int)), some (.int (mk : Int)), ?_⟩
      rw [e2]
      rfl
  · rintro E' ⟨o6, o7, o8, rfl⟩
    rw [List.take_of_length_le (Nat.le_refl _)]
    walk_at "go"
    refine ⟨_, _, _, _, _, rfl, rfl, rfl, by decide, ?_⟩
    dsimp only [List.set]
    subst hins
    exact ⟨[labD (layS s l f)], rfl, rfl, rfl⟩
end
end
section
def ct_Labels_put : Ct := ⟨Lb × Nat × Lb, fun a ds => ds = [labD a.1, .int a.2.1] ∧ LbB a.1 ∧ a.2.1 < a.1.line.length ∧ a.1.put a.2.1 = some a.2.2, fun a d ds' => d = .int ((a.2.2.tot : Int) - a.1.tot) ∧ ds' = [labD a.2.2]⟩
section
variable {P : Program} {w : World} {K : PySem.W.Frag} {mg : Str → Option Value} {base : Heap} [PrF P fileL]
theorem idx_cast {i : Nat} : ∀ {xs : List Nat}, ((xs.map fun n : Nat => (n : Int)).idxOf (i : Int)) = xs.idxOf i
  | [] => rfl
  | x :: xs => by
    rw [List.map_cons, List.idxOf_cons, List.idxOf_cons, idx_cast (xs := xs)]
    congr 1
    by_cases q : x = i
    · subst q
      rw [beq_self_eq_true, beq_self_eq_true]
    · rw [beq_eq_false_iff_ne.mpr q, beq_eq_false_iff_ne.mpr (fun z => q (Int.ofNat.inj z) : (x : Int) ≠ (i : Int))]
theorem iN_ins {xs : List Nat} {p v : Nat} : (iN xs).take (p + 1) ++ [.int (v : Int)] ++ (iN xs).drop (p + 1) = iN (insI xs p v) := by
  unfold iN insI
  rw [List.map_append, List.map_append, List.map_cons, List.map_cons, List.map_take, List.map_take, List.map_drop, List.map_drop, List.append_assoc]
  rfl
theorem iN_app {xs : List Nat} {v : Nat} : iN xs ++ [.int (v : Int)] = iN (xs ++ [v]) := by
  unfold iN
  rw [List.map_append, List.map_append]
  rfl
theorem cal_Labels_put (Z : Fz K mg) : CalM P w K mg base 4 (LamT.ob "Labels") "put" (toSp K 1 ct_Labels_put) := by
  refine calm_of Z.d_Labels_put Z.k_Labels.cls sc_Labels_put (fun a ds h => by rw [h.1]; rfl) (by decide) ?_
  intro f cdv A outer s H E hr (a : Lb × Nat × Lb ) ds hp X
  have ob_Labels : Ob X.K (LamT.ob "Labels") ["bits", "line", "marks", "total"] := Z.k_Labels
  have hv8 : ¬ Vis X.env.scope ("self.bits" : Str) := (notvis (by decide +kernel) : ¬ Vis (defScope s_Labels_put) ("self.bits" : Str))
  have hv9 : ¬ Vis X.env.scope ("self.line" : Str) := (notvis (by decide +kernel) : ¬ Vis (defScope s_Labels_put) ("self.line" : Str))
  have hv10 : ¬ Vis X.env.scope ("self.marks" : Str) := (notvis (by decide +kernel) : ¬ Vis (defScope s_Labels_put) ("self.marks" : Str))
  have hv11 : ¬ Vis X.env.scope ("self.total" : Str) := (notvis (by decide +kernel) : ¬ Vis (defScope s_Labels_put) ("self.total" : Str))
  have hNd : X.N.Nodup := sc_Labels_put.nd
  haveI iPrF : PrF X.prog fileL := (inferInstance : PrF P fileL)
  have hN0 : X.N[0]? = some ("self" : Str) := rfl
  have hN1 : X.N[1]? = some ("item" : Str) := rfl
  have hN2 : X.N[2]? = some ("place" : Str) := rfl
  have hN3 : X.N[3]? = some ("mark" : Str) := rfl
  have hN4 : X.N[4]? = some ("new" : Str) := rfl
  have hN5 : X.N[5]? = some ("end" : Str) := rfl
  have hN6 : X.N[6]? = some ("level" : Str) := rfl
  have hN7 : X.N[7]? = some ("moved" : Str) := rfl
  have hN8 : X.N[8]? = some ("self.bits" : Str) := rfl
  have hN9 : X.N[9]? = some ("self.line" : Str) := rfl
  have hN10 : X.N[10]? = some ("self.marks" : Str) := rfl
  have hN11 : X.N[11]? = some ("self.total" : Str) := rfl
  have hR : Room 3 X.A := hr
  have hu64 : X.A.units + 64 < cLine := by have := hR.un; omega
  have hu1 : X.A.units + 1 < cLine := by have := hR.un; omega
  have m_len : X.mg "len" = none := Z.b_len
  have c_Labels__need : CalM X.prog X.w X.K X.mg X.base 3 (LamT.ob "Labels") "_need" (toSp X.K 0 cta_Labels__need) := cala_Labels__need Z
  have c_Labels__end : CalM X.prog X.w X.K X.mg X.base 1 (LamT.ob "Labels") "_end" (toSp X.K 0 cta_Labels__end) := cala_Labels__end Z
  have c_Labels__level : CalM X.prog X.w X.K X.mg X.base 2 (LamT.ob "Labels") "_level" (toSp X.K 0 cta_Labels__level) := cala_Labels__level Z
  have c_Labels__lay : CalM X.prog X.w X.K X.mg X.base 2 (LamT.ob "Labels") "_lay" (toSp X.K 1 ct_Labels__lay) := cal_Labels__lay Z
  obtain ⟨hds, hp⟩ := hp
  subst hds
  show WSs X [0] (_ :: _) [ some (labD a.1), some (D.int a.2.1), none, none, none, none, none, none, none, none, none, none] _
  obtain ⟨s, it, s'⟩ := a
  obtain ⟨g, hi, hput⟩ := hp
  dsimp only at g hi hput ⊢
  have gl := g.ll
  have imp : Imms (iN s.line) := imms_iN
  have imm : Imms (iN s.ms) := imms_iN
  walk_at "go"
  refine wo_peek 0 rfl (by with_reducible exact canF_lab) (.no (.so (by first | exact trivial | assumption) (.no (.no (.no (.no (.no (.no (.no (.no (.no (.no (.nil))))))))))))) rfl ?_
  dsimp only [List.set]
  rw [frz_lab]
  walk_at "go"
  refine ⟨(s, it), ⟨rfl, g, hi⟩, fun r hr => ?_⟩
  have hr : r = .non := hr
  subst hr
  refine ⟨_, rfl, rfl, ?_⟩
  walk_at "go"
  refine' ws_par3 rfl hNd hN2 hN3 hN4 (by decide) (by decide) (by decide) (by decide) (by decide) (by decide) rfl rfl rfl ?_ ?hw ?hs
  case hw => rfl
  case hs => rfl
  refine wa_cons ?_ rfl
  refine wo_peek 0 rfl (by with_reducible exact canF_lab) (.no (.so (by first | exact trivial | assumption) (.no (.no (.no (.no (.no (.no (.no (.no (.no (.no (.nil))))))))))))) rfl ?_
  dsimp only [List.set]
  rw [frz_lab]
  walk_at "go"
  refine ⟨List.mem_map.mpr ⟨it, (g.mem it).mpr hi, rfl⟩, ?_⟩
  rw [idx_cast]
  refine ⟨_, rfl, rfl, ?_⟩
  refine wa_cons ?_ rfl
  have em := g.mk_at hi
  refine wo_peek 0 rfl (by with_reducible exact canF_lab) (.no (.so (by first | exact trivial | assumption) (.no (.no (.no (.no (.no (.no (.no (.no (.no (.no (.nil))))))))))))) rfl ?_
  dsimp only [List.set]
  rw [frz_lab]
  walk_at "go"
  refine ⟨rfl, ?_⟩
  refine wa_cons ?_ rfl
  refine wo_peek 0 rfl (by with_reducible exact canF_lab) (.no (.so (by first | exact trivial | assumption) (.no (.no (.no (.no (.no (.no (.no (.no (.no (.no (.nil))))))))))))) rfl ?_
  dsimp only [List.set]
  rw [frz_lab]
  walk_at "go"
  refine ⟨rfl, ?_⟩
  refine wa_nil ⟨_, _, _, rfl, (by decide : 2 < 12), (by decide : 3 < 12), (by decide : 4 < 12), ?_⟩
  rw [iN_len]
  dsimp only [List.set]
  walk_at "go"
  have hp : s.line.idxOf it < s.line.length := List.idxOf_lt_length_of_mem ((g.mem it).mpr hi)
  refine wo_peek 0 rfl (by with_reducible exact canF_lab) (.no (.so (by first | exact trivial | assumption) (.so (by first | exact trivial | assumption) (.so (by first | exact trivial | assumption) (.so (by first | exact trivial | assumption) (.no (.no (.no (.no (.no (.no (.no (.nil))))))))))))) rfl ?_
  dsimp only [List.set]
  rw [frz_lab]
  walk_at "go"
  refine ⟨(s, s.line.idxOf it), ⟨rfl, g, hp⟩, fun r hr => ?_⟩
  have hr : r = .int (s.endOf (s.line.idxOf it) : Nat) := hr
  subst hr
  refine ⟨_, rfl, rfl, ?_⟩
  walk_at "d"
  walk_at "d"
  walk_at "d"
  refine ⟨_, _, rfl, (by decide : 5 < 12), (by decide : 6 < 12), ?_⟩
  show WSs X _ (_ :: _) _ _
  dsimp only [List.set]
  walk_at "go"
  have hend : s.at it < s.endOf (s.line.idxOf it) := by
    obtain ⟨A, C, e, _, _, hnx⟩ := ins_split (v := 0) g.nd ((g.mem it).mpr hi)
    exact (end_gt g.toLbOk e (by unfold Lb.endOf; rw [hnx])).1
  have hm := g.top it hi
  refine ⟨fun ht => ?_, fun hf => ?_⟩
  · have ht := of_decide_eq_true ht
    walk_at "go"
    refine wo_peek 0 rfl (by with_reducible exact canF_lab) (.no (.so (by first | exact trivial | assumption) (.so (by first | exact trivial | assumption) (.so (by first | exact trivial | assumption) (.so (by first | exact trivial | assumption) (.so (by first | exact trivial | assumption) (.so (by first | exact trivial | assumption) (.no (.no (.no (.no (.no (.nil))))))))))))) rfl ?_
    dsimp only [List.set]
    rw [frz_lab]
    walk_at "go"
    refine ⟨(s, s.at it), ⟨rfl, g, hm⟩, fun r hr => ?_⟩
    have hr : r = match s.levelOf (s.at it) with | some l => .int l | none => .non := hr
    cases hl : s.levelOf (s.at it) with
    | none =>
      exfalso
      unfold Lb.put at hput
      dsimp only at hput
      rw [if_pos (by omega), hl] at hput
      exact nomatch hput
    | some l =>
      rw [hl] at hr
      have hr : r = .int l := hr
      subst hr
      refine ⟨_, rfl, rfl, ?_⟩
      iterate 8 walk_at "d"
      refine wss_nil ?_
      show WSs X _ (_ :: _) _ _
      refine wss_open 0 1 9 rfl rfl rfl hN9 hv9 (by decide) (by decide) fun a_1 => ?_
      dsimp only [List.set]
      refine wss_open 0 2 10 rfl rfl rfl hN10 hv10 (by decide) (by decide) fun a_2 => ?_
      dsimp only [List.set]
      walk_at "go"
      refine wo_insertF 9 rfl (wo_fldA (j := 1) 9 ob_Labels hN0 rfl rfl rfl rfl ⟨rfl, rfl⟩) ?_ rfl (pe_bm PySem.F.plainAttrs_list PySem.F.slot_list_insert PySem.F.type_list_insert mt_insert pe_w pa_w)
      walk_at "go"
      refine ⟨_, _, _, rfl, rfl, trivial, rfl, imp, by rw [iN_len]; omega, ⟨by omega, by omega⟩, ?_⟩
      have tn : ((s.line.idxOf it : Int) + 1).toNat = s.line.idxOf it + 1 := by omega
      rw [tn, iN_ins]
      dsimp only [List.set]
      walk_at "go"
      refine ⟨by rw [iN_len, g.len]; omega, ?_⟩
      show WSs X _ (_ :: _) _ _
      dsimp only [List.set]
      rw [iN_app]
      refine wss_close 0 1 9 rfl rfl rfl (by decide) ?_
      refine wss_close 0 2 10 rfl rfl rfl (by decide) ?_
      dsimp only [List.set]
      have l59 : l ≤ s.b := by
        have := List.mem_range.mp (List.mem_of_find?_eq_some hl)
        omega
      have b59 := g.b2
      have cp : CPow 1 (l : Int) := ⟨by omega, by omega, by decide⟩
      have e2 : ((1 : Int) * 2 ^ (l : Int).toNat) = ((2 ^ l : Nat) : Int) := by simp
      have p2 := Nat.two_pow_pos l
      have el : (s.at it : Int) - (s.at it : Int) % ((2 ^ l : Nat) : Int) = ((loS l (s.at it) : Nat) : Int) := by
        unfold loS
        have := Nat.mod_le (s.at it) (2 ^ l)
        omega
      have W1 : LbW { s with line := insI s.line (s.line.idxOf it) s.line.length, ms := s.ms ++ [s.at it] } := by
        refine ⟨fun i hi => ?_, ?_⟩
        · show i < (s.ms ++ [s.at it]).length
          rw [List.length_append, g.len]
          show i < s.line.length + 1
          have hi : i ∈ insI s.line (s.line.idxOf it) s.line.length := hi
          unfold insI at hi
          rcases List.mem_append.mp hi with q | q
          · have := (g.mem i).mp (List.mem_of_mem_take q); omega
          · rcases List.mem_cons.mp q with q | q
            · omega
            · have := (g.mem i).mp (List.mem_of_mem_drop q); omega
        · show (insI s.line (s.line.idxOf it) s.line.length).length < 1001
          unfold insI
          rw [List.length_append, List.length_cons, List.length_take, List.length_drop]
          omega
      walk_at "go"
      rw [e2, el]
      refine ⟨({ s with line := insI s.line (s.line.idxOf it) s.line.length, ms := s.ms ++ [s.at it] }, l, loS l (s.at it), s.line.length), ⟨rfl, W1, by show l ≤ 60; omega⟩, fun d d0' hp2 => ?_⟩
      obtain ⟨hd, hd'⟩ := hp2
      cases hd'
      subst hd
      refine ⟨_, rfl, (by simp), ?_⟩
      show WSs X _ (_ :: _) _ _
      dsimp only [List.set]
      unfold labD layS
      refine wss_cons (ws_fput ob_Labels hN0 ?_)
      walk_at "go"
      refine ⟨_, 3, _, rfl, rfl, rfl, ?_⟩
      show WSs X _ (_ :: _) _ _
      dsimp only [List.set]
      walk_at "go"
      unfold Lb.put at hput
      dsimp only at hput
      rw [if_pos (by omega), hl] at hput
      have es := Option.some.inj hput
      subst es
      refine ⟨[labD _], rfl, ?_, rfl⟩
      refine congrArg D.int ?_
      show ((mvS _ _ _ _ : Nat) : Int) = ((s.tot + mvS { s with line := insI s.line (s.line.idxOf it) s.line.length, ms := s.ms ++ [s.at it] } l (loS l (s.at it)) s.line.length : Nat) : Int) - s.tot
      omega
  · have hf := of_decide_eq_false hf
    refine wss_nil ?_
    show WSs X _ (_ :: _) _ _
    refine wss_open 0 1 9 rfl rfl rfl hN9 hv9 (by decide) (by decide) fun a_1 => ?_
    dsimp only [List.set]
    refine wss_open 0 2 10 rfl rfl rfl hN10 hv10 (by decide) (by decide) fun a_2 => ?_
    dsimp only [List.set]
    walk_at "go"
    refine wo_insertF 9 rfl (wo_fldA (j := 1) 9 ob_Labels hN0 rfl rfl rfl rfl ⟨rfl, rfl⟩) ?_ rfl (pe_bm PySem.F.plainAttrs_list PySem.F.slot_list_insert PySem.F.type_list_insert mt_insert pe_w pa_w)
    walk_at "go"
    refine ⟨_, _, _, rfl, rfl, trivial, rfl, imp, by rw [iN_len]; omega, ⟨by omega, by omega⟩, ?_⟩
    have tn : ((s.line.idxOf it : Int) + 1).toNat = s.line.idxOf it + 1 := by omega
    rw [tn, iN_ins]
    dsimp only [List.set]
    walk_at "go"
    refine ⟨by rw [iN_len, g.len]; omega, ?_⟩
    show WSs X _ (_ :: _) _ _
    dsimp only [List.set]
    have ev : ((s.at it : Int) + (s.endOf (s.line.idxOf it) : Int)) / 2 = (((s.at it + s.endOf (s.line.idxOf it)) / 2 : Nat) : Int) := by omega
    rw [ev, iN_app]
    refine wss_close 0 1 9 rfl rfl rfl (by decide) ?_
    refine wss_close 0 2 10 rfl rfl rfl (by decide) ?_
    dsimp only [List.set]
    iterate 11 walk_at "d"
    refine wss_cons (ws_fput ob_Labels hN0 ?_)
    walk_at "go"
    refine ⟨_, 3, _, rfl, rfl, rfl, ?_⟩
    show WSs X _ (_ :: _) _ _
    dsimp only [List.set]
    walk_at "go"
    unfold Lb.put at hput
    dsimp only at hput
    rw [if_neg (by omega)] at hput
    have es := Option.some.inj hput
    subst es
    have z : (s.tot : Int) + 0 = s.tot := by omega
    rw [z]
    refine ⟨[labD _], rfl, ?_, rfl⟩
    refine congrArg D.int ?_
    show (0 : Int) = (s.tot : Int) - s.tot
    omega
end
end
section
open Ln
/-! what the law keeps of labels, in plain Lean -/
theorem lineN_app {qs : List Int} {x : Int} {n : Nat} (h : n ≤ qs.length) : lineN (qs ++ [x]) n = lineN qs n := by
  have q := lineN_take (qs := qs ++ [x]) (m := qs.length) (n := n) h (by rw [List.length_append]; omega)
  rw [List.take_left] at q
  exact q.symm
def nI (xs : List Nat) : List Int := xs.map fun n : Nat => (n : Int)
theorem idx_nI {i : Nat} {xs : List Nat} : (nI xs).idxOf (i : Int) = xs.idxOf i := idx_cast
theorem ins_nI {xs : List Nat} {it v : Nat} : insA (nI xs) (it : Int) (v : Int) = nI (insI xs (xs.idxOf it) v) := by
  unfold insA
  rw [idx_nI]
  unfold insI nI
  rw [List.map_append, List.map_cons, List.map_take, List.map_drop, List.append_assoc]
  rfl
structure LawI (b : Nat) (s : Lb) (qs : List Int) : Prop where
  g : LbB s
  bb : s.b = b
  len : s.line.length = qs.length + 1
  row : lineN qs qs.length = nI s.line
  good : Good qs
  gap : qs.length ≤ b → Gap s (b - qs.length) ∧ s.tot = 0
theorem LawI.start {b : Nat} (h1 : 1 ≤ b) (h2 : b ≤ 59) : LawI b (lb0 b) [] := by
  have p := Nat.two_pow_pos b
  have one : ∀ i, i ∈ (lb0 b).line ↔ i = 0 := fun i => List.mem_singleton
  have at0 : ∀ i, i < 1 → (lb0 b).at i = 0 := fun i hi => by
    rw [show i = 0 by omega]
    rfl
  refine ⟨⟨⟨rfl, Nat.zero_lt_one, fun i => (one i).trans (by show i = 0 ↔ i < 1; omega), List.nodup_cons.mpr ⟨(fun z => nomatch z), List.nodup_nil⟩, List.pairwise_singleton _ _, fun i hi => ?_⟩, h1, h2, (by decide : 1 < 1000)⟩, rfl, rfl, rfl, ⟨by decide, fun j q h => by simp at h⟩, fun _ => ⟨⟨List.pairwise_singleton _ _, fun i hi => ?_⟩, rfl⟩⟩
  · show (lb0 b).at i < 2 ^ b
    rw [at0 i hi]
    exact p
  · rw [at0 i hi]
    show 0 + 2 ^ (b - 0) ≤ 2 ^ b
    rw [Nat.zero_add, Nat.sub_zero]
    exact Nat.le_refl _
theorem LawI.step {b : Nat} {s s' : Lb} {qs : List Int} {it : Nat} (I : LawI b s qs) (hit : it < s.line.length) (h : s.put it = some s') (few : qs.length < 900) :
    LawI b s' (qs ++ [(it : Int)]) ∧ s'.line = insI s.line (s.line.idxOf it) s.line.length ∧ s.line.length ≠ 2 ^ b ∧ (s.line.length ≤ b → s'.tot = 0) := by
  obtain ⟨ok, el, eb⟩ := put_ok I.g.toLbOk hit h
  have hlen := I.len
  have ll : (insI s.line (s.line.idxOf it) s.line.length).length = s.line.length + 1 := by
    unfold insI
    rw [List.length_append, List.length_cons, List.length_take, List.length_drop]
    omega
  have good : Good (qs ++ [(it : Int)]) := by
    refine ⟨by rw [List.length_append]; show qs.length + 1 ≤ 1000; omega, fun j q hq => ?_⟩
    rw [List.getElem?_append] at hq
    by_cases hj : j < qs.length
    · rw [if_pos hj] at hq
      exact I.good.2 j q hq
    · rw [if_neg hj] at hq
      cases hz : j - qs.length with
      | zero =>
        rw [hz] at hq
        cases hq
        omega
      | succ z =>
        rw [hz] at hq
        simp at hq
  have gap : ∀ k, qs.length + 1 ≤ b → k = b - (qs.length + 1) → Gap s' k ∧ s'.tot = 0 := fun k hk ek => by
    obtain ⟨g1, t1⟩ := I.gap (by omega)
    have e : b - qs.length = k + 1 := by omega
    rw [e] at g1
    obtain ⟨s2, e2, g2, t2⟩ := put_gap I.g.toLbOk g1 hit
    rw [h] at e2
    cases e2
    exact ⟨g2, by omega⟩
  refine ⟨⟨⟨ok, by rw [eb]; exact I.g.b1, by rw [eb]; exact I.g.b2, by rw [el, ll]; omega⟩, by rw [eb]; exact I.bb, ?_, ?_, good, fun hk => ?_⟩, el, fun z => ?_, fun hk => ?_⟩
  · rw [el, ll, List.length_append]
    show s.line.length + 1 = qs.length + 1 + 1
    omega
  · rw [List.length_append]
    show insA (lineN (qs ++ [(it : Int)]) qs.length) ((qs ++ [(it : Int)]).getD qs.length 0) ((qs.length : Int) + 1) = _
    rw [lineN_app (Nat.le_refl _), I.row, el]
    have e1 : (qs ++ [(it : Int)]).getD qs.length 0 = (it : Int) := by
      rw [List.getD_eq_getElem?_getD, List.getElem?_append_right (Nat.le_refl _), Nat.sub_self]
      rfl
    have e2 : (qs.length : Int) + 1 = (s.line.length : Nat) := by omega
    rw [e1, e2, ins_nI]
  · rw [List.length_append] at hk ⊢
    exact gap _ hk rfl
  · rw [put_full I.g.toLbOk hit (by rw [I.bb]; exact z)] at h
    exact nomatch h
  · exact (gap _ (by omega) rfl).2
theorem LawI.no {b : Nat} {s : Lb} {qs : List Int} {it : Nat} (I : LawI b s qs) (hit : it < s.line.length) (h : s.put it = none) : ¬ (3 ^ b * (s.line.length + 1) ≤ 4 ^ b) ∧ ¬ s.line.length ≤ b := by
  have hlen := I.len
  refine ⟨fun q => ?_, fun q => ?_⟩
  · have m := put_none I.g.toLbOk h
    rw [I.bb] at m
    unfold mostBy at m
    have p3 : 0 < 3 ^ b := Nat.pow_pos (by decide)
    have q2 := (Nat.le_div_iff_mul_le p3).mpr (by rw [Nat.mul_comm]; exact q : (s.line.length + 1) * 3 ^ b ≤ 4 ^ b)
    omega
  · obtain ⟨g1, t1⟩ := I.gap (by omega)
    have e : b - qs.length = (b - qs.length - 1) + 1 := by omega
    rw [e] at g1
    obtain ⟨s2, e2, _⟩ := put_gap I.g.toLbOk g1 hit
    rw [h] at e2
    exact nomatch e2
end
section
local macro_rules | `(tactic| walk_at "gCalA") => `(tactic| ((with_reducible refine' wo_dgetD ?h1 ?h2 ?h3 ?_ ?h5 ?h6 ?h7 ?h8); (case h1 => with_reducible assumption); (case h2 => with_reducible assumption); (case h3 => exact ⟨_, _, rfl⟩); (case h5 => exact ⟨rfl, rfl, rfl, rfl⟩); (case h6 => walk_at "vis"); (case h7 => decide); (case h8 => decide)))
local macro_rules | `(tactic| walk_at "gSub") => `(tactic| ((with_reducible refine' wo_dgetL ?h1 ?h2 ?h3 ?h4 ?_ ?h6 ?h7 ?h8); (case h1 => with_reducible assumption); (case h2 => with_reducible assumption); (case h3 => rfl); (case h4 => exact fun _ _ => rfl); (case h6 => walk_at "vis"); (case h7 => decide); (case h8 => decide)))
theorem fm_some {α β : Type} {f : α → β} : ∀ {xs : List α}, (xs.filterMap fun x => some (f x)) = xs.map f
  | [] => rfl
  | x :: xs => by rw [List.filterMap_cons]; exact congrArg (f x :: ·) fm_some
theorem nJ_sum : ∀ {xs : List Nat}, (nJ xs).sum = ((xs.sum : Nat) : Int)
  | [] => rfl
  | x :: xs => by
    show (x : Int) + (nJ xs).sum = ((x + xs.sum : Nat) : Int)
    rw [nJ_sum]
    rfl
local macro_rules | `(tactic| walk_at "gCalN") => `(tactic| ((with_reducible refine wo_isO ?h1 ?h2 ?_ ?h4 ?h5); (case h1 => rfl); (case h2 => with_reducible assumption); (case h4 => rfl); (case h5 => rfl)))
local macro_rules | `(tactic| walk_at "gName") => `(tactic| ((with_reducible refine' wo_cls ?h1 ?h2 ?_ ?h4); (case h1 => rfl); (case h2 => with_reducible assumption); (case h4 => decide)))
def ct_half_by : Ct := ⟨Nat, fun l ds => ds = [.int l] ∧ l ≤ 59, fun l d _ => d = .int (halfBy l : Nat)⟩
def ct_stock_of : Ct := ⟨Lb, fun s ds => ds = [labF s] ∧ LbB s, fun s d _ => d = .int (stock s.b s.ms : Nat)⟩
def ct_potential : Ct := ⟨Lb, fun s ds => ds = [labF s] ∧ LbB s, fun s d _ => d = .int (stock s.b s.ms : Nat)⟩
section
variable {P : Program} {w : World} {K : PySem.W.Frag} {mg : Str → Option Value} {base : Heap} [PrF P fileL]
theorem cal_half_by (Z : Fz K mg) : Cal P w K mg base 2 "half_by" (toSp K 0 ct_half_by) := by
  refine cal_of Z.d_half_by sc_half_by (fun a ds h => by rw [h.1]; rfl) (by decide) ?_
  intro f cdv A outer s H E hr (a : Nat ) ds hp X
  have hNd : X.N.Nodup := sc_half_by.nd
  haveI iPrF : PrF X.prog fileL := (inferInstance : PrF P fileL)
  have hN0 : X.N[0]? = some ("level" : Str) := rfl
  have hR : Room 1 X.A := hr
  have hu64 : X.A.units + 64 < cLine := by have := hR.un; omega
  have hu1 : X.A.units + 1 < cLine := by have := hR.un; omega
  have c_most_by : Cal X.prog X.w X.K X.mg X.base 1 "most_by" (toSp X.K 0 ct_most_by) := cal_most_by Z
  obtain ⟨hds, hp⟩ := hp
  subst hds
  show WSs X [] (_ :: _) [ some (D.int a)] _
  walk_at "go"
  refine ⟨a + 1, ⟨rfl, by show a + 1 ≤ 60; omega⟩, fun r hr => ?_⟩
  have hr : r = .int (mostBy (a + 1) : Nat) := hr
  subst hr
  walk_at "go"
  refine ⟨[], rfl, congrArg D.int ?_⟩
  show _ = ((halfBy a : Nat) : Int)
  unfold halfBy
  omega
theorem cal_stock_of (Z : Fz K mg) : Cal P w K mg base 3 "stock_of" (toSp K 0 ct_stock_of) := by
  refine cal_of Z.d_stock_of sc_stock_of (fun a ds h => by rw [h.1]; rfl) (by decide) ?_
  intro f cdv A outer s H E hr (a : Lb ) ds hp X
  have ob_Labels : Ob X.K (LamT.ob "Labels") ["bits", "line", "marks", "total"] := Z.k_Labels
  have hNd : X.N.Nodup := sc_stock_of.nd
  haveI iPrF : PrF X.prog fileL := (inferInstance : PrF P fileL)
  have hN0 : X.N[0]? = some ("labels" : Str) := rfl
  have hN1 : X.N[1]? = some ("found" : Str) := rfl
  have hN2 : X.N[2]? = some ("level" : Str) := rfl
  have hN3 : X.N[3]? = some ("counts" : Str) := rfl
  have hN4 : X.N[4]? = some ("mark" : Str) := rfl
  have hN5 : X.N[5]? = some ("spot" : Str) := rfl
  have hR : Room 2 X.A := hr
  have hu64 : X.A.units + 64 < cLine := by have := hR.un; omega
  have hu1 : X.A.units + 1 < cLine := by have := hR.un; omega
  have m_range : X.mg "range" = none := Z.b_range
  have m_sum : X.mg "sum" = none := Z.b_sum
  have m_max : X.mg "max" = none := Z.b_max
  have c_half_by : Cal X.prog X.w X.K X.mg X.base 2 "half_by" (toSp X.K 0 ct_half_by) := cal_half_by Z
  obtain ⟨hds, hp⟩ := hp
  subst hds
  show WSs X [] (_ :: _) [ some (labF a), none, none, none, none, none] _
  have gl := hp.ll
  have g2 := hp.b2
  have glen := hp.len
  have imm : Imms (iN a.ms) := imms_iN
  walk_at "go"
  refine ws_for PassesOwn.never rfl ?_
  refine wi_range1 (by exact rfl) m_range ?_ (by rfl) (by rfl)
  walk_at "go"
  rw [Int.toNat_natCast]
  refine ⟨fun n E' => ∃ o2 o3 o4 o5, E' = [some (labF a), some (.int (sumR (fun k => stL k a.ms (2 ^ a.b)) n : Nat)), o2, o3, o4, o5], ⟨none, none, none, none, rfl⟩, (fun _ _ _ _ p h => nomatch h), ?_, ?_⟩
  · rintro k E' hk ⟨o2, o3, o4, o5, rfl⟩
    have e0 : 0 + (k : Int) = (k : Int) := by omega
    have cp : CPow 1 (k : Int) := ⟨by omega, by omega, by decide⟩
    have e2 : ((1 : Int) * 2 ^ (k : Int).toNat) = ((2 ^ k : Nat) : Int) := by simp
    have p2 := Nat.two_pow_pos k
    dsimp only
    rw [e0]
    walk_at "go"
    refine ws_for PassesOwn.never rfl ?_
    refine wi_lst ?_
    walk_at "go"
    rw [iN_len]
    refine ⟨fun j E' => ∃ (qs : List Nat) (o4 o5 : Option D), Cnt k (a.ms.take j) qs ∧ qs.length ≤ j ∧ E' = [some (labF a), some (.int (sumR (fun k => stL k a.ms (2 ^ a.b)) k : Nat)), some (.int (k : Int)), some (.dic ((nJ qs).map Sum.inl) ((nJ (qs.map fun q => cntS k q (a.ms.take j))).map D.int)), o4, o5], ⟨[], _, _, Cnt.start, Nat.le_refl _, rfl⟩, (fun _ _ _ _ p h => nomatch h), ?_, ?_⟩
    · rintro j E' hj ⟨qs, o4, o5, C, lq, rfl⟩
      obtain ⟨m, em⟩ : ∃ m, a.ms[j]? = some m := ⟨_, List.getElem?_eq_getElem hj⟩
      have et : a.ms.take (j + 1) = a.ms.take j ++ [m] := take_next em
      obtain ⟨C', eN, eC⟩ := C.step (m := m)
      have eg := C.get (m := m)
      have ed : (m : Int) / ((2 ^ k : Nat) : Int) = ((m / 2 ^ k : Nat) : Int) := (Int.natCast_ediv _ _).symm
      show WG _ _ _ ((iN a.ms).getD j .non) _ _
      rw [iN_src hj, show a.ms[j] = m from by rw [List.getElem?_eq_getElem hj] at em; exact Option.some.inj em]
      have cdv : CDivW (m : Int) ((2 ^ k : Nat) : Int) := by
        refine ⟨by omega, ?_⟩
        rw [Int.natAbs_natCast]
        have := (Nat.log2_lt (n := 2 ^ k) (k := 96) (by omega)).mpr (Nat.pow_lt_pow_right (by decide) (by omega))
        omega
      have nd := nJ_nd C.nd
      have l1 : (nJ qs).length = (nJ (qs.map fun q => cntS k q (a.ms.take j))).length := by rw [nJ_len, nJ_len, List.length_map]
      walk_at "go"
      show CDivW _ _ ∧ _
      rw [e2]
      refine ⟨cdv, ?_⟩
      rw [ed]
      walk_at "go"
      rw [eg]
      refine' wg_dputI ?h1 ?h2 ?h3 ?_ ?h5 ?h6 ?h7 ?h8
      case h1 => exact hu1
      case h2 => exact hN3
      case h3 => exact ⟨_, _, rfl⟩
      case h5 => walk_at "vis"
      case h6 => decide
      case h7 => decide
      case h8 => exact fun _ => rfl
      walk_at "go"
      show CDivW _ _ ∧ _
      rw [e2]
      refine ⟨cdv, ?_⟩
      rw [ed]
      refine ⟨nJ qs, nJ (qs.map fun q => cntS k q (a.ms.take j)), _, rfl, rfl, nd, by rw [nJ_len]; omega, ?_⟩
      dsimp only [List.set]
      refine ⟨qsN qs (m / 2 ^ k), some (.int (m : Int)), o5, by rw [et]; exact C', ?_, ?_⟩
      · unfold qsN
        split
        · omega
        · rw [List.length_append]
          show qs.length + 1 ≤ j + 1
          omega
      · rw [eN, eC, et]
    · rintro E' ⟨qs, o4, o5, C, lq, rfl⟩
      rw [List.take_of_length_le (Nat.le_refl _)] at C ⊢
      have nd := nJ_nd C.nd
      have l1 : (nJ qs).length = (nJ (qs.map fun q => cntS k q a.ms)).length := by rw [nJ_len, nJ_len, List.length_map]
      walk_at "go"
      refine wo_lockD (ns := nJ qs) (cs := nJ (qs.map fun q => cntS k q a.ms)) (E0 := [none, none, some (.int (k : Int)), none, none, none]) 3 rfl (.no (.no (.so trivial (.no (.no (.no .nil)))))) rfl fun od => ?_
      dsimp only [List.set]
      refine wo_sumL rfl (by rfl) m_sum ?_ (by rfl)
      refine' wo_lcX (own := [("spot", 5)]) rfl hNd ?ok ?hg ?_ ?hs
      case ok => exact (show BlkOk ["labels", "found", "level", "counts", "mark", "spot"] (defScope s_stock_of) _ [("spot", 5)] from ⟨rfl, by decide +kernel, by decide +kernel, by decide +kernel, by decide +kernel⟩)
      case hs => exact fun _ => rfl
      case hg => exact blk_name hNd hN5 rfl
      refine wi_keysL (od := od) hN3 rfl l1 ?_ (by walk_at "vis") (by decide) (by decide)
      rw [nJ_len]
      have lms : a.ms.length < 1000 := by omega
      refine ⟨Nat, qs, fun q : Nat => D.int (q : Int), fun q : Nat => some (.int ((4 * (cntS k q a.ms - halfBy k) : Nat) : Int)), rfl, by omega, fun j h => ?_, (fun p h => nomatch h), ?_, ?_⟩
      · show D.int ((nJ qs).getD j 0) = D.int ((qs[j] : Nat) : Int)
        unfold nJ
        rw [List.getD_eq_getElem?_getD, List.getElem?_map, List.getElem?_eq_getElem h]
        rfl
      · intro q hq
        refine ⟨_, tgb_name (by decide) (Nat.le_of_ble_eq_true rfl), fun s H C cl fp => ?_⟩
        try dsimp only [List.set]
        refine wif_nil ⟨fun _ s H C cl fp => ?_, fun h => Bool.noConfusion h⟩
        walk_at "go"
        obtain ⟨jx, hjx⟩ := List.mem_iff_getElem?.mp hq
        refine ⟨_, jx, (cntS k q a.ms : Nat), rfl, nd, by unfold nJ; rw [List.getElem?_map, hjx]; rfl, by unfold nJ; rw [List.getElem?_map, List.getElem?_map, hjx]; rfl, ?_⟩
        walk_at "go"
        refine ⟨k, ⟨rfl, by show k ≤ 59; omega⟩, fun r hr => ?_⟩
        have hr : r = .int (halfBy k : Nat) := hr
        subst hr
        walk_at "go"
        refine ⟨congrArg (fun z => some (D.int z)) ?_, rfl⟩
        split <;> omega
      · rw [fm_some]
        have el : (qs.map fun q : Nat => D.int ((4 * (cntS k q a.ms - halfBy k) : Nat) : Int)) = (nJ (qs.map fun q => 4 * (cntS k q a.ms - halfBy k))).map D.int := by
          unfold nJ
          rw [List.map_map, List.map_map]
          rfl
        refine ⟨_, congrArg some el, _, rfl, ?_⟩
        walk_at "go"
        rw [nJ_sum, C.sum (N := 2 ^ a.b) fun m hm => ?_]
        · exact ⟨_, _, _, _, rfl⟩
        · obtain ⟨i, hi⟩ := List.mem_iff_getElem?.mp hm
          have il := (List.getElem?_eq_some_iff.mp hi).1
          have q := hp.top i (by omega)
          unfold Lb.at at q
          rw [List.getD_eq_getElem?_getD, hi] at q
          exact q
  · rintro E' ⟨o2, o3, o4, o5, rfl⟩
    walk_at "go"
    exact ⟨[], rfl, rfl⟩
theorem cal_potential (Z : Fz K mg) : Cal P w K mg base 5 "potential" (toSp K 0 ct_potential) := by
  refine cal_of Z.d_potential sc_potential (fun a ds h => by rw [h.1]; rfl) (by decide) ?_
  intro f cdv A outer s H E hr (a : Lb ) ds hp X
  have ob_Labels : Ob X.K (LamT.ob "Labels") ["bits", "line", "marks", "total"] := Z.k_Labels
  have hNd : X.N.Nodup := sc_potential.nd
  haveI iPrF : PrF X.prog fileL := (inferInstance : PrF P fileL)
  have hN0 : X.N[0]? = some ("labels" : Str) := rfl
  have hR : Room 4 X.A := hr
  have hu64 : X.A.units + 64 < cLine := by have := hR.un; omega
  have hu1 : X.A.units + 1 < cLine := by have := hR.un; omega
  have c_stock_of : Cal X.prog X.w X.K X.mg X.base 3 "stock_of" (toSp X.K 0 ct_stock_of) := cal_stock_of Z
  have m_isinstance : X.mg "isinstance" = none := Z.b_isinstance
  have g_Labels : X.mg "Labels" = some (.ref (LamT.ob "Labels")) := Z.o_Labels
  have mk_Labels : ∃ f, Mk X.K (LamT.ob "Labels") f := Z.n_Labels
  have in_Labels : C8.InsC X.K (LamT.ob "Labels") := Z.i_Labels
  have c_Labels___init__ : CalM X.prog X.w X.K X.mg X.base 4 (LamT.ob "Labels") "__init__" (toSp X.K 1 ct_Labels___init__) := cal_Labels___init__ Z
  obtain ⟨hds, hp⟩ := hp
  subst hds
  show WSs X [] (_ :: _) [ some (labF a)] _
  walk_at "go"
  refine ⟨LamT.ob "Labels", _, _, rfl, rfl, in_Labels, ?_⟩
  walk_at "go"
  refine ⟨a, ⟨rfl, hp⟩, fun r hr => ?_⟩
  have hr : r = .int (stock a.b a.ms : Nat) := hr
  subst hr
  exact ⟨_, rfl, [], rfl, rfl⟩
end
end
section
def ct_law_is_whole : Ct := ⟨Int, fun i ds => ds = [.int i] ∧ True, fun _ d _ => d = .bl true⟩
def prs (row : List Nat) : List D := row.map fun i : Nat => D.tup [.int 0, .int i]
def ct_law_lb_next : Ct := ⟨Sta × Int × Nat × List Nat × Nat × Nat, fun a ds => ds = [sD a.1, .int a.2.2.1, .lst (prs a.2.2.2.1), .int a.2.2.2.2.1] ∧ SOk a.2.1 a.1 ∧ a.2.1 ≤ 900000000 ∧ (0 < a.2.2.2.1.length ∧ a.2.2.2.1.length ≤ a.2.2.2.2.2 ∧ a.2.2.2.2.2 < 1000) ∧ (∀ i ∈ a.2.2.2.1, i < a.2.2.2.2.2) ∧ a.2.2.2.2.1 < a.2.2.2.2.2,
  fun a d ds => ∃ (i : Nat) (s : Sta), d = .int (i : Int) ∧ i < a.2.2.2.2.2 ∧ ds = [sD s] ∧ SOk (a.2.1 + 1) s⟩
section
variable {P : Program} {w : World} {K : PySem.W.Frag} {mg : Str → Option Value} {base : Heap} [PrF P fileL]
theorem cal_law_is_whole (Z : Fz K mg) : Cal P w K mg base 1 "_law_is_whole" (toSp K 0 ct_law_is_whole) := by
  refine cal_of Z.d_law_is_whole sc_law_is_whole (fun a ds h => by rw [h.1]; rfl) (by decide) ?_
  intro f cdv A outer s H E hr (a : Int ) ds hp X
  have hNd : X.N.Nodup := sc_law_is_whole.nd
  haveI iPrF : PrF X.prog fileL := (inferInstance : PrF P fileL)
  have hN0 : X.N[0]? = some ("item" : Str) := rfl
  have hR : Room 0 X.A := hr
  have hu64 : X.A.units + 64 < cLine := by have := hR.un; omega
  have hu1 : X.A.units + 1 < cLine := by have := hR.un; omega
  have m_isinstance : X.mg "isinstance" = none := Z.b_isinstance
  have m_int : X.mg "int" = none := Z.b_int
  have m_bool : X.mg "bool" = none := Z.b_bool
  obtain ⟨hds, hp⟩ := hp
  subst hds
  show WSs X [] (_ :: _) [ some (D.int a)] _
  walk_at "go"
  exact ⟨[], rfl, rfl⟩
theorem prs_at {row : List Nat} {j i : Nat} (h : row[j]? = some i) : atI (prs row) (j : Int) = some (.tup [.int 0, .int i]) := by
  rw [ix_nat (by omega), Int.toNat_natCast]
  unfold prs
  rw [List.getElem?_map, h]
  rfl
theorem prs_len {row : List Nat} : (prs row).length = row.length := List.length_map ..
theorem imms_prs {row : List Nat} : Imms (prs row) := imms_map fun _ _ => ⟨trivial, trivial, trivial⟩
theorem cal_law_lb_next (Z : Fz K mg) : Cal P w K mg base 4 "_law_lb_next" (toSp K 1 ct_law_lb_next) := by
  refine cal_of Z.d_law_lb_next sc_law_lb_next (fun a ds h => by rw [h.1]; rfl) (by decide) ?_
  intro f cdv A outer s H E hr (a : Sta × Int × Nat × List Nat × Nat × Nat ) ds hp X
  have hNd : X.N.Nodup := sc_law_lb_next.nd
  haveI iPrF : PrF X.prog fileL := (inferInstance : PrF P fileL)
  have hN0 : X.N[0]? = some ("state" : Str) := rfl
  have hN1 : X.N[1]? = some ("kind" : Str) := rfl
  have hN2 : X.N[2]? = some ("pairs" : Str) := rfl
  have hN3 : X.N[3]? = some ("last" : Str) := rfl
  have hR : Room 3 X.A := hr
  have hu64 : X.A.units + 64 < cLine := by have := hR.un; omega
  have hu1 : X.A.units + 1 < cLine := by have := hR.un; omega
  have c_law_draw : Cal X.prog X.w X.K X.mg X.base 2 "_law_draw" (toSp X.K 1 ct_law_draw) := cal_law_draw Z
  have c_law_pick : Cal X.prog X.w X.K X.mg X.base 3 "_law_pick" (toSp X.K 1 ct_law_pick) := cal_law_pick Z
  have m_len : X.mg "len" = none := Z.b_len
  have m_min : X.mg "min" = none := Z.b_min
  obtain ⟨hds, hp⟩ := hp
  subst hds
  show WSs X [0] (_ :: _) [ some (sD a.1), some (D.int a.2.2.1), some (.lst (prs a.2.2.2.1)), some (D.int a.2.2.2.2.1)] _
  obtain ⟨s, n, kd, row, last, NN⟩ := a
  obtain ⟨ok, hn, ⟨l0, l1, l2⟩, mem, hlast⟩ := hp
  dsimp only at ok hn l0 l1 l2 mem hlast ⊢
  have imp : Imms (prs row) := imms_prs
  have fin : ∀ (i : Nat) (s1 : Sta) (E' : EnvT), i < NN → SOk (n + 1) s1 → E'.take 1 = [some (sD s1)] → ∃ ds', E'.take 1 = List.map some ds' ∧ ct_law_lb_next.post (s, n, kd, row, last, NN) (.int (i : Int)) ds' := fun i s1 E' hi o e => ⟨[sD s1], e, i, s1, rfl, hi, rfl, o⟩
  have pr1 : ∀ j : Nat, j < row.length → ∃ i : Nat, i < NN ∧ atI (prs row) (j : Int) = some (.tup [.int 0, .int i]) := fun j hj => ⟨row[j], mem _ (List.getElem_mem hj), prs_at (List.getElem?_eq_getElem hj)⟩
  walk_at "go"
  refine ⟨fun h => ?_, fun h => ?_⟩
  · walk_at "go"
    exact fin 0 s _ (by omega) (ok.mono (by omega)) rfl
  walk_at "go"
  refine ⟨fun h => ?_, fun h => ?_⟩
  · walk_at "go"
    exact fin last s _ hlast (ok.mono (by omega)) rfl
  walk_at "go"
  refine ⟨fun h => ?_, fun h => ?_⟩
  · walk_at "go"
    refine ⟨(s, n, .lst [.int 0, .int (last : Int)], [.int 0, .int (last : Int)]), ⟨rfl, ok, rfl, ⟨trivial, trivial, trivial⟩, ⟨(by decide : 0 < 2), (by decide : 2 ≤ 100000)⟩, by dsimp only; omega⟩, ?_⟩
    rintro d d0 ⟨s1, hm, hd, ok1⟩
    cases hd
    refine ⟨_, rfl, ?_⟩
    rcases List.mem_cons.mp hm with q | q
    · rw [q]
      exact fin 0 s1 _ (by omega) ok1 rfl
    · rw [List.mem_singleton.mp q]
      exact fin last s1 _ hlast ok1 rfl
  walk_at "go"
  refine ⟨fun h => ?_, fun h => ?_⟩
  · walk_at "go"
    obtain ⟨i, hi, ei⟩ := pr1 (row.length - 1) (by omega)
    have e1 : ((prs row).length : Int) - 1 = ((row.length - 1 : Nat) : Int) := by rw [prs_len]; omega
    rw [e1]
    refine ⟨_, _, _, rfl, rfl, ei, ⟨trivial, trivial, trivial⟩, ?_⟩
    walk_at "go"
    exact fin i s _ hi (ok.mono (by omega)) rfl
  walk_at "go"
  refine ⟨fun h => ?_, fun h => ?_⟩
  · walk_at "go"
    refine ⟨(_, _, _), ⟨rfl, by with_reducible assumption, by dsimp only; (try simp only [ncast]); omega, by dsimp only; omega⟩, ?_⟩
    rintro _ _ ⟨r, s1, rfl, hr, hd, oks1⟩
    cases hd
    dsimp only at hr oks1
    try simp only [ncast] at hr
    dsimp only [List.set]
    have e1 : ((prs row).length : Int) - 1 = ((row.length - 1 : Nat) : Int) := by rw [prs_len]; omega
    rw [e1]
    refine ⟨_, _, rfl, rfl, ?_⟩
    dsimp only
    obtain ⟨j, ej, hj⟩ : ∃ j : Nat, (if r < ((row.length - 1 : Nat) : Int) then r else ((row.length - 1 : Nat) : Int)) = (j : Int) ∧ j < row.length := by
      refine ⟨(if r < ((row.length - 1 : Nat) : Int) then r else ((row.length - 1 : Nat) : Int)).toNat, ?_, ?_⟩
      · split <;> omega
      · split <;> omega
    obtain ⟨i, hi, ei⟩ := pr1 j hj
    rw [ej]
    refine ⟨_, _, _, rfl, rfl, ei, ⟨trivial, trivial, trivial⟩, ?_⟩
    walk_at "go"
    exact fin i s1 _ hi oks1 rfl
  walk_at "go"
  rw [prs_len]
  refine ⟨(_, _, _), ⟨rfl, by with_reducible assumption, by dsimp only; (try simp only [ncast]); omega, by dsimp only; omega⟩, ?_⟩
  rintro _ _ ⟨r, s1, rfl, hr, hd, oks1⟩
  cases hd
  dsimp only at hr oks1
  try simp only [ncast] at hr
  dsimp only [List.set]
  walk_at "go"
  obtain ⟨i, rfl⟩ : ∃ i : Nat, r = i := ⟨r.toNat, by omega⟩
  exact fin i s1 _ (by omega) oks1 rfl
end
end
section
local macro_rules | `(tactic| walk_at "gCalN") => `(tactic| first | ((with_reducible refine wo_sortedSetB ?c ?h1 ?h2 ?h3 ?h6 ?_ ?h4 ?h5); (case c => rfl); (case h1 => rfl); (case h2 => with_reducible assumption); (case h3 => rfl); (case h6 => with_reducible assumption); (case h4 => rfl); (case h5 => rfl)) | ((with_reducible refine wo_reprL ?h5 ?h6 ?h1 ?h2 ?_ ?h4); (case h1 => rfl); (case h2 => with_reducible assumption); (case h4 => rfl); (case h5 => with_reducible assumption); (case h6 => with_reducible assumption)))
def ct_law : Ct := ⟨List Int, fun ns ds => ds = [.fz (ns.map D.int)] ∧ ns.length ≤ 1000, fun _ d _ => d = .bl true⟩
theorem stock0 {b : Nat} : stock b [0] = 0 := by
  have h : ∀ N, sumR (fun k => stL k [0] (2 ^ b)) N = 0 := fun N => by
    induction N with
    | zero => rfl
    | succ N ih =>
      show _ + stL N [0] (2 ^ b) = 0
      rw [ih]
      unfold stL
      have h2 : ∀ M, sumR (fun q => 4 * (cntS N q [0] - halfBy N)) M = 0 := fun M => by
        induction M with
        | zero => rfl
        | succ M ih2 =>
          show _ + 4 * (cntS N M [0] - halfBy N) = 0
          rw [ih2]
          have c1 : cntS N M [0] ≤ 1 := List.countP_le_length
          have h1 : 1 ≤ halfBy N := by
            have := mostBy_pos (N + 1)
            unfold halfBy
            omega
          omega
      rw [h2]
  exact h b
structure LawJ (b : Nat) (s : Lb) (t : Nat) : Prop where
  g : LbB s
  bb : s.b = b
  len : s.line.length = t + 1
  paid : stock s.b s.ms + s.tot ≤ 4 * b * t
theorem LawJ.start {b : Nat} (h1 : 1 ≤ b) (h2 : b ≤ 59) : LawJ b (lb0 b) 0 := ⟨(LawI.start h1 h2).g, rfl, rfl, by show stock b [0] + 0 ≤ _; rw [stock0]; omega⟩
theorem LawJ.step {b t it : Nat} {s : Lb} (I : LawJ b s t) (many : 330 ≤ mostBy b) (few : t < 325) (hit : it < s.line.length) :
    ∃ s', s.put it = some s' ∧ LawJ b s' (t + 1) ∧ s'.line = insI s.line (s.line.idxOf it) s.line.length ∧ s.tot ≤ s'.tot ∧ s'.tot ≤ s.tot + s.line.length := by
  have hl := I.len
  cases h : s.put it with
  | none =>
    have := put_none I.g.toLbOk h
    rw [I.bb] at this
    omega
  | some s' =>
    obtain ⟨ok, el, eb⟩ := put_ok I.g.toLbOk hit h
    have b2 := I.g.b2
    obtain ⟨p1, p2, p3⟩ := put_paid I.g.toLbOk hit (by omega) h
    have ll : (insI s.line (s.line.idxOf it) s.line.length).length = s.line.length + 1 := by
      unfold insI
      rw [List.length_append, List.length_cons, List.length_take, List.length_drop]
      omega
    have pd := I.paid
    have em : 4 * b * (t + 1) = 4 * b * t + 4 * b := Nat.mul_succ _ _
    refine ⟨s', rfl, ⟨⟨ok, by rw [eb]; exact I.g.b1, by rw [eb]; exact b2, by rw [el, ll]; omega⟩, by rw [eb]; exact I.bb, by rw [el, ll, hl], ?_⟩, el, p2, p3⟩
    rw [I.bb] at p1 pd
    rw [em]
    rw [eb, I.bb] at p1 ⊢
    omega
section
variable {P : Program} {w : World} {K : PySem.W.Frag} {mg : Str → Option Value} {base : Heap} [PrF P fileL]
theorem ok_law {f : Addr} {fd : FuncData} (Z : Fz K mg) (F : FunD K "law" "law" (defArgs s_law) (defBody s_law) (defScope s_law) [] [] f fd) : FnG P w K mg base f fd ["script"] (toSp K 0 ct_law) := by
  refine fn_okG (k := 7) F sc_law ⟨rfl, by decide, by decide⟩ (fun a ds h => by rw [h.1]; rfl) ?_
  intro s H E hr (a : List Int ) ds hp X
  have hgd : X.A.guards = some [] := rfl
  have ob_Labels : Ob X.K (LamT.ob "Labels") ["bits", "line", "marks", "total"] := Z.k_Labels
  have hNd : X.N.Nodup := sc_law.nd
  haveI iPrF : PrF X.prog fileL := (inferInstance : PrF P fileL)
  have hN0 : X.N[0]? = some ("script" : Str) := rfl
  have hN1 : X.N[1]? = some ("state" : Str) := rfl
  have hN2 : X.N[2]? = some ("many" : Str) := rfl
  have hN3 : X.N[3]? = some ("bits" : Str) := rfl
  have hN4 : X.N[4]? = some ("labels" : Str) := rfl
  have hN5 : X.N[5]? = some ("row" : Str) := rfl
  have hN6 : X.N[6]? = some ("last" : Str) := rfl
  have hN7 : X.N[7]? = some ("kind" : Str) := rfl
  have hN8 : X.N[8]? = some ("total" : Str) := rfl
  have hN9 : X.N[9]? = some ("turn" : Str) := rfl
  have hN10 : X.N[10]? = some ("told_here" : Str) := rfl
  have hN11 : X.N[11]? = some ("item" : Str) := rfl
  have hN12 : X.N[12]? = some ("moved" : Str) := rfl
  have hN13 : X.N[13]? = some ("here" : Str) := rfl
  have hR : Room 7 X.A := hr
  have hu64 : X.A.units + 64 < cLine := by have := hR.un; omega
  have hu1 : X.A.units + 1 < cLine := by have := hR.un; omega
  have c_law_begun : Cal X.prog X.w X.K X.mg X.base 1 "_law_begun" (toSp X.K 0 ct_law_begun) := cal_law_begun Z
  have c_law_pick : Cal X.prog X.w X.K X.mg X.base 3 "_law_pick" (toSp X.K 1 ct_law_pick) := cal_law_pick Z
  have m_range : X.mg "range" = none := Z.b_range
  have c_law_draw : Cal X.prog X.w X.K X.mg X.base 2 "_law_draw" (toSp X.K 1 ct_law_draw) := cal_law_draw Z
  have g_Labels : X.mg "Labels" = some (.ref (LamT.ob "Labels")) := Z.o_Labels
  have mk_Labels : ∃ f, Mk X.K (LamT.ob "Labels") f := Z.n_Labels
  have in_Labels : C8.InsC X.K (LamT.ob "Labels") := Z.i_Labels
  have c_law_lb_next : Cal X.prog X.w X.K X.mg X.base 4 "_law_lb_next" (toSp X.K 1 ct_law_lb_next) := cal_law_lb_next Z
  have m_len : X.mg "len" = none := Z.b_len
  have m_sorted : X.mg "sorted" = none := Z.b_sorted
  have m_repr : X.mg "repr" = none := Z.b_repr
  have c_potential : Cal X.prog X.w X.K X.mg X.base 5 "potential" (toSp X.K 0 ct_potential) := cal_potential Z
  have m_min : X.mg "min" = none := Z.b_min
  have c_law_is_whole : Cal X.prog X.w X.K X.mg X.base 1 "_law_is_whole" (toSp X.K 0 ct_law_is_whole) := cal_law_is_whole Z
  have m_set : X.mg "set" = none := Z.b_set
  have c_Labels_put : CalM X.prog X.w X.K X.mg X.base 4 (LamT.ob "Labels") "put" (toSp X.K 1 ct_Labels_put) := cal_Labels_put Z
  have c_Labels_label : CalM X.prog X.w X.K X.mg X.base 4 (LamT.ob "Labels") "label" (toSp X.K 0 cta_Labels_label) := cala_Labels_label Z
  have c_Labels_moved : CalM X.prog X.w X.K X.mg X.base 1 (LamT.ob "Labels") "moved" (toSp X.K 0 cta_Labels_moved) := cala_Labels_moved Z
  have c_Labels_row : CalM X.prog X.w X.K X.mg X.base 1 (LamT.ob "Labels") "row" (toSp X.K 0 cta_Labels_row) := cala_Labels_row Z
  have c_Labels___init__ : CalM X.prog X.w X.K X.mg X.base 4 (LamT.ob "Labels") "__init__" (toSp X.K 1 ct_Labels___init__) := cal_Labels___init__ Z
  obtain ⟨hds, hp⟩ := hp
  subst hds
  show WSs X [] (_ :: _) [ some (D.fz (a.map D.int)), none, none, none, none, none, none, none, none, none, none, none, none, none] _
  have hl : a.length ≤ 1000 := hp
  walk_at "go"
  refine ⟨a, ⟨rfl, hp⟩, fun d hd => ?_⟩
  obtain ⟨s, rfl, ok⟩ := hd
  refine ⟨_, rfl, Nat.le_of_ble_eq_true rfl, ?_⟩
  dsimp only [List.set]
  show WSs _ _ _ _ _
  refine wss_cut (fun E' => ∃ (m : Nat) (s1 : Sta), (60 ≤ m ∧ m < 325) ∧ SOk 10 s1 ∧ E' = [some (.fz (a.map D.int)), some (sD s1), some (.int (m : Int)), none, none, none, none, none, none, none, none, none, none, none]) ?_ ?_
  · walk_at "go"
    refine ⟨(_, _, _), ⟨rfl, by with_reducible assumption, by dsimp only; (try simp only [ncast]); omega, by dsimp only; omega⟩, ?_⟩
    rintro _ _ ⟨r, s1, rfl, hr, hd, oks1⟩
    cases hd
    dsimp only at hr oks1
    try simp only [ncast] at hr
    dsimp only [List.set]
    walk_at "go"
    obtain ⟨m, em, hm⟩ : ∃ m : Nat, (60 + 40 * if 5 < ((a.map D.int).length : Int) then 5 else ((a.map D.int).length : Int)) + r = (m : Int) ∧ (60 ≤ m ∧ m < 325) := by
      refine ⟨((60 + 40 * if 5 < ((a.map D.int).length : Int) then 5 else ((a.map D.int).length : Int)) + r).toNat, ?_, ?_⟩
      · split <;> omega
      · split <;> omega
    rw [em]
    exact ⟨m, s1, hm, oks1.mono (by omega), rfl⟩
  rintro E' ⟨m, s1, hm, ok1, rfl⟩
  refine wss_cut (fun E' => ∃ (b : Nat) (s2 : Sta), (1 ≤ b ∧ b ≤ 59 ∧ 330 ≤ mostBy b) ∧ SOk 20 s2 ∧ E' = [some (.fz (a.map D.int)), some (sD s2), some (.int (m : Int)), some (.int (b : Int)), none, none, none, none, none, none, none, none, none, none]) ?_ ?_
  · walk_at "go"
    refine ⟨(s1, 10, _, [.int 27, .int 40, .int 59, .int 24]), ⟨rfl, ok1, rfl, ⟨trivial, trivial, trivial, trivial, trivial⟩, ⟨(by decide : 0 < 4), (by decide : 4 ≤ 100000)⟩, by dsimp only; omega⟩, ?_⟩
    rintro d d0 ⟨s2, hmm, hd, ok2⟩
    cases hd
    dsimp only at hmm ok2
    have hb : ∃ b : Nat, d = .int (b : Int) ∧ (1 ≤ b ∧ b ≤ 59 ∧ 330 ≤ mostBy b) := by
      simp only [List.mem_cons, List.not_mem_nil, or_false] at hmm
      rcases hmm with q | q | q | q
      · exact ⟨27, q, by decide +kernel⟩
      · exact ⟨40, q, by decide +kernel⟩
      · exact ⟨59, q, by decide +kernel⟩
      · exact ⟨24, q, by decide +kernel⟩
    obtain ⟨b, rfl, hb⟩ := hb
    exact ⟨_, rfl, Nat.le_of_ble_eq_true rfl, b, s2, hb, ok2.mono (by omega), rfl⟩
  rintro E' ⟨b, s2, ⟨hb1, hb2, hb3⟩, ok2, rfl⟩
  walk_at "go"
  refine wo_make1 (j := 6) mk_Labels c_Labels___init__ hR (by decide) (by exact rfl) g_Labels ?_
  walk_at "go"
  refine ⟨⟨trivial, trivial⟩, b, ⟨rfl, hb1, hb2⟩, fun d d0' q => ?_⟩
  obtain ⟨q1, q2⟩ := q
  cases q2
  refine ⟨q1, ?_⟩
  walk_at "go"
  refine ⟨(_, _, _), ⟨rfl, by with_reducible assumption, by dsimp only; (try simp only [ncast]); omega, by dsimp only; omega⟩, ?_⟩
  rintro _ _ ⟨r3, s3, rfl, hr3, hd, oks3⟩
  cases hd
  dsimp only at hr3 oks3
  try simp only [ncast] at hr3
  dsimp only [List.set]
  obtain ⟨kd, rfl⟩ : ∃ k : Nat, r3 = k := ⟨r3.toNat, by omega⟩
  walk_at "go"
  refine' wg_quadO ?a1 ?a2 ?a3 ?a4 ?a5 ?l1 ?l2 ?l3 ?l4 ?n1 ?n2 ?n3 ?n4 ?b0 ?_ ?f1 ?f2 ?f3 ?f4 ?c4 ?c5 ?c6 ?c7 ?c8
  case a1 => exact hNd
  case a2 => exact hN4
  case a3 => exact hN5
  case a4 => exact hN6
  case a5 => exact hN7
  case l1 => walk_at "loc"
  case l2 => walk_at "loc"
  case l3 => walk_at "loc"
  case l4 => walk_at "loc"
  case n1 => walk_at "pin"
  case n2 => walk_at "pin"
  case n3 => walk_at "pin"
  case n4 => walk_at "pin"
  case b0 => exact ⟨Nat.le_of_ble_eq_true rfl, Nat.le_of_ble_eq_true rfl, Nat.le_of_ble_eq_true rfl, Nat.le_of_ble_eq_true rfl⟩
  case f1 => exact .inl rfl
  case f2 => exact .inl rfl
  case f3 => exact .inl rfl
  case f4 => exact .inl rfl
  case c4 => exact fun t h => pg_tup rfl h
  case c5 => exact fun t u h1 h2 => pgs_cons h1 h2
  case c6 => exact fun t u h1 h2 => pgs_cons h1 h2
  case c7 => exact fun t u h1 h2 => pgs_cons h1 h2
  case c8 => exact fun t h => pgs_cons h pgs_nil
  dsimp only [List.set]
  show WSs X _ (_ :: _) _ _
  walk_at "go"
  refine ws_for PassesOwn.never rfl ?_
  refine wi_range1 (by exact rfl) m_range ?_ (by rfl) (by rfl)
  walk_at "go"
  rw [Int.toNat_natCast]
  refine ⟨fun t E' => ∃ (s4 : Sta) (kd last : Nat) (lb : Lb) (u9 u10 u11 u12 u13 : Option D), LawJ b lb t ∧ last < lb.line.length ∧ SOk (30 + 4 * (t : Int)) s4 ∧
    E' = [some (.fz (a.map D.int)), some (sD s4), some (.int (m : Int)), some (.int (b : Int)), some (labD lb), some (.lst (iN lb.line)), some (.int (last : Int)), some (.int (kd : Int)), some (.int (lb.tot : Int)), u9, u10, u11, u12, u13], ⟨s3, kd, 0, lb0 b, none, none, none, none, none, LawJ.start hb1 hb2, Nat.zero_lt_one, oks3.mono (by omega), rfl⟩, (fun _ _ _ _ p h => nomatch h), ?_, ?_⟩
  · rintro t E' ht ⟨s4, kd, last, lb, u9, u10, u11, u12, u13, LI, hlast, ok4, rfl⟩
    have gl := LI.g.ll
    have lln := LI.len
    have lpos := LI.g.pos
    have imp : Imms (iN lb.line) := imms_iN
    walk_at "d"
    refine wss_cut (fun E' => ∃ (s5 : Sta) (kd5 : Nat), SOk (30 + 4 * (t : Int) + 2) s5 ∧ E' = [some (.fz (a.map D.int)), some (sD s5), some (.int (m : Int)), some (.int (b : Int)), some (labD lb), some (.lst (iN lb.line)), some (.int (last : Int)), some (.int (kd5 : Int)), some (.int (lb.tot : Int)), some (.int (0 + (t : Int))), u10, u11, u12, u13]) ?_ ?_
    · walk_at "go"
      refine ⟨(_, _, _), ⟨rfl, by with_reducible assumption, by dsimp only; (try simp only [ncast]); omega, by dsimp only; omega⟩, ?_⟩
      rintro _ _ ⟨r5, s5, rfl, hr5, hd, oks5⟩
      cases hd
      dsimp only at hr5 oks5
      try simp only [ncast] at hr5
      dsimp only [List.set]
      walk_at "go"
      refine ⟨fun h => ?_, fun h => ?_⟩
      · walk_at "go"
        refine ⟨(_, _, _), ⟨rfl, by with_reducible assumption, by dsimp only; (try simp only [ncast]); omega, by dsimp only; omega⟩, ?_⟩
        rintro _ _ ⟨r6, s6, rfl, hr6, hd, oks6⟩
        cases hd
        dsimp only at hr6 oks6
        try simp only [ncast] at hr6
        dsimp only [List.set]
        obtain ⟨kd6, rfl⟩ : ∃ k : Nat, r6 = k := ⟨r6.toNat, by omega⟩
        refine ⟨_, rfl, Nat.le_of_ble_eq_true rfl, ?_⟩
        exact ⟨s6, kd6, oks6.mono (by omega), rfl⟩
      · walk_at "go"
        exact ⟨s5, kd, oks5.mono (by omega), rfl⟩
    rintro E' ⟨s5, kd5, ok5, rfl⟩
    refine wss_cut (fun E' => ∃ (s6 : Sta) (it : Nat) (u13 : Option D), it < lb.line.length ∧ SOk (30 + 4 * (t : Int) + 3) s6 ∧ E' = [some (.fz (a.map D.int)), some (sD s6), some (.int (m : Int)), some (.int (b : Int)), some (labD lb), some (.lst (iN lb.line)), some (.int (last : Int)), some (.int (kd5 : Int)), some (.int (lb.tot : Int)), some (.int (0 + (t : Int))), u10, some (.int (it : Int)), u12, u13]) ?_ ?_
    · walk_at "go"
      refine ⟨fun h => ?_, fun h => ?_⟩
      · refine' wo_lcX (own := [("here", 13)]) rfl hNd ?ok ?hg ?_ ?hs
        case ok => exact (show BlkOk ["script", "state", "many", "bits", "labels", "row", "last", "kind", "total", "turn", "told_here", "item", "moved", "here"] (defScope s_law) _ [("here", 13)] from ⟨rfl, by decide +kernel, by decide +kernel, by decide +kernel, by decide +kernel⟩)
        case hs => exact fun _ => rfl
        case hg => exact blk_name hNd hN13 rfl
        refine wi_lst ?_
        walk_at "go"
        rw [iN_len]
        refine ⟨Nat, lb.line, fun n : Nat => D.int (n : Int), fun c : Nat => some (.tup [.int 0, .int (c : Int)]), rfl, by omega, fun j h => iN_src h, (fun p h => ?_), ?_, ?_⟩
        · rw [List.mem_singleton.mp h]
          rfl
        · intro c hc
          refine ⟨_, tgb_name (by decide) (Nat.le_of_ble_eq_true rfl), fun s H C cl fp => ?_⟩
          try dsimp only [List.set]
          refine wif_nil ⟨fun _ s H C cl fp => ?_, fun h => Bool.noConfusion h⟩
          walk_at "go"
          exact ⟨rfl, rfl⟩
        rw [fm_some]
        walk_at "go"
        refine ⟨(s5, 30 + 4 * (t : Int) + 2, kd5, lb.line, last, lb.line.length), ⟨rfl, ok5, by dsimp only; omega, ⟨lpos, Nat.le_refl _, gl⟩, fun i hi => (LI.g.mem i).mp hi, hlast⟩, ?_⟩
        rintro d d0 ⟨it, s6, rfl, hit, hd, ok6⟩
        cases hd
        exact ⟨_, rfl, Nat.le_of_ble_eq_true rfl, s6, it, _, hit, ok6.mono (by dsimp only; omega), rfl⟩
      · have tne : lb.line ≠ [] := fun z => by rw [z] at lpos; exact Nat.lt_irrefl 0 lpos
        obtain ⟨ini, z, ez⟩ : ∃ (ini : List Nat) (z : Nat), lb.line = ini ++ [z] := ⟨lb.line.dropLast, lb.line.getLast tne, (List.dropLast_concat_getLast tne).symm⟩
        have hz : z < lb.line.length := (LI.g.mem z).mp (by rw [ez]; exact List.mem_append_right _ List.mem_cons_self)
        have hz1 : atI (iN lb.line) (-1) = some (.int (z : Nat)) := by
          rw [ez]
          unfold iN
          rw [List.map_append, List.map_append]
          exact atI_neg1
        walk_at "go"
        refine ⟨(s5, 30 + 4 * (t : Int) + 2, kd5, [z], last, lb.line.length), ⟨rfl, ok5, by dsimp only; omega, ⟨Nat.zero_lt_one, lpos, gl⟩, fun i hi => by rw [List.mem_singleton.mp hi]; exact hz, hlast⟩, ?_⟩
        rintro d d0 ⟨it, s6, rfl, hit, hd, ok6⟩
        cases hd
        exact ⟨_, rfl, Nat.le_of_ble_eq_true rfl, s6, it, _, hit, ok6.mono (by dsimp only; omega), rfl⟩
    rintro E' ⟨s6, it, u13, hit, ok6, rfl⟩
    obtain ⟨lb', hput, LI', eline, t1, t2⟩ := LI.step hb3 (by omega) hit
    walk_at "go"
    refine ⟨(lb, it, lb'), ⟨rfl, LI.g, hit, hput⟩, ?_⟩
    rintro d d0 ⟨hd, hd0⟩
    cases hd0
    have hd : d = .int ((lb'.tot : Int) - lb.tot) := hd
    subst hd
    refine ⟨_, rfl, Nat.le_of_ble_eq_true rfl, ?_⟩
    dsimp only [List.set]
    show WSs X _ (_ :: _) _ _
    refine wss_cut (fun E' => E' = [some (.fz (a.map D.int)), some (sD s6), some (.int (m : Int)), some (.int (b : Int)), some (labD lb'), some (.lst (iN lb.line)), some (.int (last : Int)), some (.int (kd5 : Int)), some (.int ((lb.tot : Int))), some (.int (0 + (t : Int))), u10, some (.int (it : Int)), some (.int ((lb'.tot : Int) - lb.tot)), u13]) ?_ ?_
    · walk_at "go"
      refine ⟨_, ⟨rfl, trivial⟩, fun r hr => ?_⟩
      have hr : r = .bl true := hr
      subst hr
      walk_at "go"
      refine ⟨fun h1 => ?_, fun h1 => ?_⟩
      · exfalso
        rw [iN_len] at h1
        have q : decide ((lb'.tot : Int) - lb.tot ≤ (lb.line.length : Int)) = true := decide_eq_true (by omega)
        rw [q] at h1
        exact nomatch h1
      · exact wss_nil rfl
    rintro E' rfl
    have etot : (lb.tot : Int) + ((lb'.tot : Int) - lb.tot) = lb'.tot := by omega
    have hpi : lb.line.idxOf it < lb.line.length := List.idxOf_lt_length_of_mem ((LI.g.mem it).mpr hit)
    have tn : ((lb.line.idxOf it : Int) + 1).toNat = lb.line.idxOf it + 1 := by omega
    have pd : (lb'.tot : Int) ≤ 4 * (b : Int) * (0 + (t : Int) + 1) := by
      have q := LI'.paid
      have q2 : lb'.tot ≤ 4 * b * (t + 1) := by omega
      have q3 : ((4 * b * (t + 1) : Nat) : Int) = 4 * (b : Int) * (0 + (t : Int) + 1) := by push_cast; rw [Int.zero_add]
      omega
    have ln2 := LI'.len
    walk_at "go"
    refine ⟨List.mem_map.mpr ⟨it, (LI.g.mem it).mpr hit, rfl⟩, ?_⟩
    rw [idx_cast, etot, iN_len]
    walk_at "go"
    refine ⟨_, _, _, rfl, rfl, trivial, rfl, imp, by rw [iN_len]; omega, ⟨by omega, by omega⟩, ?_⟩
    rw [tn, iN_ins, ← eline]
    dsimp only [List.set]
    walk_at "go"
    exact ⟨s6, kd5, lb.line.length, lb', some (.int (0 + (t : Int))), u10, some (.int (it : Int)), some (.int ((lb'.tot : Int) - lb.tot)), u13, LI', by omega, ok6.mono (by push_cast; omega), rfl⟩
  · rintro E' ⟨s4, kd, last, lb, u9, u10, u11, u12, u13, LI, hlast, ok4, rfl⟩
    have gl := LI.g.ll
    have lln := LI.len
    have lpos := LI.g.pos
    have imp : Imms (iN lb.line) := imms_iN
    have imn : Imms ((nI lb.line).map D.int) := imms_iN
    have sml : Small (nI lb.line) := by
      refine ⟨by unfold nI; rw [List.length_map]; omega, fun i hi => ?_⟩
      obtain ⟨x, hx, rfl⟩ := List.mem_map.mp hi
      have := (LI.g.mem x).mp hx
      omega
    show WSs X _ (_ :: _) _ _
    refine wss_frz 4 rfl canF_lab ?_
    rw [frz_lab]
    dsimp only [List.set]
    refine wss_frzI (xs := nI lb.line) 5 rfl ?_
    dsimp only [List.set]
    walk_at "go"
    refine' ws_setLcX (own := [("item", 11)]) rfl hNd hN10 rfl (by decide) ?ok ?hg ?_ ?sw ?hs
    case ok => exact (show BlkOk ["script", "state", "many", "bits", "labels", "row", "last", "kind", "total", "turn", "told_here", "item", "moved", "here"] (defScope s_law) _ [("item", 11)] from ⟨rfl, by decide +kernel, by decide +kernel, by decide +kernel, by decide +kernel⟩)
    case hs => exact fun _ => rfl
    case sw => exact sw_true rfl rfl rfl rfl
    case hg => exact blk_name hNd hN11 rfl
    refine wi_lst ?_
    walk_at "go"
    rw [List.length_map]
    refine ⟨Nat, lb.line, fun n : Nat => D.int (n : Int), fun c : Nat => some (.int (lb.at c : Nat)), (by unfold nI; rw [List.length_map]), (by unfold nI; rw [List.length_map]; omega), fun j h => iN_src h, (fun p h => nomatch h), ?_, ?_⟩
    · intro c hc
      have hcl := (LI.g.mem c).mp hc
      refine ⟨_, tgb_name (by decide) (Nat.le_of_ble_eq_true rfl), fun s H C cl fp => ?_⟩
      try dsimp only [List.set]
      refine wif_nil ⟨fun _ s H C cl fp => ?_, fun h => Bool.noConfusion h⟩
      walk_at "go"
      refine ⟨(lb, c), ⟨rfl, LI.g, hcl⟩, fun r hr => ?_⟩
      have hr : r = .int (lb.at c : Nat) := hr
      subst hr
      exact ⟨_, rfl, rfl, rfl⟩
    rw [fm_some]
    refine ⟨Nat.le_of_ble_eq_true rfl, ?_⟩
    show WSs X _ (_ :: _) _ _
    dsimp only [wipeE, List.map, List.set]
    have et : (lb.line.map fun c : Nat => D.int ((lb.at c : Nat) : Int)) = (nI (lb.line.map lb.at)).map D.int := by
      unfold nI
      rw [List.map_map, List.map_map]
      rfl
    rw [et]
    have told : ∀ i, i ∈ lb.line.map lb.at → i < 2 ^ b := fun i hi => by
      obtain ⟨x, hx, rfl⟩ := List.mem_map.mp hi
      rw [← LI.bb]
      exact LI.g.top x ((LI.g.mem x).mp hx)
    have tinc : (nI (lb.line.map lb.at)).Pairwise (· < ·) := by
      unfold nI
      refine List.pairwise_map.mpr (List.pairwise_map.mpr (LI.g.inc.imp fun h => ?_))
      exact Int.ofNat_lt.mpr h
    have tlen : (lb.line.map lb.at).length = lb.line.length := List.length_map ..
    have imt : Imms ((nI (lb.line.map lb.at)).map D.int) := imms_iN
    have cp : CPow 1 (b : Int) := ⟨by omega, by omega, by decide⟩
    have e2 : ((1 : Int) * 2 ^ (b : Int).toNat) = ((2 ^ b : Nat) : Int) := by simp
    generalize lb.line.map lb.at = ts at told tinc tlen imt ⊢
    refine wss_cut (fun E' => E' = [some (.fz (a.map D.int)), some (sD s4), some (.int (m : Int)), some (.int (b : Int)), some (labF lb), some (.fz ((nI lb.line).map D.int)), some (.int (last : Int)), some (.int (kd : Int)), some (.int (lb.tot : Int)), u9, some (.lst ((nI ts).map D.int)), none, u12, u13]) ?_ ?_
    · walk_at "go"
      have tlI : (nI ts).length = ts.length := List.length_map ..
      obtain ⟨t0, ht0⟩ : ∃ x, ts[0]? = some x := ⟨_, List.getElem?_eq_getElem (by omega)⟩
      have hz0 : atI ((nI ts).map D.int) 0 = some (.int (t0 : Nat)) := iN_at (p := 0) ht0
      have tne : ts ≠ [] := fun z => by rw [z] at tlen; simp at tlen; omega
      obtain ⟨ini, tz, ets⟩ : ∃ (ini : List Nat) (tz : Nat), ts = ini ++ [tz] := ⟨ts.dropLast, ts.getLast tne, (List.dropLast_concat_getLast tne).symm⟩
      have bz := told tz (by rw [ets]; exact List.mem_append_right _ List.mem_cons_self)
      have hz1 : atI ((nI ts).map D.int) (-1) = some (.int (tz : Nat)) := by
        rw [ets]
        unfold nI
        rw [List.map_append, List.map_append]
        exact atI_neg1
      refine ⟨by omega, ?_⟩
      refine ⟨_, _, _, rfl, rfl, cmp_neLL hu64, ?_⟩
      rw [decide_eq_true rfl]
      walk_at "go"
      refine ⟨lb, ⟨rfl, LI.g⟩, fun r hr => ?_⟩
      have hr : r = .int lb.tot := hr
      subst hr
      walk_at "go"
      exact rfl
    rintro E' rfl
    have pd : (stock b lb.ms : Int) ≤ 4 * (b : Int) * (m : Int) - lb.tot := by
      have q := LI.paid
      rw [LI.bb] at q
      have q3 : ((4 * b * m : Nat) : Int) = 4 * (b : Int) * (m : Int) := by push_cast; rfl
      omega
    walk_at "go"
    refine ⟨lb, ⟨rfl, LI.g⟩, fun r hr => ?_⟩
    have hr : r = .lst (iN lb.line) := hr
    subst hr
    refine ⟨nI lb.line, sml, .inl ⟨rfl, ?_⟩⟩
    walk_at "go"
    refine ⟨nI lb.line, sml, .inl ⟨rfl, ?_⟩⟩
    walk_at "go"
    refine ⟨_, _, _, rfl, rfl, cmp_eqS, ?_⟩
    rw [decide_eq_true rfl]
    walk_at "go"
    refine ⟨lb, ⟨rfl, LI.g⟩, fun r hr => ?_⟩
    have hr : r = .int (stock lb.b lb.ms : Nat) := hr
    rw [LI.bb] at hr
    subst hr
    walk_at "go"
    rw [decide_eq_true pd]
    exact ⟨[], rfl, rfl⟩
end
end
end K21
namespace K21
open PySem PySem.Spec L2 DL Ln
open PyProof.Rows (envOfC)


open PyProof.Rows
def dd_is_whole : He.DefD := ⟨("is_whole", none), "is_whole", "is_whole", defArgs s_is_whole, defBody s_is_whole, defScope s_is_whole, [], []⟩
def dd_is_number : He.DefD := ⟨("is_number", none), "is_number", "is_number", defArgs s_is_number, defBody s_is_number, defScope s_is_number, [], []⟩
def dd_need_bits : He.DefD := ⟨("need_bits", none), "need_bits", "need_bits", defArgs s_need_bits, defBody s_need_bits, defScope s_need_bits, [], []⟩
def dd_most_by : He.DefD := ⟨("most_by", none), "most_by", "most_by", defArgs s_most_by, defBody s_most_by, defScope s_most_by, [], []⟩
def dd_half_by : He.DefD := ⟨("half_by", none), "half_by", "half_by", defArgs s_half_by, defBody s_half_by, defScope s_half_by, [], []⟩
def dd_stock_of : He.DefD := ⟨("stock_of", none), "stock_of", "stock_of", defArgs s_stock_of, defBody s_stock_of, defScope s_stock_of, [], []⟩
def dd_potential : He.DefD := ⟨("potential", none), "potential", "potential", defArgs s_potential, defBody s_potential, defScope s_potential, [], []⟩
def dd_law_begun : He.DefD := ⟨("_law_begun", none), "_law_begun", "_law_begun", defArgs s_law_begun, defBody s_law_begun, defScope s_law_begun, [], []⟩
def dd_law_blended : He.DefD := ⟨("_law_blended", none), "_law_blended", "_law_blended", defArgs s_law_blended, defBody s_law_blended, defScope s_law_blended, [], []⟩
def dd_law_draw : He.DefD := ⟨("_law_draw", none), "_law_draw", "_law_draw", defArgs s_law_draw, defBody s_law_draw, defScope s_law_draw, [], []⟩
def dd_law_pick : He.DefD := ⟨("_law_pick", none), "_law_pick", "_law_pick", defArgs s_law_pick, defBody s_law_pick, defScope s_law_pick, [], []⟩
def dd_law_is_whole : He.DefD := ⟨("_law_is_whole", none), "_law_is_whole", "_law_is_whole", defArgs s_law_is_whole, defBody s_law_is_whole, defScope s_law_is_whole, [], []⟩
def dd_law_lb_next : He.DefD := ⟨("_law_lb_next", none), "_law_lb_next", "_law_lb_next", defArgs s_law_lb_next, defBody s_law_lb_next, defScope s_law_lb_next, [], []⟩
def dd_law : He.DefD := ⟨("law", none), "law", "law", defArgs s_law, defBody s_law, defScope s_law, [], []⟩
def dd_Labels___init__ : He.DefD := ⟨("Labels", some "__init__"), "__init__", "Labels.__init__", defArgs s_Labels___init__, defBody s_Labels___init__, defScope s_Labels___init__, [], []⟩
def dd_Labels___len__ : He.DefD := ⟨("Labels", some "__len__"), "__len__", "Labels.__len__", defArgs s_Labels___len__, defBody s_Labels___len__, defScope s_Labels___len__, [], []⟩
def dd_Labels___eq__ : He.DefD := ⟨("Labels", some "__eq__"), "__eq__", "Labels.__eq__", defArgs s_Labels___eq__, defBody s_Labels___eq__, defScope s_Labels___eq__, [], []⟩
def dd_Labels__need : He.DefD := ⟨("Labels", some "_need"), "_need", "Labels._need", defArgs s_Labels__need, defBody s_Labels__need, defScope s_Labels__need, [], []⟩
def dd_Labels__end : He.DefD := ⟨("Labels", some "_end"), "_end", "Labels._end", defArgs s_Labels__end, defBody s_Labels__end, defScope s_Labels__end, [], []⟩
def dd_Labels__within : He.DefD := ⟨("Labels", some "_within"), "_within", "Labels._within", defArgs s_Labels__within, defBody s_Labels__within, defScope s_Labels__within, [], []⟩
def dd_Labels__level : He.DefD := ⟨("Labels", some "_level"), "_level", "Labels._level", defArgs s_Labels__level, defBody s_Labels__level, defScope s_Labels__level, [], []⟩
def dd_Labels__lay : He.DefD := ⟨("Labels", some "_lay"), "_lay", "Labels._lay", defArgs s_Labels__lay, defBody s_Labels__lay, defScope s_Labels__lay, [], []⟩
def dd_Labels_put : He.DefD := ⟨("Labels", some "put"), "put", "Labels.put", defArgs s_Labels_put, defBody s_Labels_put, defScope s_Labels_put, [], []⟩
def dd_Labels_label : He.DefD := ⟨("Labels", some "label"), "label", "Labels.label", defArgs s_Labels_label, defBody s_Labels_label, defScope s_Labels_label, [], []⟩
def dd_Labels_behind : He.DefD := ⟨("Labels", some "behind"), "behind", "Labels.behind", defArgs s_Labels_behind, defBody s_Labels_behind, defScope s_Labels_behind, [], []⟩
def dd_Labels_row : He.DefD := ⟨("Labels", some "row"), "row", "Labels.row", defArgs s_Labels_row, defBody s_Labels_row, defScope s_Labels_row, [], []⟩
def dd_Labels_moved : He.DefD := ⟨("Labels", some "moved"), "moved", "Labels.moved", defArgs s_Labels_moved, defBody s_Labels_moved, defScope s_Labels_moved, [], []⟩
def fnL : List He.DefD := [dd_is_whole, dd_is_number, dd_need_bits, dd_most_by, dd_half_by, dd_stock_of, dd_potential, dd_law_begun, dd_law_blended, dd_law_draw, dd_law_pick, dd_law_is_whole, dd_law_lb_next, dd_law, dd_Labels___init__, dd_Labels___len__, dd_Labels___eq__, dd_Labels__need, dd_Labels__end, dd_Labels__within, dd_Labels__level, dd_Labels__lay, dd_Labels_put, dd_Labels_label, dd_Labels_behind, dd_Labels_row, dd_Labels_moved]
def faL : List He.Fa := ([.glo "is_whole", .glo "is_number", .glo "need_bits", .glo "most_by", .glo "half_by", .glo "stock_of", .glo "potential", .glo "_law_begun", .glo "_law_blended", .glo "_law_draw", .glo "_law_pick", .glo "_law_is_whole"] : List He.Fa) ++ ([.glo "_law_lb_next", .glo "law", .free "abs", .free "bool", .free "enumerate", .free "int", .free "isinstance", .free "len", .free "list", .free "max", .free "min", .free "range"] : List He.Fa) ++ ([.free "repr", .free "set", .free "sorted", .free "sum", .int "MOST_BITS" G_MOST_BITS, .int "MOST_NUMBER" G_MOST_NUMBER, .glo "CopyError", .glo "BadBits", .exc "BadBits", .exm "BadBits" "CopyError" true, .glo "BadItem", .exc "BadItem"] : List He.Fa) ++ ([.exm "BadItem" "CopyError" true, .glo "BadLabels", .exc "BadLabels", .exm "BadLabels" "CopyError" true, .glo "Full", .exm "Full" "CopyError" true, .glo "Labels", .cls "Labels", .mkr "Labels", .noat "Labels" "bits", .noat "Labels" "line", .noat "Labels" "marks"] : List He.Fa) ++ ([.noat "Labels" "total", .meth "Labels" "__init__", .meth "Labels" "__len__", .meth "Labels" "__eq__", .meth "Labels" "_need", .meth "Labels" "_end", .meth "Labels" "_within", .meth "Labels" "_level", .meth "Labels" "_lay", .meth "Labels" "put", .meth "Labels" "label", .meth "Labels" "behind"] : List He.Fa) ++ ([.meth "Labels" "row", .meth "Labels" "moved"] : List He.Fa)
def looseL : List Str := (["_wall", "CopyError", "BadBits", "BadItem", "BadLabels", "Full", "MOST_NUMBER", "is_whole", "is_number", "MOST_BITS", "need_bits", "most_by"] : List Str) ++ (["half_by", "Labels", "stock_of", "potential", "_law_begun", "_law_blended", "_law_draw", "_law_pick", "_law_is_whole", "_law_lb_next"] : List Str)
instance lamT0 : LamT := ⟨[], fun _ => 0⟩
def clsL : List Str := ["BadBits", "BadItem", "BadLabels"]
def tfL : List He.Defn := []
def sclL : List (Str × Str) := [("Full", "many")]
def isoL : List Str := ["Labels"]
def exL (K : PySem.W.Frag) : Bool := (ndB K tfL && ((clsL.all fun x => excB K x) && sclL.all fun p => supB fileL K p.1 p.2)) && isoL.all fun x => insB K x
instance prfL : PrF (PySem.W.OpenLaw.prog PySem.Challenge.rw_asifcopied_k21_whole_long_rows) fileL := ⟨rfl, by decide +kernel⟩
abbrev RR : PySem.W.OpenRow := PySem.W.OpenLaw.row PySem.Challenge.rw_asifcopied_k21_whole_long_rows
abbrev hkL : PySem.W.Hook := hookS 5 faL fnL tfL exL
def obL (s : PySem.W.SharedT) : He.AlX := obsS 5 faL fnL tfL exL (HandSHeadRun.getT s)
theorem obL_eq (s : PySem.W.SharedT) : obL s = hkL.obs s.abs := obsS_eq (HandSHeadRun.getT_eq s)
theorem runL (w : World) : HandSHeadRun.RunEq RR (PySem.W.view RR.prog [26]) hkL obL 4000 looseL w := by
  intro os
  kernel_rfl
theorem fzL {K : PySem.W.Frag} {h : Heap} {w : World} {mg : Str → Option Value} (X : K.In h) (G : h.Ns mainGlobals mg) (cx : He.SaysX faL fnL [] tfL exL w h K) : @Fz (lamTs (lamOf K tfL) (He.ga K)) K mg :=
  letI : LamT := lamTs (lamOf K tfL) (He.ga K)
  have c : He.SaysD faL fnL K := cx.t.d
  { 
    d_is_whole := by
      obtain ⟨fd, F⟩ := c.def_ 0 (d := dd_is_whole) rfl
      exact ⟨_, fd, F, He.glo_ok X G (c.fact 0 (f := .glo "is_whole") rfl), F.bindsN fun _ _ _ _ _ _ us hl => match us, hl with | [_], _ => rfl⟩
    d_is_number := by
      obtain ⟨fd, F⟩ := c.def_ 1 (d := dd_is_number) rfl
      exact ⟨_, fd, F, He.glo_ok X G (c.fact 1 (f := .glo "is_number") rfl), F.bindsN fun _ _ _ _ _ _ us hl => match us, hl with | [_, _], _ => rfl⟩
    d_need_bits := by
      obtain ⟨fd, F⟩ := c.def_ 2 (d := dd_need_bits) rfl
      exact ⟨_, fd, F, He.glo_ok X G (c.fact 2 (f := .glo "need_bits") rfl), F.bindsN fun _ _ _ _ _ _ us hl => match us, hl with | [_], _ => rfl⟩
    d_most_by := by
      obtain ⟨fd, F⟩ := c.def_ 3 (d := dd_most_by) rfl
      exact ⟨_, fd, F, He.glo_ok X G (c.fact 3 (f := .glo "most_by") rfl), F.bindsN fun _ _ _ _ _ _ us hl => match us, hl with | [_], _ => rfl⟩
    d_half_by := by
      obtain ⟨fd, F⟩ := c.def_ 4 (d := dd_half_by) rfl
      exact ⟨_, fd, F, He.glo_ok X G (c.fact 4 (f := .glo "half_by") rfl), F.bindsN fun _ _ _ _ _ _ us hl => match us, hl with | [_], _ => rfl⟩
    d_stock_of := by
      obtain ⟨fd, F⟩ := c.def_ 5 (d := dd_stock_of) rfl
      exact ⟨_, fd, F, He.glo_ok X G (c.fact 5 (f := .glo "stock_of") rfl), F.bindsN fun _ _ _ _ _ _ us hl => match us, hl with | [_], _ => rfl⟩
    d_potential := by
      obtain ⟨fd, F⟩ := c.def_ 6 (d := dd_potential) rfl
      exact ⟨_, fd, F, He.glo_ok X G (c.fact 6 (f := .glo "potential") rfl), F.bindsN fun _ _ _ _ _ _ us hl => match us, hl with | [_], _ => rfl⟩
    d_law_begun := by
      obtain ⟨fd, F⟩ := c.def_ 7 (d := dd_law_begun) rfl
      exact ⟨_, fd, F, He.glo_ok X G (c.fact 7 (f := .glo "_law_begun") rfl), F.bindsN fun _ _ _ _ _ _ us hl => match us, hl with | [_], _ => rfl⟩
    d_law_blended := by
      obtain ⟨fd, F⟩ := c.def_ 8 (d := dd_law_blended) rfl
      exact ⟨_, fd, F, He.glo_ok X G (c.fact 8 (f := .glo "_law_blended") rfl), F.bindsN fun _ _ _ _ _ _ us hl => match us, hl with | [_], _ => rfl⟩
    d_law_draw := by
      obtain ⟨fd, F⟩ := c.def_ 9 (d := dd_law_draw) rfl
      exact ⟨_, fd, F, He.glo_ok X G (c.fact 9 (f := .glo "_law_draw") rfl), F.bindsN fun _ _ _ _ _ _ us hl => match us, hl with | [_, _], _ => rfl⟩
    d_law_pick := by
      obtain ⟨fd, F⟩ := c.def_ 10 (d := dd_law_pick) rfl
      exact ⟨_, fd, F, He.glo_ok X G (c.fact 10 (f := .glo "_law_pick") rfl), F.bindsN fun _ _ _ _ _ _ us hl => match us, hl with | [_, _], _ => rfl⟩
    d_law_is_whole := by
      obtain ⟨fd, F⟩ := c.def_ 11 (d := dd_law_is_whole) rfl
      exact ⟨_, fd, F, He.glo_ok X G (c.fact 11 (f := .glo "_law_is_whole") rfl), F.bindsN fun _ _ _ _ _ _ us hl => match us, hl with | [_], _ => rfl⟩
    d_law_lb_next := by
      obtain ⟨fd, F⟩ := c.def_ 12 (d := dd_law_lb_next) rfl
      exact ⟨_, fd, F, He.glo_ok X G (c.fact 12 (f := .glo "_law_lb_next") rfl), F.bindsN fun _ _ _ _ _ _ us hl => match us, hl with | [_, _, _, _], _ => rfl⟩
    d_law := by
      obtain ⟨fd, F⟩ := c.def_ 13 (d := dd_law) rfl
      exact ⟨_, fd, F, He.glo_ok X G (c.fact 13 (f := .glo "law") rfl), F.bindsN fun _ _ _ _ _ _ us hl => match us, hl with | [_], _ => rfl⟩
    d_Labels___init__ := by
      obtain ⟨fd, F⟩ := c.def_ 14 (d := dd_Labels___init__) rfl
      exact ⟨_, fd, He.meth_ok (c.fact 49 (f := .meth "Labels" "__init__") rfl), F, F.bindsN fun _ _ _ _ _ _ us hl => match us, hl with | [_, _], _ => rfl⟩
    d_Labels___len__ := by
      obtain ⟨fd, F⟩ := c.def_ 15 (d := dd_Labels___len__) rfl
      exact ⟨_, fd, He.meth_ok (c.fact 50 (f := .meth "Labels" "__len__") rfl), F, F.bindsN fun _ _ _ _ _ _ us hl => match us, hl with | [_], _ => rfl⟩
    d_Labels___eq__ := by
      obtain ⟨fd, F⟩ := c.def_ 16 (d := dd_Labels___eq__) rfl
      exact ⟨_, fd, He.meth_ok (c.fact 51 (f := .meth "Labels" "__eq__") rfl), F, F.bindsN fun _ _ _ _ _ _ us hl => match us, hl with | [_, _], _ => rfl⟩
    d_Labels__need := by
      obtain ⟨fd, F⟩ := c.def_ 17 (d := dd_Labels__need) rfl
      exact ⟨_, fd, He.meth_ok (c.fact 52 (f := .meth "Labels" "_need") rfl), F, F.bindsN fun _ _ _ _ _ _ us hl => match us, hl with | [_, _], _ => rfl⟩
    d_Labels__end := by
      obtain ⟨fd, F⟩ := c.def_ 18 (d := dd_Labels__end) rfl
      exact ⟨_, fd, He.meth_ok (c.fact 53 (f := .meth "Labels" "_end") rfl), F, F.bindsN fun _ _ _ _ _ _ us hl => match us, hl with | [_, _], _ => rfl⟩
    d_Labels__within := by
      obtain ⟨fd, F⟩ := c.def_ 19 (d := dd_Labels__within) rfl
      exact ⟨_, fd, He.meth_ok (c.fact 54 (f := .meth "Labels" "_within") rfl), F, F.bindsN fun _ _ _ _ _ _ us hl => match us, hl with | [_, _, _], _ => rfl⟩
    d_Labels__level := by
      obtain ⟨fd, F⟩ := c.def_ 20 (d := dd_Labels__level) rfl
      exact ⟨_, fd, He.meth_ok (c.fact 55 (f := .meth "Labels" "_level") rfl), F, F.bindsN fun _ _ _ _ _ _ us hl => match us, hl with | [_, _], _ => rfl⟩
    d_Labels__lay := by
      obtain ⟨fd, F⟩ := c.def_ 21 (d := dd_Labels__lay) rfl
      exact ⟨_, fd, He.meth_ok (c.fact 56 (f := .meth "Labels" "_lay") rfl), F, F.bindsN fun _ _ _ _ _ _ us hl => match us, hl with | [_, _, _, _], _ => rfl⟩
    d_Labels_put := by
      obtain ⟨fd, F⟩ := c.def_ 22 (d := dd_Labels_put) rfl
      exact ⟨_, fd, He.meth_ok (c.fact 57 (f := .meth "Labels" "put") rfl), F, F.bindsN fun _ _ _ _ _ _ us hl => match us, hl with | [_, _], _ => rfl⟩
    d_Labels_label := by
      obtain ⟨fd, F⟩ := c.def_ 23 (d := dd_Labels_label) rfl
      exact ⟨_, fd, He.meth_ok (c.fact 58 (f := .meth "Labels" "label") rfl), F, F.bindsN fun _ _ _ _ _ _ us hl => match us, hl with | [_, _], _ => rfl⟩
    d_Labels_behind := by
      obtain ⟨fd, F⟩ := c.def_ 24 (d := dd_Labels_behind) rfl
      exact ⟨_, fd, He.meth_ok (c.fact 59 (f := .meth "Labels" "behind") rfl), F, F.bindsN fun _ _ _ _ _ _ us hl => match us, hl with | [_, _], _ => rfl⟩
    d_Labels_row := by
      obtain ⟨fd, F⟩ := c.def_ 25 (d := dd_Labels_row) rfl
      exact ⟨_, fd, He.meth_ok (c.fact 60 (f := .meth "Labels" "row") rfl), F, F.bindsN fun _ _ _ _ _ _ us hl => match us, hl with | [_], _ => rfl⟩
    d_Labels_moved := by
      obtain ⟨fd, F⟩ := c.def_ 26 (d := dd_Labels_moved) rfl
      exact ⟨_, fd, He.meth_ok (c.fact 61 (f := .meth "Labels" "moved") rfl), F, F.bindsN fun _ _ _ _ _ _ us hl => match us, hl with | [_], _ => rfl⟩
    o_Labels := He.glo_ok X G (c.fact 42 (f := .glo "Labels") rfl)
    k_Labels := ⟨He.cls_ok (c.fact 43 (f := .cls "Labels") rfl), List.forall_mem_cons.mpr ⟨He.noat_ok (c.fact 45 (f := .noat "Labels" "bits") rfl), List.forall_mem_cons.mpr ⟨He.noat_ok (c.fact 46 (f := .noat "Labels" "line") rfl), List.forall_mem_cons.mpr ⟨He.noat_ok (c.fact 47 (f := .noat "Labels" "marks") rfl), List.forall_mem_cons.mpr ⟨He.noat_ok (c.fact 48 (f := .noat "Labels" "total") rfl), fun _ h => nomatch h⟩⟩⟩⟩, by decide, by decide⟩
    n_Labels := ⟨_, He.mkr_ok (c.fact 44 (f := .mkr "Labels") rfl)⟩
    i_Labels := insB_ok (He.cls_ok (c.fact 43 (f := .cls "Labels") rfl)) (List.all_eq_true.mp (He.ba cx.more).2 "Labels" (List.mem_of_getElem? (i := 0) rfl))
    b_abs := He.free_ok X G (c.fact 14 (f := .free "abs") rfl)
    b_bool := He.free_ok X G (c.fact 15 (f := .free "bool") rfl)
    b_enumerate := He.free_ok X G (c.fact 16 (f := .free "enumerate") rfl)
    b_int := He.free_ok X G (c.fact 17 (f := .free "int") rfl)
    b_isinstance := He.free_ok X G (c.fact 18 (f := .free "isinstance") rfl)
    b_len := He.free_ok X G (c.fact 19 (f := .free "len") rfl)
    b_list := He.free_ok X G (c.fact 20 (f := .free "list") rfl)
    b_max := He.free_ok X G (c.fact 21 (f := .free "max") rfl)
    b_min := He.free_ok X G (c.fact 22 (f := .free "min") rfl)
    b_range := He.free_ok X G (c.fact 23 (f := .free "range") rfl)
    b_repr := He.free_ok X G (c.fact 24 (f := .free "repr") rfl)
    b_set := He.free_ok X G (c.fact 25 (f := .free "set") rfl)
    b_sorted := He.free_ok X G (c.fact 26 (f := .free "sorted") rfl)
    b_sum := He.free_ok X G (c.fact 27 (f := .free "sum") rfl)
    g_MOST_BITS := He.int_ok X G (c.fact 28 (f := .int "MOST_BITS" G_MOST_BITS) rfl)
    g_MOST_NUMBER := He.int_ok X G (c.fact 29 (f := .int "MOST_NUMBER" G_MOST_NUMBER) rfl)
    c_CopyError := ⟨_, He.glo_ok X G (c.fact 30 (f := .glo "CopyError") rfl)⟩
    c_BadBits := ⟨_, He.glo_ok X G (c.fact 31 (f := .glo "BadBits") rfl)⟩
    x_BadBits := exF_of X G (c.fact 31 (f := .glo "BadBits") rfl) (c.fact 30 (f := .glo "CopyError") rfl) (c.fact 32 (f := .exc "BadBits") rfl) (c.fact 33 (f := .exm "BadBits" "CopyError" true) rfl)
    y_BadBits := exC_of X G (c.fact 31 (f := .glo "BadBits") rfl) (List.all_eq_true.mp (He.ba (He.ba (He.ba cx.more).1).2).1 "BadBits" (List.mem_of_getElem? (i := 0) rfl))
    c_BadItem := ⟨_, He.glo_ok X G (c.fact 34 (f := .glo "BadItem") rfl)⟩
    x_BadItem := exF_of X G (c.fact 34 (f := .glo "BadItem") rfl) (c.fact 30 (f := .glo "CopyError") rfl) (c.fact 35 (f := .exc "BadItem") rfl) (c.fact 36 (f := .exm "BadItem" "CopyError" true) rfl)
    y_BadItem := exC_of X G (c.fact 34 (f := .glo "BadItem") rfl) (List.all_eq_true.mp (He.ba (He.ba (He.ba cx.more).1).2).1 "BadItem" (List.mem_of_getElem? (i := 1) rfl))
    c_BadLabels := ⟨_, He.glo_ok X G (c.fact 37 (f := .glo "BadLabels") rfl)⟩
    x_BadLabels := exF_of X G (c.fact 37 (f := .glo "BadLabels") rfl) (c.fact 30 (f := .glo "CopyError") rfl) (c.fact 38 (f := .exc "BadLabels") rfl) (c.fact 39 (f := .exm "BadLabels" "CopyError" true) rfl)
    y_BadLabels := exC_of X G (c.fact 37 (f := .glo "BadLabels") rfl) (List.all_eq_true.mp (He.ba (He.ba (He.ba cx.more).1).2).1 "BadLabels" (List.mem_of_getElem? (i := 2) rfl))
    c_Full := ⟨_, He.glo_ok X G (c.fact 40 (f := .glo "Full") rfl)⟩
    s_Full := exS_of X G (c.fact 40 (f := .glo "Full") rfl) (c.fact 30 (f := .glo "CopyError") rfl) (c.fact 41 (f := .exm "Full" "CopyError" true) rfl) (List.all_eq_true.mp (He.ba (He.ba (He.ba cx.more).1).2).2 ("Full", "many") (List.mem_of_getElem? (i := 0) rfl))
    z_Full := exSC_of X G (c.fact 40 (f := .glo "Full") rfl) (List.all_eq_true.mp (He.ba (He.ba (He.ba cx.more).1).2).2 ("Full", "many") (List.mem_of_getElem? (i := 0) rfl)) }
theorem law_run {w : World} {h : Heap} {mg : Str → Option Value} {f : Addr} (Y : hkL.says w h) (G : h.Ns mainGlobals mg) (hfa : mg ("law" : Str) = some (.ref f)) : ∃ K : PySem.W.Frag, K.In h ∧ LawAtG PySem.Challenge.rw_asifcopied_k21_whole_long_rows w K 63 "script" mg f h := by
  obtain ⟨K, X, cx⟩ := Y
  have c : He.SaysD faL fnL K := cx.t.d
  have Z := fzL X G cx
  have nd : ((lamOf K tfL).map (·.1)).Nodup := lamOf_nd (He.ba (He.ba cx.more).1).1
  obtain ⟨fd, F⟩ := c.def_ 13 (d := dd_law) rfl
  have e := hfa.symm.trans (He.glo_ok X G (c.fact 13 (f := .glo "law") rfl))
  cases e
  have b := FunD.bindsA (ps := ["script"]) F fun _ _ _ _ _ _ us hl => match us, hl with | [_], _ => rfl

  refine ⟨K, X, fd, tfL.map (He.cT K), @toSp (lamTs (lamOf K tfL) (He.ga K)) K 0 ct_law, fun p hp => ?_, fun p hp => ?_, fun p hp => ?_, fun s v => b s [v] rfl, fun H a ns hl hT hS => ?_, fun base hK hG hTB => ?_⟩
  · obtain ⟨q, hq, rfl⟩ := List.mem_map.mp hp; exact cx.empty q hq
  · obtain ⟨q, hq, rfl⟩ := List.mem_map.mp hp; exact cx.out q hq
  · obtain ⟨q, hq, rfl⟩ := List.mem_map.mp hp; exact PySem.W.codeHd_of_K X (cx.hd q hq)
  · exact sp_lawT _ (fun zs hz => ⟨zs, ⟨rfl, hz⟩, fun d ds' q => q⟩) (Nat.le_trans hl (by decide)) (lamOf_tab hT) hS
  · letI : LamT := lamTs (lamOf K tfL) (He.ga K)
    exact ok_law (base := base) Z  F 

end K21
open PySem PySem.W PySem.Calls PyProof.Rows
theorem PySem.Challenge.cw_asifcopied_k21_whole_long_rows_holds : PySem.Challenge.rw_asifcopied_k21_whole_long_rows.Holds := by
  w_on; o_law
  refine HandSHeadRun.head_any (r := OpenLaw.row PySem.Challenge.rw_asifcopied_k21_whole_long_rows) (q := view (OpenLaw.row PySem.Challenge.rw_asifcopied_k21_whole_long_rows).prog [26]) (H := K21.hkL) (ob := K21.obL) (M := 4000) (loose := K21.looseL) (d := HandSHeadRun.topDef (OpenLaw.row PySem.Challenge.rw_asifcopied_k21_whole_long_rows).prog 26) (kwd := []) K21.obL_eq
    (by kernel_rfl) (fun s => by kernel_rfl) K21.runL (by kernel_rfl) (by kernel_rfl) (by kernel_rfl) (by rfl) (by first | assumption | decide +kernel) (by decide +kernel) ⟨rfl, rfl, rfl, rfl, rfl, by decide +kernel⟩ ?hw ?hc
  case hw => w_witness2
  case hc =>
    refine DL.walk_G (l := PySem.Challenge.rw_asifcopied_k21_whole_long_rows) (n := 63) (x := "script") rfl (by decide) (by kernel_rfl) ?F
    intro w mg fa h Y G hmg0
    have hmg : mg ("law" : PySem.Str) = some (.ref fa) := by
      have e : (HandSHeadRun.topDef (OpenLaw.row PySem.Challenge.rw_asifcopied_k21_whole_long_rows).prog 26).name = ("law" : PySem.Str) := by kernel_rfl
      rw [← e]
      exact hmg0
    exact K21.law_run Y G hmg



